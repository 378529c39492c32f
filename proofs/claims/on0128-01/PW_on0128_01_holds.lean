import PyProof.Rows.All
import Wide.All
import OpenK.AllK
import Wide.FinOn
import KE.BitLaws
import KE.KNestM
import Lean
import PySem.Challenge.RW_on0128_01
open PySem PySem.W PyProof.Rows
set_option Elab.async false
set_option backward.match.sparseCases false
set_option genInjectivity false
set_option genSizeOf false
set_option maxRecDepth 100000
set_option maxHeartbeats 8000000
set_option linter.unusedSimpArgs false
set_option linter.unusedVariables false

namespace MineH.Internal
/-! ### the written part of the heap, in short words -/
noncomputable abbrev pg : Program := PySem.Challenge.pw_on0128_01
noncomputable abbrev sv (s : String) (t : Tok) : Value := .str (Str.ofString s) t
noncomputable abbrev rf (a : Addr) : Value := .ref a
noncomputable abbrev iv (i : Int) (t : Tok) : Value := .int i t
noncomputable abbrev nv₀ : Value := .none
noncomputable abbrev bv (b : Bool) : Value := .bool b
noncomputable abbrev tv (s : String) : Value := .type s
noncomputable abbrev en (P : Params) (s : String) (t : Tok) (v : Value) : DictEntry := ⟨PyData.keyHash P (Str.ofString s), .str (Str.ofString s) t, v⟩
noncomputable abbrev ob (c : Value) (d : Data) : Obj := { cls := c, data := d }
noncomputable abbrev obs (c : Value) (d : Data) (sl : Array (Option Value)) : Obj := { cls := c, data := d, slots := sl }
noncomputable abbrev tu (vs : Array Value) : Obj := { cls := .type "tuple", data := .seq vs }
noncomputable abbrev di (es : Array DictEntry) (n : Nat) : Obj := { cls := .type "dict", data := .dict es n }
noncomputable def st1 (i : Nat) : Stmt := (pg.main.body[i]?).getD (.Pass default)
noncomputable def st2 (i j : Nat) : Stmt := match st1 i with | .ClassDef _ _ _ b .. => (b[j]?).getD (.Pass default) | _ => .Pass default
noncomputable def sP : Stmt → Arguments | .FunctionDef _ a .. => a | _ => default
noncomputable def sB : Stmt → List Stmt | .FunctionDef _ _ b .. => b | _ => []
noncomputable def sS : Stmt → Scope | .FunctionDef _ _ _ _ _ _ s .. => s | _ => default
noncomputable abbrev fu (s : Stmt) (n q : String) (dV kV md : Value) (code : Value) : Data :=
  .func { name := Str.ofString n, qualname := Str.ofString q, params := sP s, body := .stmts (sB s), scope := sS s, globals := 3, closure := [], defaults := dV, kwdefaults := kV, pyModule := md, code := code }
noncomputable abbrev fz (s : Stmt) (n q : String) : Data :=
  .func { name := Str.ofString n, qualname := Str.ofString q, params := sP s, body := .stmts (sB s), scope := sS s, globals := 0, closure := [], defaults := .none, kwdefaults := .none }
noncomputable def o43 (_ : Params) : Obj := tu #[]
noncomputable def o44 (_ : Params) : Obj := ob nv₀ (.fields #[])
noncomputable def o45 (_ : Params) : Obj := ob (tv "code") (.fields #[sv "<module>" 182, sv "<module>" 183, sv "/claim/cut.py" 184, iv 1 0, iv 0 0, iv 0 0, iv 0 0, iv 0 0, rf 11, bv false, iv 181 0, rf 12, nv₀, nv₀, nv₀, nv₀, iv 185 0, iv 1 0, sv "/claim/cut.py" 186])
noncomputable def o46 (_ : Params) : Obj := obs (tv "frame") .plain #[some (rf 13), some (rf 3), some (rf 3), none, some (sv "__main__" 164), none, some (rf 0)]
noncomputable def o49 (P : Params) : Obj := ob nv₀ (.dict #[en P "type.__subclasses__.Exception.0" 228 (iv 39 0), en P "type.__subclasses__.Exception.n" 229 (iv 1 0)] 2)
noncomputable def o111 (P : Params) : Obj := di #[en P "__name__" 165 (sv "gateloom.netlist" 248), en P "__doc__" 166 nv₀, en P "__package__" 167 nv₀, en P "__loader__" 168 (Value.builtin "__main__.__loader__#opaque"), en P "__spec__" 169 nv₀, en P "__annotations__" 170 (rf 6), en P "__builtins__" 171 (rf 4), en P "__file__" 173 (sv "/claim/cut.py" 172), en P "__cached__" 174 nv₀, en P "_wall" 193 (rf 21), en P "GateloomError" 231 (rf 39), en P "SynthError" 247 (rf 52), en P "CONST0" 251 (iv 0 250), en P "CONST1" 253 (iv 1 252), en P "FLOP_PINS" 258 (rf 55), en P "LATCH_PINS" 263 (rf 56), en P "is_state_kind" 270 (rf 63), en P "state_name" 277 (rf 70), en P "Netlist" 387 (rf 143)] 19
noncomputable def o112 (_ : Params) : Obj := ob nv₀ (.fields #[iv 1 0, iv 0 0, rf 20, iv 5 0, iv 0 0, rf 27, iv 11 0, iv 0 0, rf 48, iv 18 0, iv 0 0, rf 62, iv 20 0, iv 0 0, rf 69, iv 24 0, iv 0 0, rf 76])
noncomputable def o54 (_ : Params) : Obj := tu #[sv "k" 190]
noncomputable def o56 (_ : Params) : Obj := ob nv₀ (fz (st1 0) "_wall" "_wall")
noncomputable def o57 (_ : Params) : Obj := ob (tv "code") (.fields #[sv "_wall" 187, sv "_wall" 188, sv "/claim/cut.py" 189, iv 1 0, iv 1 0, iv 0 0, iv 0 0, iv 3 0, rf 15, bv true, iv 181 0, rf 16, nv₀, rf 17, rf 18, rf 19, iv 191 0, iv 1 0, sv "/claim/cut.py" 192])
noncomputable def o58 (_ : Params) : Obj := ob (tv "function") (fu (st1 0) "_wall" "_wall" nv₀ nv₀ (sv "__main__" 164) (rf 20))
noncomputable def o59 (_ : Params) : Obj := tu #[tv "Exception"]
noncomputable def o60 (_ : Params) : Obj := ob (tv "builtin_function_or_method") (.fields #[Value.builtin "type.__prepare__", tv "type"])
noncomputable def o61 (P : Params) : Obj := di #[en P "__module__" 203 (sv "gateloom.errors" 194), en P "__qualname__" 205 (sv "GateloomError" 204), en P "__firstlineno__" 207 (iv 5 206), en P "__init__" 220 (rf 36), en P "__static_attributes__" 224 (rf 37)] 5
noncomputable def o63 (_ : Params) : Obj := ob nv₀ (.fields #[iv 7 0, iv 4 0, rf 35])
noncomputable def o64 (_ : Params) : Obj := ob (tv "code") (.fields #[sv "GateloomError" 198, sv "GateloomError" 199, sv "/claim/cut.py" 200, iv 5 0, iv 0 0, iv 0 0, iv 0 0, iv 0 0, rf 25, bv false, iv 181 0, rf 26, nv₀, nv₀, nv₀, nv₀, iv 201 0, iv 5 0, sv "/claim/cut.py" 202])
noncomputable def o65 (_ : Params) : Obj := obs (tv "frame") .plain #[some (rf 27), some (rf 3), some (rf 24), none, some (sv "gateloom.errors" 194), none, some (rf 0)]
noncomputable def o66 (_ : Params) : Obj := tu #[iv (-1) 209, sv "" 210]
noncomputable def o69 (_ : Params) : Obj := tu #[sv "self" 214, sv "kind" 215, sv "at" 216, sv "detail" 217]
noncomputable def o71 (_ : Params) : Obj := ob nv₀ (fz (st2 2 0) "__init__" "GateloomError.__init__")
noncomputable def o72 (_ : Params) : Obj := ob (tv "code") (.fields #[sv "__init__" 211, sv "GateloomError.__init__" 212, sv "/claim/cut.py" 213, iv 7 0, iv 4 0, iv 0 0, iv 0 0, iv 3 0, rf 30, bv true, iv 181 0, rf 31, nv₀, rf 32, rf 33, rf 34, iv 218 0, iv 7 0, sv "/claim/cut.py" 219])
noncomputable def o73 (_ : Params) : Obj := ob (tv "function") (fu (st2 2 0) "__init__" "GateloomError.__init__" (rf 29) nv₀ (sv "gateloom.errors" 194) (rf 35))
noncomputable def o74 (_ : Params) : Obj := tu #[sv "at" 221, sv "detail" 222, sv "kind" 223]
noncomputable def o75 (P : Params) : Obj := di #[en P "__module__" 203 (sv "gateloom.errors" 194), en P "__firstlineno__" 207 (iv 5 206), en P "__init__" 220 (rf 36), en P "__static_attributes__" 224 (rf 37), en P "__weakref__" 226 (rf 40), en P "__doc__" 227 nv₀] 3
noncomputable def o82 (_ : Params) : Obj := obs (tv "type") (.cls { name := Str.ofString "GateloomError", bases := [tv "Exception"], mro := [rf 39, tv "Exception", tv "BaseException", tv "object"], ns := 38, qualname := Str.ofString "GateloomError", subclasses := [rf 52] }) #[some (rf 22), none, some (sv "GateloomError" 196), some (sv "GateloomError" 204), some (Value.builtin "Exception.__new__"), some (bv true)]
noncomputable def o77 (_ : Params) : Obj := ob (tv "getset_descriptor") (.fields #[sv "__weakref__" 225, rf 39, Value.builtin "ExceptionGroup.__weakref__", nv₀])
noncomputable def o78 (_ : Params) : Obj := ob (tv "super") (.fields #[rf 39, rf 39, rf 39])
noncomputable def o79 (_ : Params) : Obj := ob (tv "builtin_function_or_method") (.fields #[Value.builtin "object.__init_subclass__", rf 39])
noncomputable def o83 (_ : Params) : Obj := tu #[rf 39]
noncomputable def o85 (P : Params) : Obj := di #[en P "__module__" 239 (sv "gateloom.errors" 194), en P "__qualname__" 241 (sv "SynthError" 240), en P "__firstlineno__" 243 (iv 11 242), en P "__static_attributes__" 244 (rf 50)] 4
noncomputable def o88 (_ : Params) : Obj := ob (tv "code") (.fields #[sv "SynthError" 234, sv "SynthError" 235, sv "/claim/cut.py" 236, iv 11 0, iv 0 0, iv 0 0, iv 0 0, iv 0 0, rf 46, bv false, iv 181 0, rf 47, nv₀, nv₀, nv₀, nv₀, iv 237 0, iv 11 0, sv "/claim/cut.py" 238])
noncomputable def o89 (_ : Params) : Obj := obs (tv "frame") .plain #[some (rf 48), some (rf 3), some (rf 45), none, some (sv "gateloom.errors" 194), none, some (rf 0)]
noncomputable def o91 (P : Params) : Obj := di #[en P "__module__" 239 (sv "gateloom.errors" 194), en P "__firstlineno__" 243 (iv 11 242), en P "__static_attributes__" 244 (rf 50), en P "__doc__" 245 nv₀] 2
noncomputable def o92 (_ : Params) : Obj := obs (tv "type") (.cls { name := Str.ofString "SynthError", bases := [rf 39], mro := [rf 52, rf 39, tv "Exception", tv "BaseException", tv "object"], ns := 51, qualname := Str.ofString "SynthError" }) #[some (rf 43), none, some (sv "SynthError" 232), some (sv "SynthError" 240), some (Value.builtin "Exception.__new__"), some (bv true)]
noncomputable def o93 (_ : Params) : Obj := ob (tv "super") (.fields #[rf 52, rf 52, rf 52])
noncomputable def o94 (_ : Params) : Obj := ob (tv "builtin_function_or_method") (.fields #[Value.builtin "object.__init_subclass__", rf 52])
noncomputable def o95 (_ : Params) : Obj := tu #[sv "clk" 254, sv "d" 255, sv "set" 256, sv "reset" 257]
noncomputable def o96 (_ : Params) : Obj := tu #[sv "en" 259, sv "d" 260, sv "set" 261, sv "reset" 262]
noncomputable def o99 (_ : Params) : Obj := tu #[sv "kind" 267]
noncomputable def o101 (_ : Params) : Obj := ob nv₀ (fz (st1 9) "is_state_kind" "is_state_kind")
noncomputable def o102 (_ : Params) : Obj := ob (tv "code") (.fields #[sv "is_state_kind" 264, sv "is_state_kind" 265, sv "/claim/cut.py" 266, iv 18 0, iv 1 0, iv 0 0, iv 0 0, iv 3 0, rf 57, bv true, iv 181 0, rf 58, nv₀, rf 59, rf 60, rf 61, iv 268 0, iv 18 0, sv "/claim/cut.py" 269])
noncomputable def o103 (_ : Params) : Obj := ob (tv "function") (fu (st1 9) "is_state_kind" "is_state_kind" nv₀ nv₀ (sv "gateloom.netlist" 248) (rf 62))
noncomputable def o106 (_ : Params) : Obj := tu #[sv "cell" 274]
noncomputable def o108 (_ : Params) : Obj := ob nv₀ (fz (st1 10) "state_name" "state_name")
noncomputable def o109 (_ : Params) : Obj := ob (tv "code") (.fields #[sv "state_name" 271, sv "state_name" 272, sv "/claim/cut.py" 273, iv 20 0, iv 1 0, iv 0 0, iv 0 0, iv 3 0, rf 64, bv true, iv 181 0, rf 65, nv₀, rf 66, rf 67, rf 68, iv 275 0, iv 20 0, sv "/claim/cut.py" 276])
noncomputable def o110 (_ : Params) : Obj := ob (tv "function") (fu (st1 10) "state_name" "state_name" nv₀ nv₀ (sv "gateloom.netlist" 248) (rf 69))
noncomputable def o115 (P : Params) : Obj := di #[en P "__module__" 285 (sv "gateloom.netlist" 248), en P "__qualname__" 287 (sv "Netlist" 286), en P "__firstlineno__" 289 (iv 24 288), en P "__init__" 297 (rf 84), en P "new_net" 305 (rf 91), en P "new_nets" 311 (rf 96), en P "add_input" 321 (rf 103), en P "add_output" 330 (rf 110), en P "add_cell" 341 (rf 118), en P "drive" 352 (rf 126), en P "sources" 363 (rf 133), en P "sinks" 374 (rf 140), en P "__static_attributes__" 380 (rf 141)] 13
noncomputable def o117 (_ : Params) : Obj := ob nv₀ (.fields #[iv 26 0, iv 4 0, rf 83, iv 33 0, iv 4 0, rf 90, iv 38 0, iv 4 0, rf 95, iv 41 0, iv 4 0, rf 102, iv 46 0, iv 4 0, rf 109, iv 49 0, iv 4 0, rf 117, iv 54 0, iv 4 0, rf 125, iv 57 0, iv 4 0, rf 132, iv 66 0, iv 4 0, rf 139])
noncomputable def o118 (_ : Params) : Obj := ob (tv "code") (.fields #[sv "Netlist" 280, sv "Netlist" 281, sv "/claim/cut.py" 282, iv 24 0, iv 0 0, iv 0 0, iv 0 0, iv 0 0, rf 74, bv false, iv 181 0, rf 75, nv₀, nv₀, nv₀, nv₀, iv 283 0, iv 24 0, sv "/claim/cut.py" 284])
noncomputable def o119 (_ : Params) : Obj := obs (tv "frame") .plain #[some (rf 76), some (rf 3), some (rf 73), none, some (sv "gateloom.netlist" 248), none, some (rf 0)]
noncomputable def o122 (_ : Params) : Obj := tu #[sv "self" 293, sv "name" 294]
noncomputable def o124 (_ : Params) : Obj := ob nv₀ (fz (st2 11 0) "__init__" "Netlist.__init__")
noncomputable def o125 (_ : Params) : Obj := ob (tv "code") (.fields #[sv "__init__" 290, sv "Netlist.__init__" 291, sv "/claim/cut.py" 292, iv 26 0, iv 2 0, iv 0 0, iv 0 0, iv 3 0, rf 78, bv true, iv 181 0, rf 79, nv₀, rf 80, rf 81, rf 82, iv 295 0, iv 26 0, sv "/claim/cut.py" 296])
noncomputable def o126 (_ : Params) : Obj := ob (tv "function") (fu (st2 11 0) "__init__" "Netlist.__init__" nv₀ nv₀ (sv "gateloom.netlist" 248) (rf 83))
noncomputable def o129 (_ : Params) : Obj := tu #[sv "self" 301, sv "net" 302]
noncomputable def o131 (_ : Params) : Obj := ob nv₀ (fz (st2 11 1) "new_net" "Netlist.new_net")
noncomputable def o132 (_ : Params) : Obj := ob (tv "code") (.fields #[sv "new_net" 298, sv "Netlist.new_net" 299, sv "/claim/cut.py" 300, iv 33 0, iv 1 0, iv 0 0, iv 0 0, iv 3 0, rf 85, bv true, iv 181 0, rf 86, nv₀, rf 87, rf 88, rf 89, iv 303 0, iv 33 0, sv "/claim/cut.py" 304])
noncomputable def o133 (_ : Params) : Obj := ob (tv "function") (fu (st2 11 1) "new_net" "Netlist.new_net" nv₀ nv₀ (sv "gateloom.netlist" 248) (rf 90))
noncomputable def o136 (_ : Params) : Obj := ob nv₀ (fz (st2 11 2) "new_nets" "Netlist.new_nets")
noncomputable def o137 (_ : Params) : Obj := ob (tv "code") (.fields #[sv "new_nets" 306, sv "Netlist.new_nets" 307, sv "/claim/cut.py" 308, iv 38 0, iv 2 0, iv 0 0, iv 0 0, iv 3 0, rf 92, bv true, iv 181 0, rf 93, nv₀, nv₀, nv₀, rf 94, iv 309 0, iv 38 0, sv "/claim/cut.py" 310])
noncomputable def o138 (_ : Params) : Obj := ob (tv "function") (fu (st2 11 2) "new_nets" "Netlist.new_nets" nv₀ nv₀ (sv "gateloom.netlist" 248) (rf 95))
noncomputable def o141 (_ : Params) : Obj := tu #[sv "self" 315, sv "name" 316, sv "width" 317, sv "nets" 318]
noncomputable def o143 (_ : Params) : Obj := ob nv₀ (fz (st2 11 3) "add_input" "Netlist.add_input")
noncomputable def o144 (_ : Params) : Obj := ob (tv "code") (.fields #[sv "add_input" 312, sv "Netlist.add_input" 313, sv "/claim/cut.py" 314, iv 41 0, iv 3 0, iv 0 0, iv 0 0, iv 3 0, rf 97, bv true, iv 181 0, rf 98, nv₀, rf 99, rf 100, rf 101, iv 319 0, iv 41 0, sv "/claim/cut.py" 320])
noncomputable def o145 (_ : Params) : Obj := ob (tv "function") (fu (st2 11 3) "add_input" "Netlist.add_input" nv₀ nv₀ (sv "gateloom.netlist" 248) (rf 102))
noncomputable def o148 (_ : Params) : Obj := tu #[sv "self" 325, sv "name" 326, sv "nets" 327]
noncomputable def o150 (_ : Params) : Obj := ob nv₀ (fz (st2 11 4) "add_output" "Netlist.add_output")
noncomputable def o151 (_ : Params) : Obj := ob (tv "code") (.fields #[sv "add_output" 322, sv "Netlist.add_output" 323, sv "/claim/cut.py" 324, iv 46 0, iv 3 0, iv 0 0, iv 0 0, iv 3 0, rf 104, bv true, iv 181 0, rf 105, nv₀, rf 106, rf 107, rf 108, iv 328 0, iv 46 0, sv "/claim/cut.py" 329])
noncomputable def o152 (_ : Params) : Obj := ob (tv "function") (fu (st2 11 4) "add_output" "Netlist.add_output" nv₀ nv₀ (sv "gateloom.netlist" 248) (rf 109))
noncomputable def o153 (_ : Params) : Obj := tu #[nv₀]
noncomputable def o156 (_ : Params) : Obj := tu #[sv "self" 334, sv "kind" 335, sv "ins" 336, sv "param" 337, sv "out" 338]
noncomputable def o158 (_ : Params) : Obj := ob nv₀ (fz (st2 11 5) "add_cell" "Netlist.add_cell")
noncomputable def o159 (_ : Params) : Obj := ob (tv "code") (.fields #[sv "add_cell" 331, sv "Netlist.add_cell" 332, sv "/claim/cut.py" 333, iv 49 0, iv 4 0, iv 0 0, iv 0 0, iv 3 0, rf 112, bv true, iv 181 0, rf 113, nv₀, rf 114, rf 115, rf 116, iv 339 0, iv 49 0, sv "/claim/cut.py" 340])
noncomputable def o160 (_ : Params) : Obj := ob (tv "function") (fu (st2 11 5) "add_cell" "Netlist.add_cell" (rf 111) nv₀ (sv "gateloom.netlist" 248) (rf 117))
noncomputable def o164 (_ : Params) : Obj := tu #[sv "self" 345, sv "out" 346, sv "kind" 347, sv "ins" 348, sv "param" 349]
noncomputable def o166 (_ : Params) : Obj := ob nv₀ (fz (st2 11 6) "drive" "Netlist.drive")
noncomputable def o167 (_ : Params) : Obj := ob (tv "code") (.fields #[sv "drive" 342, sv "Netlist.drive" 343, sv "/claim/cut.py" 344, iv 54 0, iv 5 0, iv 0 0, iv 0 0, iv 3 0, rf 120, bv true, iv 181 0, rf 121, nv₀, rf 122, rf 123, rf 124, iv 350 0, iv 54 0, sv "/claim/cut.py" 351])
noncomputable def o168 (_ : Params) : Obj := ob (tv "function") (fu (st2 11 6) "drive" "Netlist.drive" (rf 119) nv₀ (sv "gateloom.netlist" 248) (rf 125))
noncomputable def o171 (_ : Params) : Obj := tu #[sv "self" 356, sv "nets" 357, sv "name" 358, sv "bits" 359, sv "cell" 360]
noncomputable def o173 (_ : Params) : Obj := ob nv₀ (fz (st2 11 7) "sources" "Netlist.sources")
noncomputable def o174 (_ : Params) : Obj := ob (tv "code") (.fields #[sv "sources" 353, sv "Netlist.sources" 354, sv "/claim/cut.py" 355, iv 57 0, iv 1 0, iv 0 0, iv 0 0, iv 3 0, rf 127, bv true, iv 181 0, rf 128, nv₀, rf 129, rf 130, rf 131, iv 361 0, iv 57 0, sv "/claim/cut.py" 362])
noncomputable def o175 (_ : Params) : Obj := ob (tv "function") (fu (st2 11 7) "sources" "Netlist.sources" nv₀ nv₀ (sv "gateloom.netlist" 248) (rf 132))
noncomputable def o178 (_ : Params) : Obj := tu #[sv "self" 367, sv "nets" 368, sv "name" 369, sv "bits" 370, sv "cell" 371]
noncomputable def o180 (_ : Params) : Obj := ob nv₀ (fz (st2 11 8) "sinks" "Netlist.sinks")
noncomputable def o181 (_ : Params) : Obj := ob (tv "code") (.fields #[sv "sinks" 364, sv "Netlist.sinks" 365, sv "/claim/cut.py" 366, iv 66 0, iv 1 0, iv 0 0, iv 0 0, iv 3 0, rf 134, bv true, iv 181 0, rf 135, nv₀, rf 136, rf 137, rf 138, iv 372 0, iv 66 0, sv "/claim/cut.py" 373])
noncomputable def o182 (_ : Params) : Obj := ob (tv "function") (fu (st2 11 8) "sinks" "Netlist.sinks" nv₀ nv₀ (sv "gateloom.netlist" 248) (rf 139))
noncomputable def o183 (_ : Params) : Obj := tu #[sv "cells" 375, sv "count" 376, sv "inputs" 377, sv "name" 378, sv "outputs" 379]
noncomputable def o184 (P : Params) : Obj := di #[en P "__module__" 285 (sv "gateloom.netlist" 248), en P "__firstlineno__" 289 (iv 24 288), en P "__init__" 297 (rf 84), en P "new_net" 305 (rf 91), en P "new_nets" 311 (rf 96), en P "add_input" 321 (rf 103), en P "add_output" 330 (rf 110), en P "add_cell" 341 (rf 118), en P "drive" 352 (rf 126), en P "sources" 363 (rf 133), en P "sinks" 374 (rf 140), en P "__static_attributes__" 380 (rf 141), en P "__dict__" 382 (rf 144), en P "__weakref__" 384 (rf 145), en P "__doc__" 385 nv₀] 4
noncomputable def o185 (_ : Params) : Obj := obs (tv "type") (.cls { name := Str.ofString "Netlist", bases := [tv "object"], mro := [rf 143, tv "object"], ns := 142, qualname := Str.ofString "Netlist" }) #[none, none, some (sv "Netlist" 278), some (sv "Netlist" 286), some (Value.builtin "object.__new__"), some (bv true)]
noncomputable def o186 (_ : Params) : Obj := ob (tv "getset_descriptor") (.fields #[sv "__dict__" 381, rf 143, Value.builtin "function.__dict__", Value.builtin "function.__dict__#set"])
noncomputable def o187 (_ : Params) : Obj := ob (tv "getset_descriptor") (.fields #[sv "__weakref__" 383, rf 143, Value.builtin "ExceptionGroup.__weakref__", nv₀])
noncomputable def o188 (_ : Params) : Obj := ob (tv "super") (.fields #[rf 143, rf 143, rf 143])
noncomputable def o189 (_ : Params) : Obj := ob (tv "builtin_function_or_method") (.fields #[Value.builtin "object.__init_subclass__", rf 143])
noncomputable def o241 (P : Params) : Obj := di #[en P "__name__" 165 (sv "gateloom.aig" 466), en P "__doc__" 166 nv₀, en P "__package__" 167 nv₀, en P "__loader__" 168 (Value.builtin "__main__.__loader__#opaque"), en P "__spec__" 169 nv₀, en P "__annotations__" 170 (rf 6), en P "__builtins__" 171 (rf 4), en P "__file__" 173 (sv "/claim/cut.py" 172), en P "__cached__" 174 nv₀, en P "_wall" 193 (rf 21), en P "GateloomError" 231 (rf 39), en P "SynthError" 247 (rf 52), en P "CONST0" 251 (iv 0 250), en P "CONST1" 253 (iv 1 252), en P "FLOP_PINS" 258 (rf 55), en P "LATCH_PINS" 263 (rf 56), en P "is_state_kind" 270 (rf 63), en P "state_name" 277 (rf 70), en P "Netlist" 387 (rf 143), en P "bit_names" 398 (rf 154), en P "source_names" 407 (rf 161), en P "sink_names" 418 (rf 168), en P "state_cells" 427 (rf 175), en P "drivers" 440 (rf 182), en P "ordered_cells" 457 (rf 189), en P "comb_order" 465 (rf 196), en P "Aig" 603 (rf 291)] 27
noncomputable def o242 (_ : Params) : Obj := ob nv₀ (.fields #[iv 1 0, iv 0 0, rf 20, iv 5 0, iv 0 0, rf 27, iv 11 0, iv 0 0, rf 48, iv 18 0, iv 0 0, rf 62, iv 20 0, iv 0 0, rf 69, iv 24 0, iv 0 0, rf 76, iv 74 0, iv 0 0, rf 153, iv 80 0, iv 0 0, rf 160, iv 86 0, iv 0 0, rf 167, iv 94 0, iv 0 0, rf 174, iv 100 0, iv 0 0, rf 181, iv 115 0, iv 0 0, rf 188, iv 142 0, iv 0 0, rf 195, iv 148 0, iv 0 0, rf 202])
noncomputable def o194 (_ : Params) : Obj := tu #[sv "ports" 391, sv "names" 392, sv "name" 393, sv "bits" 394, sv "place" 395]
noncomputable def o196 (_ : Params) : Obj := ob nv₀ (fz (st1 12) "bit_names" "bit_names")
noncomputable def o197 (_ : Params) : Obj := ob (tv "code") (.fields #[sv "bit_names" 388, sv "bit_names" 389, sv "/claim/cut.py" 390, iv 74 0, iv 1 0, iv 0 0, iv 0 0, iv 3 0, rf 148, bv true, iv 181 0, rf 149, nv₀, rf 150, rf 151, rf 152, iv 396 0, iv 74 0, sv "/claim/cut.py" 397])
noncomputable def o198 (_ : Params) : Obj := ob (tv "function") (fu (st1 12) "bit_names" "bit_names" nv₀ nv₀ (sv "gateloom.netlist" 248) (rf 153))
noncomputable def o201 (_ : Params) : Obj := tu #[sv "netlist" 402, sv "names" 403, sv "cell" 404]
noncomputable def o203 (_ : Params) : Obj := ob nv₀ (fz (st1 13) "source_names" "source_names")
noncomputable def o204 (_ : Params) : Obj := ob (tv "code") (.fields #[sv "source_names" 399, sv "source_names" 400, sv "/claim/cut.py" 401, iv 80 0, iv 1 0, iv 0 0, iv 0 0, iv 3 0, rf 155, bv true, iv 181 0, rf 156, nv₀, rf 157, rf 158, rf 159, iv 405 0, iv 80 0, sv "/claim/cut.py" 406])
noncomputable def o205 (_ : Params) : Obj := ob (tv "function") (fu (st1 13) "source_names" "source_names" nv₀ nv₀ (sv "gateloom.netlist" 248) (rf 160))
noncomputable def o208 (_ : Params) : Obj := tu #[sv "netlist" 411, sv "names" 412, sv "cell" 413, sv "pins" 414, sv "pin" 415]
noncomputable def o210 (_ : Params) : Obj := ob nv₀ (fz (st1 14) "sink_names" "sink_names")
noncomputable def o211 (_ : Params) : Obj := ob (tv "code") (.fields #[sv "sink_names" 408, sv "sink_names" 409, sv "/claim/cut.py" 410, iv 86 0, iv 1 0, iv 0 0, iv 0 0, iv 3 0, rf 162, bv true, iv 181 0, rf 163, nv₀, rf 164, rf 165, rf 166, iv 416 0, iv 86 0, sv "/claim/cut.py" 417])
noncomputable def o212 (_ : Params) : Obj := ob (tv "function") (fu (st1 14) "sink_names" "sink_names" nv₀ nv₀ (sv "gateloom.netlist" 248) (rf 167))
noncomputable def o215 (_ : Params) : Obj := tu #[sv "netlist" 422, sv "found" 423, sv "index" 424]
noncomputable def o217 (_ : Params) : Obj := ob nv₀ (fz (st1 15) "state_cells" "state_cells")
noncomputable def o218 (_ : Params) : Obj := ob (tv "code") (.fields #[sv "state_cells" 419, sv "state_cells" 420, sv "/claim/cut.py" 421, iv 94 0, iv 1 0, iv 0 0, iv 0 0, iv 3 0, rf 169, bv true, iv 181 0, rf 170, nv₀, rf 171, rf 172, rf 173, iv 425 0, iv 94 0, sv "/claim/cut.py" 426])
noncomputable def o219 (_ : Params) : Obj := ob (tv "function") (fu (st1 15) "state_cells" "state_cells" nv₀ nv₀ (sv "gateloom.netlist" 248) (rf 174))
noncomputable def o222 (_ : Params) : Obj := tu #[sv "netlist" 431, sv "taken" 432, sv "name" 433, sv "bits" 434, sv "net" 435, sv "found" 436, sv "index" 437]
noncomputable def o224 (_ : Params) : Obj := ob nv₀ (fz (st1 16) "drivers" "drivers")
noncomputable def o225 (_ : Params) : Obj := ob (tv "code") (.fields #[sv "drivers" 428, sv "drivers" 429, sv "/claim/cut.py" 430, iv 100 0, iv 1 0, iv 0 0, iv 0 0, iv 3 0, rf 176, bv true, iv 181 0, rf 177, nv₀, rf 178, rf 179, rf 180, iv 438 0, iv 100 0, sv "/claim/cut.py" 439])
noncomputable def o226 (_ : Params) : Obj := ob (tv "function") (fu (st1 16) "drivers" "drivers" nv₀ nv₀ (sv "gateloom.netlist" 248) (rf 181))
noncomputable def o229 (_ : Params) : Obj := tu #[sv "netlist" 444, sv "driven" 445, sv "cells" 446, sv "waiting" 447, sv "users" 448, sv "ready" 449, sv "index" 450, sv "count" 451, sv "net" 452, sv "before" 453, sv "turn" 454]
noncomputable def o231 (_ : Params) : Obj := ob nv₀ (fz (st1 17) "ordered_cells" "ordered_cells")
noncomputable def o232 (_ : Params) : Obj := ob (tv "code") (.fields #[sv "ordered_cells" 441, sv "ordered_cells" 442, sv "/claim/cut.py" 443, iv 115 0, iv 2 0, iv 0 0, iv 0 0, iv 3 0, rf 183, bv true, iv 181 0, rf 184, nv₀, rf 185, rf 186, rf 187, iv 455 0, iv 115 0, sv "/claim/cut.py" 456])
noncomputable def o233 (_ : Params) : Obj := ob (tv "function") (fu (st1 17) "ordered_cells" "ordered_cells" nv₀ nv₀ (sv "gateloom.netlist" 248) (rf 188))
noncomputable def o236 (_ : Params) : Obj := tu #[sv "netlist" 461, sv "order" 462]
noncomputable def o238 (_ : Params) : Obj := ob nv₀ (fz (st1 18) "comb_order" "comb_order")
noncomputable def o239 (_ : Params) : Obj := ob (tv "code") (.fields #[sv "comb_order" 458, sv "comb_order" 459, sv "/claim/cut.py" 460, iv 142 0, iv 1 0, iv 0 0, iv 0 0, iv 3 0, rf 190, bv true, iv 181 0, rf 191, nv₀, rf 192, rf 193, rf 194, iv 463 0, iv 142 0, sv "/claim/cut.py" 464])
noncomputable def o240 (_ : Params) : Obj := ob (tv "function") (fu (st1 18) "comb_order" "comb_order" nv₀ nv₀ (sv "gateloom.netlist" 248) (rf 195))
noncomputable def o245 (P : Params) : Obj := di #[en P "__module__" 475 (sv "gateloom.aig" 466), en P "__qualname__" 477 (sv "Aig" 476), en P "__firstlineno__" 479 (iv 148 478), en P "__init__" 486 (rf 210), en P "add_input" 494 (rf 217), en P "add_output" 502 (rf 224), en P "is_and" 510 (rf 231), en P "land" 520 (rf 238), en P "lor" 529 (rf 245), en P "lxor" 541 (rf 252), en P "lmux" 551 (rf 259), en P "levels" 558 (rf 266), en P "users" 569 (rf 273), en P "uses" 576 (rf 280), en P "value" 591 (rf 288), en P "__static_attributes__" 596 (rf 289)] 16
noncomputable def o247 (_ : Params) : Obj := ob nv₀ (.fields #[iv 150 0, iv 4 0, rf 209, iv 156 0, iv 4 0, rf 216, iv 162 0, iv 4 0, rf 223, iv 165 0, iv 4 0, rf 230, iv 168 0, iv 4 0, rf 237, iv 182 0, iv 4 0, rf 244, iv 185 0, iv 4 0, rf 251, iv 191 0, iv 4 0, rf 258, iv 196 0, iv 4 0, rf 265, iv 199 0, iv 4 0, rf 272, iv 209 0, iv 4 0, rf 279, iv 212 0, iv 4 0, rf 287])
noncomputable def o248 (_ : Params) : Obj := ob (tv "code") (.fields #[sv "Aig" 470, sv "Aig" 471, sv "/claim/cut.py" 472, iv 148 0, iv 0 0, iv 0 0, iv 0 0, iv 0 0, rf 200, bv false, iv 181 0, rf 201, nv₀, nv₀, nv₀, nv₀, iv 473 0, iv 148 0, sv "/claim/cut.py" 474])
noncomputable def o249 (_ : Params) : Obj := obs (tv "frame") .plain #[some (rf 202), some (rf 3), some (rf 199), none, some (sv "gateloom.aig" 466), none, some (rf 0)]
noncomputable def o252 (_ : Params) : Obj := tu #[sv "self" 483]
noncomputable def o254 (_ : Params) : Obj := ob nv₀ (fz (st2 20 0) "__init__" "Aig.__init__")
noncomputable def o255 (_ : Params) : Obj := ob (tv "code") (.fields #[sv "__init__" 480, sv "Aig.__init__" 481, sv "/claim/cut.py" 482, iv 150 0, iv 1 0, iv 0 0, iv 0 0, iv 3 0, rf 204, bv true, iv 181 0, rf 205, nv₀, rf 206, rf 207, rf 208, iv 484 0, iv 150 0, sv "/claim/cut.py" 485])
noncomputable def o256 (_ : Params) : Obj := ob (tv "function") (fu (st2 20 0) "__init__" "Aig.__init__" nv₀ nv₀ (sv "gateloom.aig" 466) (rf 209))
noncomputable def o259 (_ : Params) : Obj := tu #[sv "self" 490, sv "node" 491]
noncomputable def o261 (_ : Params) : Obj := ob nv₀ (fz (st2 20 1) "add_input" "Aig.add_input")
noncomputable def o262 (_ : Params) : Obj := ob (tv "code") (.fields #[sv "add_input" 487, sv "Aig.add_input" 488, sv "/claim/cut.py" 489, iv 156 0, iv 1 0, iv 0 0, iv 0 0, iv 3 0, rf 211, bv true, iv 181 0, rf 212, nv₀, rf 213, rf 214, rf 215, iv 492 0, iv 156 0, sv "/claim/cut.py" 493])
noncomputable def o263 (_ : Params) : Obj := ob (tv "function") (fu (st2 20 1) "add_input" "Aig.add_input" nv₀ nv₀ (sv "gateloom.aig" 466) (rf 216))
noncomputable def o266 (_ : Params) : Obj := tu #[sv "self" 498, sv "literal" 499]
noncomputable def o268 (_ : Params) : Obj := ob nv₀ (fz (st2 20 2) "add_output" "Aig.add_output")
noncomputable def o269 (_ : Params) : Obj := ob (tv "code") (.fields #[sv "add_output" 495, sv "Aig.add_output" 496, sv "/claim/cut.py" 497, iv 162 0, iv 2 0, iv 0 0, iv 0 0, iv 3 0, rf 218, bv true, iv 181 0, rf 219, nv₀, rf 220, rf 221, rf 222, iv 500 0, iv 162 0, sv "/claim/cut.py" 501])
noncomputable def o270 (_ : Params) : Obj := ob (tv "function") (fu (st2 20 2) "add_output" "Aig.add_output" nv₀ nv₀ (sv "gateloom.aig" 466) (rf 223))
noncomputable def o273 (_ : Params) : Obj := tu #[sv "self" 506, sv "node" 507]
noncomputable def o275 (_ : Params) : Obj := ob nv₀ (fz (st2 20 3) "is_and" "Aig.is_and")
noncomputable def o276 (_ : Params) : Obj := ob (tv "code") (.fields #[sv "is_and" 503, sv "Aig.is_and" 504, sv "/claim/cut.py" 505, iv 165 0, iv 2 0, iv 0 0, iv 0 0, iv 3 0, rf 225, bv true, iv 181 0, rf 226, nv₀, rf 227, rf 228, rf 229, iv 508 0, iv 165 0, sv "/claim/cut.py" 509])
noncomputable def o277 (_ : Params) : Obj := ob (tv "function") (fu (st2 20 3) "is_and" "Aig.is_and" nv₀ nv₀ (sv "gateloom.aig" 466) (rf 230))
noncomputable def o280 (_ : Params) : Obj := tu #[sv "self" 514, sv "l" 515, sv "r" 516, sv "node" 517]
noncomputable def o282 (_ : Params) : Obj := ob nv₀ (fz (st2 20 4) "land" "Aig.land")
noncomputable def o283 (_ : Params) : Obj := ob (tv "code") (.fields #[sv "land" 511, sv "Aig.land" 512, sv "/claim/cut.py" 513, iv 168 0, iv 3 0, iv 0 0, iv 0 0, iv 3 0, rf 232, bv true, iv 181 0, rf 233, nv₀, rf 234, rf 235, rf 236, iv 518 0, iv 168 0, sv "/claim/cut.py" 519])
noncomputable def o284 (_ : Params) : Obj := ob (tv "function") (fu (st2 20 4) "land" "Aig.land" nv₀ nv₀ (sv "gateloom.aig" 466) (rf 237))
noncomputable def o287 (_ : Params) : Obj := tu #[sv "self" 524, sv "l" 525, sv "r" 526]
noncomputable def o289 (_ : Params) : Obj := ob nv₀ (fz (st2 20 5) "lor" "Aig.lor")
noncomputable def o290 (_ : Params) : Obj := ob (tv "code") (.fields #[sv "lor" 521, sv "Aig.lor" 522, sv "/claim/cut.py" 523, iv 182 0, iv 3 0, iv 0 0, iv 0 0, iv 3 0, rf 239, bv true, iv 181 0, rf 240, nv₀, rf 241, rf 242, rf 243, iv 527 0, iv 182 0, sv "/claim/cut.py" 528])
noncomputable def o291 (_ : Params) : Obj := ob (tv "function") (fu (st2 20 5) "lor" "Aig.lor" nv₀ nv₀ (sv "gateloom.aig" 466) (rf 244))
noncomputable def o294 (_ : Params) : Obj := tu #[sv "self" 533, sv "l" 534, sv "r" 535, sv "sign" 536, sv "left" 537, sv "right" 538]
noncomputable def o296 (_ : Params) : Obj := ob nv₀ (fz (st2 20 6) "lxor" "Aig.lxor")
noncomputable def o297 (_ : Params) : Obj := ob (tv "code") (.fields #[sv "lxor" 530, sv "Aig.lxor" 531, sv "/claim/cut.py" 532, iv 185 0, iv 3 0, iv 0 0, iv 0 0, iv 3 0, rf 246, bv true, iv 181 0, rf 247, nv₀, rf 248, rf 249, rf 250, iv 539 0, iv 185 0, sv "/claim/cut.py" 540])
noncomputable def o298 (_ : Params) : Obj := ob (tv "function") (fu (st2 20 6) "lxor" "Aig.lxor" nv₀ nv₀ (sv "gateloom.aig" 466) (rf 251))
noncomputable def o301 (_ : Params) : Obj := tu #[sv "self" 545, sv "s" 546, sv "a" 547, sv "b" 548]
noncomputable def o303 (_ : Params) : Obj := ob nv₀ (fz (st2 20 7) "lmux" "Aig.lmux")
noncomputable def o304 (_ : Params) : Obj := ob (tv "code") (.fields #[sv "lmux" 542, sv "Aig.lmux" 543, sv "/claim/cut.py" 544, iv 191 0, iv 4 0, iv 0 0, iv 0 0, iv 3 0, rf 253, bv true, iv 181 0, rf 254, nv₀, rf 255, rf 256, rf 257, iv 549 0, iv 191 0, sv "/claim/cut.py" 550])
noncomputable def o305 (_ : Params) : Obj := ob (tv "function") (fu (st2 20 7) "lmux" "Aig.lmux" nv₀ nv₀ (sv "gateloom.aig" 466) (rf 258))
noncomputable def o308 (_ : Params) : Obj := tu #[sv "self" 555]
noncomputable def o310 (_ : Params) : Obj := ob nv₀ (fz (st2 20 8) "levels" "Aig.levels")
noncomputable def o311 (_ : Params) : Obj := ob (tv "code") (.fields #[sv "levels" 552, sv "Aig.levels" 553, sv "/claim/cut.py" 554, iv 196 0, iv 1 0, iv 0 0, iv 0 0, iv 3 0, rf 260, bv true, iv 181 0, rf 261, nv₀, rf 262, rf 263, rf 264, iv 556 0, iv 196 0, sv "/claim/cut.py" 557])
noncomputable def o312 (_ : Params) : Obj := ob (tv "function") (fu (st2 20 8) "levels" "Aig.levels" nv₀ nv₀ (sv "gateloom.aig" 466) (rf 265))
noncomputable def o315 (_ : Params) : Obj := tu #[sv "self" 562, sv "rows" 563, sv "node" 564, sv "pair" 565, sv "literal" 566]
noncomputable def o317 (_ : Params) : Obj := ob nv₀ (fz (st2 20 9) "users" "Aig.users")
noncomputable def o318 (_ : Params) : Obj := ob (tv "code") (.fields #[sv "users" 559, sv "Aig.users" 560, sv "/claim/cut.py" 561, iv 199 0, iv 1 0, iv 0 0, iv 0 0, iv 3 0, rf 267, bv true, iv 181 0, rf 268, nv₀, rf 269, rf 270, rf 271, iv 567 0, iv 199 0, sv "/claim/cut.py" 568])
noncomputable def o319 (_ : Params) : Obj := ob (tv "function") (fu (st2 20 9) "users" "Aig.users" nv₀ nv₀ (sv "gateloom.aig" 466) (rf 272))
noncomputable def o322 (_ : Params) : Obj := tu #[sv "self" 573]
noncomputable def o324 (_ : Params) : Obj := ob nv₀ (fz (st2 20 10) "uses" "Aig.uses")
noncomputable def o325 (_ : Params) : Obj := ob (tv "code") (.fields #[sv "uses" 570, sv "Aig.uses" 571, sv "/claim/cut.py" 572, iv 209 0, iv 1 0, iv 0 0, iv 0 0, iv 3 0, rf 274, bv true, iv 181 0, rf 275, nv₀, rf 276, rf 277, rf 278, iv 574 0, iv 209 0, sv "/claim/cut.py" 575])
noncomputable def o326 (_ : Params) : Obj := ob (tv "function") (fu (st2 20 10) "uses" "Aig.uses" nv₀ nv₀ (sv "gateloom.aig" 466) (rf 279))
noncomputable def o327 (_ : Params) : Obj := tu #[iv 1 577]
noncomputable def o330 (_ : Params) : Obj := tu #[sv "self" 581, sv "words" 582, sv "mask" 583, sv "found" 584, sv "i" 585, sv "node" 586, sv "pair" 587, sv "left" 588]
noncomputable def o332 (_ : Params) : Obj := ob nv₀ (fz (st2 20 11) "value" "Aig.value")
noncomputable def o333 (_ : Params) : Obj := ob (tv "code") (.fields #[sv "value" 578, sv "Aig.value" 579, sv "/claim/cut.py" 580, iv 212 0, iv 3 0, iv 0 0, iv 0 0, iv 3 0, rf 282, bv true, iv 181 0, rf 283, nv₀, rf 284, rf 285, rf 286, iv 589 0, iv 212 0, sv "/claim/cut.py" 590])
noncomputable def o334 (_ : Params) : Obj := ob (tv "function") (fu (st2 20 11) "value" "Aig.value" (rf 281) nv₀ (sv "gateloom.aig" 466) (rf 287))
noncomputable def o335 (_ : Params) : Obj := tu #[sv "inputs" 592, sv "nodes" 593, sv "outputs" 594, sv "table" 595]
noncomputable def o336 (P : Params) : Obj := di #[en P "__module__" 475 (sv "gateloom.aig" 466), en P "__firstlineno__" 479 (iv 148 478), en P "__init__" 486 (rf 210), en P "add_input" 494 (rf 217), en P "add_output" 502 (rf 224), en P "is_and" 510 (rf 231), en P "land" 520 (rf 238), en P "lor" 529 (rf 245), en P "lxor" 541 (rf 252), en P "lmux" 551 (rf 259), en P "levels" 558 (rf 266), en P "users" 569 (rf 273), en P "uses" 576 (rf 280), en P "value" 591 (rf 288), en P "__static_attributes__" 596 (rf 289), en P "__dict__" 598 (rf 292), en P "__weakref__" 600 (rf 293), en P "__doc__" 601 nv₀] 4
noncomputable def o337 (_ : Params) : Obj := obs (tv "type") (.cls { name := Str.ofString "Aig", bases := [tv "object"], mro := [rf 291, tv "object"], ns := 290, qualname := Str.ofString "Aig" }) #[none, none, some (sv "Aig" 468), some (sv "Aig" 476), some (Value.builtin "object.__new__"), some (bv true)]
noncomputable def o338 (_ : Params) : Obj := ob (tv "getset_descriptor") (.fields #[sv "__dict__" 597, rf 291, Value.builtin "function.__dict__", Value.builtin "function.__dict__#set"])
noncomputable def o339 (_ : Params) : Obj := ob (tv "getset_descriptor") (.fields #[sv "__weakref__" 599, rf 291, Value.builtin "ExceptionGroup.__weakref__", nv₀])
noncomputable def o340 (_ : Params) : Obj := ob (tv "super") (.fields #[rf 291, rf 291, rf 291])
noncomputable def o341 (_ : Params) : Obj := ob (tv "builtin_function_or_method") (.fields #[Value.builtin "object.__init_subclass__", rf 291])
noncomputable def o419 (P : Params) : Obj := di #[en P "__name__" 165 (sv "law_on0128_01" 780), en P "__doc__" 166 nv₀, en P "__package__" 167 nv₀, en P "__loader__" 168 (Value.builtin "__main__.__loader__#opaque"), en P "__spec__" 169 nv₀, en P "__annotations__" 170 (rf 6), en P "__builtins__" 171 (rf 4), en P "__file__" 173 (sv "/claim/cut.py" 172), en P "__cached__" 174 nv₀, en P "_wall" 193 (rf 21), en P "GateloomError" 231 (rf 39), en P "SynthError" 247 (rf 52), en P "CONST0" 251 (iv 0 250), en P "CONST1" 253 (iv 1 252), en P "FLOP_PINS" 258 (rf 55), en P "LATCH_PINS" 263 (rf 56), en P "is_state_kind" 270 (rf 63), en P "state_name" 277 (rf 70), en P "Netlist" 387 (rf 143), en P "bit_names" 398 (rf 154), en P "source_names" 407 (rf 161), en P "sink_names" 418 (rf 168), en P "state_cells" 427 (rf 175), en P "drivers" 440 (rf 182), en P "ordered_cells" 457 (rf 189), en P "comb_order" 465 (rf 196), en P "Aig" 603 (rf 291), en P "literal_word" 612 (rf 302), en P "table_literal" 628 (rf 309), en P "cell_literal" 638 (rf 316), en P "literal_of" 646 (rf 323), en P "variable_of" 656 (rf 330), en P "cone_nodes" 662 (rf 384), en P "cone_nodes_cnf" 663 (rf 335), en P "aig_cnf" 677 (rf 342), en P "state_forms" 689 (rf 349), en P "lone_names" 699 (rf 356), en P "matched" 717 (rf 363), en P "add_logic" 737 (rf 370), en P "joint_aig" 756 (rf 377), en P "cone_nodes_equiv" 770 (rf 384), en P "difference_clauses" 779 (rf 391), en P "_law_take" 790 (rf 398), en P "_law_net" 796 (rf 403), en P "_law_value" 802 (rf 408), en P "_law_nodes" 808 (rf 413), en P "_law_held" 814 (rf 418), en P "law" 820 (rf 423)] 48
noncomputable def o420 (_ : Params) : Obj := ob nv₀ (.fields #[iv 1 0, iv 0 0, rf 20, iv 5 0, iv 0 0, rf 27, iv 11 0, iv 0 0, rf 48, iv 18 0, iv 0 0, rf 62, iv 20 0, iv 0 0, rf 69, iv 24 0, iv 0 0, rf 76, iv 74 0, iv 0 0, rf 153, iv 80 0, iv 0 0, rf 160, iv 86 0, iv 0 0, rf 167, iv 94 0, iv 0 0, rf 174, iv 100 0, iv 0 0, rf 181, iv 115 0, iv 0 0, rf 188, iv 142 0, iv 0 0, rf 195, iv 148 0, iv 0 0, rf 202, iv 222 0, iv 0 0, rf 301, iv 226 0, iv 0 0, rf 308, iv 241 0, iv 0 0, rf 315, iv 265 0, iv 0 0, rf 322, iv 270 0, iv 0 0, rf 329, iv 275 0, iv 0 0, rf 334, iv 286 0, iv 0 0, rf 341, iv 302 0, iv 0 0, rf 348, iv 308 0, iv 0 0, rf 355, iv 317 0, iv 0 0, rf 362, iv 336 0, iv 0 0, rf 369, iv 351 0, iv 0 0, rf 376, iv 370 0, iv 0 0, rf 383, iv 385 0, iv 0 0, rf 390, iv 390 0, iv 0 0, rf 397, iv 398 0, iv 0 0, rf 402, iv 412 0, iv 0 0, rf 407, iv 421 0, iv 0 0, rf 412, iv 432 0, iv 0 0, rf 417, iv 437 0, iv 0 0, rf 422])
noncomputable def o346 (_ : Params) : Obj := tu #[sv "words" 607, sv "literal" 608, sv "mask" 609]
noncomputable def o348 (_ : Params) : Obj := ob nv₀ (fz (st1 21) "literal_word" "literal_word")
noncomputable def o349 (_ : Params) : Obj := ob (tv "code") (.fields #[sv "literal_word" 604, sv "literal_word" 605, sv "/claim/cut.py" 606, iv 222 0, iv 3 0, iv 0 0, iv 0 0, iv 3 0, rf 296, bv true, iv 181 0, rf 297, nv₀, rf 298, rf 299, rf 300, iv 610 0, iv 222 0, sv "/claim/cut.py" 611])
noncomputable def o350 (_ : Params) : Obj := ob (tv "function") (fu (st1 21) "literal_word" "literal_word" nv₀ nv₀ (sv "gateloom.aig" 466) (rf 301))
noncomputable def o353 (_ : Params) : Obj := tu #[sv "aig" 616, sv "table" 617, sv "literals" 618, sv "rows" 619, sv "half" 620, sv "low" 621, sv "high" 622, sv "rest" 623, sv "one" 624, sv "zero" 625]
noncomputable def o355 (_ : Params) : Obj := ob nv₀ (fz (st1 22) "table_literal" "table_literal")
noncomputable def o356 (_ : Params) : Obj := ob (tv "code") (.fields #[sv "table_literal" 613, sv "table_literal" 614, sv "/claim/cut.py" 615, iv 226 0, iv 3 0, iv 0 0, iv 0 0, iv 3 0, rf 303, bv true, iv 181 0, rf 304, nv₀, rf 305, rf 306, rf 307, iv 626 0, iv 226 0, sv "/claim/cut.py" 627])
noncomputable def o357 (_ : Params) : Obj := ob (tv "function") (fu (st1 22) "table_literal" "table_literal" nv₀ nv₀ (sv "gateloom.aig" 466) (rf 308))
noncomputable def o360 (_ : Params) : Obj := tu #[sv "aig" 632, sv "kind" 633, sv "param" 634, sv "literals" 635]
noncomputable def o362 (_ : Params) : Obj := ob nv₀ (fz (st1 23) "cell_literal" "cell_literal")
noncomputable def o363 (_ : Params) : Obj := ob (tv "code") (.fields #[sv "cell_literal" 629, sv "cell_literal" 630, sv "/claim/cut.py" 631, iv 241 0, iv 4 0, iv 0 0, iv 0 0, iv 3 0, rf 310, bv true, iv 181 0, rf 311, nv₀, rf 312, rf 313, rf 314, iv 636 0, iv 241 0, sv "/claim/cut.py" 637])
noncomputable def o364 (_ : Params) : Obj := ob (tv "function") (fu (st1 23) "cell_literal" "cell_literal" nv₀ nv₀ (sv "gateloom.aig" 466) (rf 315))
noncomputable def o367 (_ : Params) : Obj := tu #[sv "literals" 642, sv "net" 643]
noncomputable def o369 (_ : Params) : Obj := ob nv₀ (fz (st1 24) "literal_of" "literal_of")
noncomputable def o370 (_ : Params) : Obj := ob (tv "code") (.fields #[sv "literal_of" 639, sv "literal_of" 640, sv "/claim/cut.py" 641, iv 265 0, iv 2 0, iv 0 0, iv 0 0, iv 3 0, rf 317, bv true, iv 181 0, rf 318, nv₀, rf 319, rf 320, rf 321, iv 644 0, iv 265 0, sv "/claim/cut.py" 645])
noncomputable def o371 (_ : Params) : Obj := ob (tv "function") (fu (st1 24) "literal_of" "literal_of" nv₀ nv₀ (sv "gateloom.aig" 466) (rf 322))
noncomputable def o374 (_ : Params) : Obj := tu #[sv "literal" 652, sv "number" 653]
noncomputable def o376 (_ : Params) : Obj := ob nv₀ (fz (st1 26) "variable_of" "variable_of")
noncomputable def o377 (_ : Params) : Obj := ob (tv "code") (.fields #[sv "variable_of" 649, sv "variable_of" 650, sv "/claim/cut.py" 651, iv 270 0, iv 1 0, iv 0 0, iv 0 0, iv 3 0, rf 324, bv true, iv 181 0, rf 325, nv₀, rf 326, rf 327, rf 328, iv 654 0, iv 270 0, sv "/claim/cut.py" 655])
noncomputable def o378 (_ : Params) : Obj := ob (tv "function") (fu (st1 26) "variable_of" "variable_of" nv₀ nv₀ (sv "gateloom.cnf" 647) (rf 329))
noncomputable def o381 (_ : Params) : Obj := ob nv₀ (fz (st1 27) "cone_nodes" "cone_nodes")
noncomputable def o382 (_ : Params) : Obj := ob (tv "code") (.fields #[sv "cone_nodes" 657, sv "cone_nodes" 658, sv "/claim/cut.py" 659, iv 275 0, iv 2 0, iv 0 0, iv 0 0, iv 3 0, rf 331, bv true, iv 181 0, rf 332, nv₀, nv₀, nv₀, rf 333, iv 660 0, iv 275 0, sv "/claim/cut.py" 661])
noncomputable def o383 (_ : Params) : Obj := ob (tv "function") (fu (st1 27) "cone_nodes" "cone_nodes" nv₀ nv₀ (sv "gateloom.cnf" 647) (rf 334))
noncomputable def o386 (_ : Params) : Obj := tu #[sv "aig" 667, sv "literals" 668, sv "clauses" 669, sv "variables" 670, sv "node" 671, sv "out" 672, sv "left" 673, sv "right" 674]
noncomputable def o388 (_ : Params) : Obj := ob nv₀ (fz (st1 29) "aig_cnf" "aig_cnf")
noncomputable def o389 (_ : Params) : Obj := ob (tv "code") (.fields #[sv "aig_cnf" 664, sv "aig_cnf" 665, sv "/claim/cut.py" 666, iv 286 0, iv 2 0, iv 0 0, iv 0 0, iv 3 0, rf 336, bv true, iv 181 0, rf 337, nv₀, rf 338, rf 339, rf 340, iv 675 0, iv 286 0, sv "/claim/cut.py" 676])
noncomputable def o390 (_ : Params) : Obj := ob (tv "function") (fu (st1 29) "aig_cnf" "aig_cnf" nv₀ nv₀ (sv "gateloom.cnf" 647) (rf 341))
noncomputable def o393 (_ : Params) : Obj := tu #[sv "netlist" 683, sv "forms" 684, sv "place" 685, sv "cell" 686]
noncomputable def o395 (_ : Params) : Obj := ob nv₀ (fz (st1 31) "state_forms" "state_forms")
noncomputable def o396 (_ : Params) : Obj := ob (tv "code") (.fields #[sv "state_forms" 680, sv "state_forms" 681, sv "/claim/cut.py" 682, iv 302 0, iv 1 0, iv 0 0, iv 0 0, iv 3 0, rf 343, bv true, iv 181 0, rf 344, nv₀, rf 345, rf 346, rf 347, iv 687 0, iv 302 0, sv "/claim/cut.py" 688])
noncomputable def o397 (_ : Params) : Obj := ob (tv "function") (fu (st1 31) "state_forms" "state_forms" nv₀ nv₀ (sv "gateloom.equiv" 678) (rf 348))
noncomputable def o400 (_ : Params) : Obj := tu #[sv "first" 693, sv "second" 694, sv "lone" 695, sv "name" 696]
noncomputable def o402 (_ : Params) : Obj := ob nv₀ (fz (st1 32) "lone_names" "lone_names")
noncomputable def o403 (_ : Params) : Obj := ob (tv "code") (.fields #[sv "lone_names" 690, sv "lone_names" 691, sv "/claim/cut.py" 692, iv 308 0, iv 2 0, iv 0 0, iv 0 0, iv 3 0, rf 350, bv true, iv 181 0, rf 351, nv₀, rf 352, rf 353, rf 354, iv 697 0, iv 308 0, sv "/claim/cut.py" 698])
noncomputable def o404 (_ : Params) : Obj := ob (tv "function") (fu (st1 32) "lone_names" "lone_names" nv₀ nv₀ (sv "gateloom.equiv" 678) (rf 355))
noncomputable def o407 (_ : Params) : Obj := tu #[sv "n1" 703, sv "n2" 704, sv "lone" 705, sv "forms1" 706, sv "forms2" 707, sv "name" 708, sv "places" 709, sv "names2" 710, sv "j" 711, sv "pairs" 712, sv "names1" 713, sv "i" 714]
noncomputable def o409 (_ : Params) : Obj := ob nv₀ (fz (st1 33) "matched" "matched")
noncomputable def o410 (_ : Params) : Obj := ob (tv "code") (.fields #[sv "matched" 700, sv "matched" 701, sv "/claim/cut.py" 702, iv 317 0, iv 2 0, iv 0 0, iv 0 0, iv 3 0, rf 357, bv true, iv 181 0, rf 358, nv₀, rf 359, rf 360, rf 361, iv 715 0, iv 317 0, sv "/claim/cut.py" 716])
noncomputable def o411 (_ : Params) : Obj := ob (tv "function") (fu (st1 33) "matched" "matched" nv₀ nv₀ (sv "gateloom.equiv" 678) (rf 362))
noncomputable def o414 (_ : Params) : Obj := tu #[sv "aig" 721, sv "netlist" 722, sv "literals" 723, sv "known" 724, sv "sources" 725, sv "i" 726, sv "place" 727, sv "kind" 728, sv "out" 729, sv "ins" 730, sv "param" 731, sv "row" 732, sv "net" 733, sv "found" 734]
noncomputable def o416 (_ : Params) : Obj := ob nv₀ (fz (st1 34) "add_logic" "add_logic")
noncomputable def o417 (_ : Params) : Obj := ob (tv "code") (.fields #[sv "add_logic" 718, sv "add_logic" 719, sv "/claim/cut.py" 720, iv 336 0, iv 3 0, iv 0 0, iv 0 0, iv 3 0, rf 364, bv true, iv 181 0, rf 365, nv₀, rf 366, rf 367, rf 368, iv 735 0, iv 336 0, sv "/claim/cut.py" 736])
noncomputable def o418 (_ : Params) : Obj := ob (tv "function") (fu (st1 34) "add_logic" "add_logic" nv₀ nv₀ (sv "gateloom.equiv" 678) (rf 369))
noncomputable def o423 (_ : Params) : Obj := tu #[sv "n1" 741, sv "n2" 742, sv "aig" 743, sv "shared" 744, sv "literals" 745, sv "name" 746, sv "literal" 747, sv "others" 748, sv "sinks1" 749, sv "sinks2" 750, sv "pairs" 751, sv "i" 752, sv "j" 753]
noncomputable def o425 (_ : Params) : Obj := ob nv₀ (fz (st1 35) "joint_aig" "joint_aig")
noncomputable def o426 (_ : Params) : Obj := ob (tv "code") (.fields #[sv "joint_aig" 738, sv "joint_aig" 739, sv "/claim/cut.py" 740, iv 351 0, iv 2 0, iv 0 0, iv 0 0, iv 3 0, rf 371, bv true, iv 181 0, rf 372, nv₀, rf 373, rf 374, rf 375, iv 754 0, iv 351 0, sv "/claim/cut.py" 755])
noncomputable def o427 (_ : Params) : Obj := ob (tv "function") (fu (st1 35) "joint_aig" "joint_aig" nv₀ nv₀ (sv "gateloom.equiv" 678) (rf 376))
noncomputable def o430 (_ : Params) : Obj := tu #[sv "aig" 760, sv "literals" 761, sv "seen" 762, sv "stack" 763, sv "literal" 764, sv "node" 765, sv "pair" 766]
noncomputable def o432 (_ : Params) : Obj := ob nv₀ (fz (st1 36) "cone_nodes" "cone_nodes")
noncomputable def o433 (_ : Params) : Obj := ob (tv "code") (.fields #[sv "cone_nodes" 757, sv "cone_nodes" 758, sv "/claim/cut.py" 759, iv 370 0, iv 2 0, iv 0 0, iv 0 0, iv 3 0, rf 378, bv true, iv 181 0, rf 379, nv₀, rf 380, rf 381, rf 382, iv 767 0, iv 370 0, sv "/claim/cut.py" 768])
noncomputable def o434 (_ : Params) : Obj := ob (tv "function") (fu (st1 36) "cone_nodes" "cone_nodes" nv₀ nv₀ (sv "gateloom.equiv" 678) (rf 383))
noncomputable def o437 (_ : Params) : Obj := tu #[sv "aig" 774, sv "literal" 775, sv "clauses" 776]
noncomputable def o439 (_ : Params) : Obj := ob nv₀ (fz (st1 38) "difference_clauses" "difference_clauses")
noncomputable def o440 (_ : Params) : Obj := ob (tv "code") (.fields #[sv "difference_clauses" 771, sv "difference_clauses" 772, sv "/claim/cut.py" 773, iv 385 0, iv 2 0, iv 0 0, iv 0 0, iv 3 0, rf 385, bv true, iv 181 0, rf 386, nv₀, rf 387, rf 388, rf 389, iv 777 0, iv 385 0, sv "/claim/cut.py" 778])
noncomputable def o441 (_ : Params) : Obj := ob (tv "function") (fu (st1 38) "difference_clauses" "difference_clauses" nv₀ nv₀ (sv "gateloom.equiv" 678) (rf 390))
noncomputable def o444 (_ : Params) : Obj := tu #[sv "source" 785, sv "most" 786, sv "found" 787]
noncomputable def o446 (_ : Params) : Obj := ob nv₀ (fz (st1 40) "_law_take" "_law_take")
noncomputable def o447 (_ : Params) : Obj := ob (tv "code") (.fields #[sv "_law_take" 782, sv "_law_take" 783, sv "/claim/cut.py" 784, iv 390 0, iv 2 0, iv 0 0, iv 0 0, iv 3 0, rf 392, bv true, iv 181 0, rf 393, nv₀, rf 394, rf 395, rf 396, iv 788 0, iv 390 0, sv "/claim/cut.py" 789])
noncomputable def o448 (_ : Params) : Obj := ob (tv "function") (fu (st1 40) "_law_take" "_law_take" nv₀ nv₀ (sv "law_on0128_01" 780) (rf 397))
noncomputable def o451 (_ : Params) : Obj := ob nv₀ (fz (st1 41) "_law_net" "_law_net")
noncomputable def o452 (_ : Params) : Obj := ob (tv "code") (.fields #[sv "_law_net" 791, sv "_law_net" 792, sv "/claim/cut.py" 793, iv 398 0, iv 2 0, iv 0 0, iv 0 0, iv 3 0, rf 399, bv true, iv 181 0, rf 400, nv₀, nv₀, nv₀, rf 401, iv 794 0, iv 398 0, sv "/claim/cut.py" 795])
noncomputable def o453 (_ : Params) : Obj := ob (tv "function") (fu (st1 41) "_law_net" "_law_net" nv₀ nv₀ (sv "law_on0128_01" 780) (rf 402))
noncomputable def o456 (_ : Params) : Obj := ob nv₀ (fz (st1 42) "_law_value" "_law_value")
noncomputable def o457 (_ : Params) : Obj := ob (tv "code") (.fields #[sv "_law_value" 797, sv "_law_value" 798, sv "/claim/cut.py" 799, iv 412 0, iv 4 0, iv 0 0, iv 0 0, iv 3 0, rf 404, bv true, iv 181 0, rf 405, nv₀, nv₀, nv₀, rf 406, iv 800 0, iv 412 0, sv "/claim/cut.py" 801])
noncomputable def o458 (_ : Params) : Obj := ob (tv "function") (fu (st1 42) "_law_value" "_law_value" nv₀ nv₀ (sv "law_on0128_01" 780) (rf 407))
noncomputable def o461 (_ : Params) : Obj := ob nv₀ (fz (st1 43) "_law_nodes" "_law_nodes")
noncomputable def o462 (_ : Params) : Obj := ob (tv "code") (.fields #[sv "_law_nodes" 803, sv "_law_nodes" 804, sv "/claim/cut.py" 805, iv 421 0, iv 2 0, iv 0 0, iv 0 0, iv 3 0, rf 409, bv true, iv 181 0, rf 410, nv₀, nv₀, nv₀, rf 411, iv 806 0, iv 421 0, sv "/claim/cut.py" 807])
noncomputable def o463 (_ : Params) : Obj := ob (tv "function") (fu (st1 43) "_law_nodes" "_law_nodes" nv₀ nv₀ (sv "law_on0128_01" 780) (rf 412))
noncomputable def o466 (_ : Params) : Obj := ob nv₀ (fz (st1 44) "_law_held" "_law_held")
noncomputable def o467 (_ : Params) : Obj := ob (tv "code") (.fields #[sv "_law_held" 809, sv "_law_held" 810, sv "/claim/cut.py" 811, iv 432 0, iv 2 0, iv 0 0, iv 0 0, iv 3 0, rf 414, bv true, iv 181 0, rf 415, nv₀, nv₀, nv₀, rf 416, iv 812 0, iv 432 0, sv "/claim/cut.py" 813])
noncomputable def o468 (_ : Params) : Obj := ob (tv "function") (fu (st1 44) "_law_held" "_law_held" nv₀ nv₀ (sv "law_on0128_01" 780) (rf 417))
noncomputable def o471 (_ : Params) : Obj := ob nv₀ (fz (st1 45) "law" "law")
noncomputable def o472 (_ : Params) : Obj := ob (tv "code") (.fields #[sv "law" 815, sv "law" 816, sv "/claim/cut.py" 817, iv 437 0, iv 1 0, iv 0 0, iv 0 0, iv 3 0, rf 419, bv true, iv 181 0, rf 420, nv₀, nv₀, nv₀, rf 421, iv 818 0, iv 437 0, sv "/claim/cut.py" 819])
noncomputable def o473 (_ : Params) : Obj := ob (tv "function") (fu (st1 45) "law" "law" nv₀ nv₀ (sv "law_on0128_01" 780) (rf 422))
noncomputable def hA (P : Params) : Heap := ⟨⟨[boot_o_0 P, boot_o_1 P, boot_o_2 P, boot_o_3 P, boot_o_4 P, boot_o_5 P, boot_o_6 P, boot_o_7 P, boot_o_8 P, boot_o_9 P, boot_o_10 P, o43 P, o44 P, o45 P, o46 P]⟩, {}⟩
noncomputable def hB (P : Params) : Heap := ⟨⟨[boot_o_0 P, boot_o_1 P, boot_o_2 P, boot_o_3 P, boot_o_4 P, boot_o_5 P, boot_o_6 P, boot_o_7 P, boot_o_8 P, boot_o_9 P, boot_o_10 P, o43 P, o44 P, o45 P, o46 P]⟩, {}⟩
noncomputable def hD (P : Params) : Heap := ⟨⟨[boot_o_0 P, boot_o_1 P, o49 P, o111 P, boot_o_4 P, boot_o_5 P, boot_o_6 P, boot_o_7 P, boot_o_8 P, boot_o_9 P, boot_o_10 P, o43 P, o112 P, o45 P, o46 P, o43 P, o44 P, o54 P, o43 P, o56 P, o57 P, o58 P, o59 P, o60 P, o61 P, o43 P, o63 P, o64 P, o65 P, o66 P, o43 P, o44 P, o69 P, o43 P, o71 P, o72 P, o73 P, o74 P, o75 P, o82 P, o77 P, o78 P, o79 P, o83 P, o60 P, o85 P, o43 P, o44 P, o88 P, o89 P, o43 P, o91 P, o92 P, o93 P, o94 P, o95 P, o96 P, o43 P, o44 P, o99 P, o43 P, o101 P, o102 P, o103 P, o43 P, o44 P, o106 P, o43 P, o108 P, o109 P, o110 P, o43 P, o60 P, o115 P, o43 P, o117 P, o118 P, o119 P, o43 P, o44 P, o122 P, o43 P, o124 P, o125 P, o126 P, o43 P, o44 P, o129 P, o43 P, o131 P, o132 P, o133 P, o43 P, o44 P, o136 P, o137 P, o138 P, o43 P, o44 P, o141 P, o43 P, o143 P, o144 P, o145 P, o43 P, o44 P, o148 P, o43 P, o150 P, o151 P, o152 P, o153 P, o43 P, o44 P, o156 P, o43 P, o158 P, o159 P, o160 P, o153 P, o43 P, o44 P, o164 P, o43 P, o166 P, o167 P, o168 P, o43 P, o44 P, o171 P, o43 P, o173 P, o174 P, o175 P, o43 P, o44 P, o178 P, o43 P, o180 P, o181 P, o182 P, o183 P, o184 P, o185 P, o186 P, o187 P, o188 P, o189 P]⟩, {}⟩
noncomputable def hF (P : Params) : Heap := ⟨⟨[boot_o_0 P, boot_o_1 P, o49 P, o241 P, boot_o_4 P, boot_o_5 P, boot_o_6 P, boot_o_7 P, boot_o_8 P, boot_o_9 P, boot_o_10 P, o43 P, o242 P, o45 P, o46 P, o43 P, o44 P, o54 P, o43 P, o56 P, o57 P, o58 P, o59 P, o60 P, o61 P, o43 P, o63 P, o64 P, o65 P, o66 P, o43 P, o44 P, o69 P, o43 P, o71 P, o72 P, o73 P, o74 P, o75 P, o82 P, o77 P, o78 P, o79 P, o83 P, o60 P, o85 P, o43 P, o44 P, o88 P, o89 P, o43 P, o91 P, o92 P, o93 P, o94 P, o95 P, o96 P, o43 P, o44 P, o99 P, o43 P, o101 P, o102 P, o103 P, o43 P, o44 P, o106 P, o43 P, o108 P, o109 P, o110 P, o43 P, o60 P, o115 P, o43 P, o117 P, o118 P, o119 P, o43 P, o44 P, o122 P, o43 P, o124 P, o125 P, o126 P, o43 P, o44 P, o129 P, o43 P, o131 P, o132 P, o133 P, o43 P, o44 P, o136 P, o137 P, o138 P, o43 P, o44 P, o141 P, o43 P, o143 P, o144 P, o145 P, o43 P, o44 P, o148 P, o43 P, o150 P, o151 P, o152 P, o153 P, o43 P, o44 P, o156 P, o43 P, o158 P, o159 P, o160 P, o153 P, o43 P, o44 P, o164 P, o43 P, o166 P, o167 P, o168 P, o43 P, o44 P, o171 P, o43 P, o173 P, o174 P, o175 P, o43 P, o44 P, o178 P, o43 P, o180 P, o181 P, o182 P, o183 P, o184 P, o185 P, o186 P, o187 P, o188 P, o189 P, o43 P, o44 P, o194 P, o43 P, o196 P, o197 P, o198 P, o43 P, o44 P, o201 P, o43 P, o203 P, o204 P, o205 P, o43 P, o44 P, o208 P, o43 P, o210 P, o211 P, o212 P, o43 P, o44 P, o215 P, o43 P, o217 P, o218 P, o219 P, o43 P, o44 P, o222 P, o43 P, o224 P, o225 P, o226 P, o43 P, o44 P, o229 P, o43 P, o231 P, o232 P, o233 P, o43 P, o44 P, o236 P, o43 P, o238 P, o239 P, o240 P, o43 P, o60 P, o245 P, o43 P, o247 P, o248 P, o249 P, o43 P, o44 P, o252 P, o43 P, o254 P, o255 P, o256 P, o43 P, o44 P, o259 P, o43 P, o261 P, o262 P, o263 P, o43 P, o44 P, o266 P, o43 P, o268 P, o269 P, o270 P, o43 P, o44 P, o273 P, o43 P, o275 P, o276 P, o277 P, o43 P, o44 P, o280 P, o43 P, o282 P, o283 P, o284 P, o43 P, o44 P, o287 P, o43 P, o289 P, o290 P, o291 P, o43 P, o44 P, o294 P, o43 P, o296 P, o297 P, o298 P, o43 P, o44 P, o301 P, o43 P, o303 P, o304 P, o305 P, o43 P, o44 P, o308 P, o43 P, o310 P, o311 P, o312 P, o43 P, o44 P, o315 P, o43 P, o317 P, o318 P, o319 P, o43 P, o44 P, o322 P, o43 P, o324 P, o325 P, o326 P, o327 P, o43 P, o44 P, o330 P, o43 P, o332 P, o333 P, o334 P, o335 P, o336 P, o337 P, o338 P, o339 P, o340 P, o341 P]⟩, {}⟩
noncomputable def hI (P : Params) : Heap := ⟨⟨[boot_o_0 P, boot_o_1 P, o49 P, o419 P, boot_o_4 P, boot_o_5 P, boot_o_6 P, boot_o_7 P, boot_o_8 P, boot_o_9 P, boot_o_10 P, o43 P, o420 P, o45 P, o46 P, o43 P, o44 P, o54 P, o43 P, o56 P, o57 P, o58 P, o59 P, o60 P, o61 P, o43 P, o63 P, o64 P, o65 P, o66 P, o43 P, o44 P, o69 P, o43 P, o71 P, o72 P, o73 P, o74 P, o75 P, o82 P, o77 P, o78 P, o79 P, o83 P, o60 P, o85 P, o43 P, o44 P, o88 P, o89 P, o43 P, o91 P, o92 P, o93 P, o94 P, o95 P, o96 P, o43 P, o44 P, o99 P, o43 P, o101 P, o102 P, o103 P, o43 P, o44 P, o106 P, o43 P, o108 P, o109 P, o110 P, o43 P, o60 P, o115 P, o43 P, o117 P, o118 P, o119 P, o43 P, o44 P, o122 P, o43 P, o124 P, o125 P, o126 P, o43 P, o44 P, o129 P, o43 P, o131 P, o132 P, o133 P, o43 P, o44 P, o136 P, o137 P, o138 P, o43 P, o44 P, o141 P, o43 P, o143 P, o144 P, o145 P, o43 P, o44 P, o148 P, o43 P, o150 P, o151 P, o152 P, o153 P, o43 P, o44 P, o156 P, o43 P, o158 P, o159 P, o160 P, o153 P, o43 P, o44 P, o164 P, o43 P, o166 P, o167 P, o168 P, o43 P, o44 P, o171 P, o43 P, o173 P, o174 P, o175 P, o43 P, o44 P, o178 P, o43 P, o180 P, o181 P, o182 P, o183 P, o184 P, o185 P, o186 P, o187 P, o188 P, o189 P, o43 P, o44 P, o194 P, o43 P, o196 P, o197 P, o198 P, o43 P, o44 P, o201 P, o43 P, o203 P, o204 P, o205 P, o43 P, o44 P, o208 P, o43 P, o210 P, o211 P, o212 P, o43 P, o44 P, o215 P, o43 P, o217 P, o218 P, o219 P, o43 P, o44 P, o222 P, o43 P, o224 P, o225 P, o226 P, o43 P, o44 P, o229 P, o43 P, o231 P, o232 P, o233 P, o43 P, o44 P, o236 P, o43 P, o238 P, o239 P, o240 P, o43 P, o60 P, o245 P, o43 P, o247 P, o248 P, o249 P, o43 P, o44 P, o252 P, o43 P, o254 P, o255 P, o256 P, o43 P, o44 P, o259 P, o43 P, o261 P, o262 P, o263 P, o43 P, o44 P, o266 P, o43 P, o268 P, o269 P, o270 P, o43 P, o44 P, o273 P, o43 P, o275 P, o276 P, o277 P, o43 P, o44 P, o280 P, o43 P, o282 P, o283 P, o284 P, o43 P, o44 P, o287 P, o43 P, o289 P, o290 P, o291 P, o43 P, o44 P, o294 P, o43 P, o296 P, o297 P, o298 P, o43 P, o44 P, o301 P, o43 P, o303 P, o304 P, o305 P, o43 P, o44 P, o308 P, o43 P, o310 P, o311 P, o312 P, o43 P, o44 P, o315 P, o43 P, o317 P, o318 P, o319 P, o43 P, o44 P, o322 P, o43 P, o324 P, o325 P, o326 P, o327 P, o43 P, o44 P, o330 P, o43 P, o332 P, o333 P, o334 P, o335 P, o336 P, o337 P, o338 P, o339 P, o340 P, o341 P, o43 P, o44 P, o346 P, o43 P, o348 P, o349 P, o350 P, o43 P, o44 P, o353 P, o43 P, o355 P, o356 P, o357 P, o43 P, o44 P, o360 P, o43 P, o362 P, o363 P, o364 P, o43 P, o44 P, o367 P, o43 P, o369 P, o370 P, o371 P, o43 P, o44 P, o374 P, o43 P, o376 P, o377 P, o378 P, o43 P, o44 P, o381 P, o382 P, o383 P, o43 P, o44 P, o386 P, o43 P, o388 P, o389 P, o390 P, o43 P, o44 P, o393 P, o43 P, o395 P, o396 P, o397 P, o43 P, o44 P, o400 P, o43 P, o402 P, o403 P, o404 P, o43 P, o44 P, o407 P, o43 P, o409 P, o410 P, o411 P, o43 P, o44 P, o414 P, o43 P, o416 P, o417 P, o418 P, o43 P, o44 P, o423 P, o43 P, o425 P, o426 P, o427 P, o43 P, o44 P, o430 P, o43 P, o432 P, o433 P, o434 P, o43 P, o44 P, o437 P, o43 P, o439 P, o440 P, o441 P, o43 P, o44 P, o444 P, o43 P, o446 P, o447 P, o448 P, o43 P, o44 P, o451 P, o452 P, o453 P, o43 P, o44 P, o456 P, o457 P, o458 P, o43 P, o44 P, o461 P, o462 P, o463 P, o43 P, o44 P, o466 P, o467 P, o468 P, o43 P, o44 P, o471 P, o472 P, o473 P]⟩, {}⟩
noncomputable def KT (P : Params) : Frag := [(2, o49 P), (3, o419 P), (15, o43 P), (17, o54 P), (18, o43 P), (20, o57 P), (21, o58 P), (22, o59 P), (29, o66 P), (30, o43 P), (32, o69 P), (33, o43 P), (35, o72 P), (36, o73 P), (37, o74 P), (38, o75 P), (39, o82 P), (40, o77 P), (43, o83 P), (50, o43 P), (51, o91 P), (52, o92 P), (55, o95 P), (56, o96 P), (57, o43 P), (59, o99 P), (60, o43 P), (62, o102 P), (63, o103 P), (64, o43 P), (66, o106 P), (67, o43 P), (69, o109 P), (70, o110 P), (78, o43 P), (80, o122 P), (81, o43 P), (83, o125 P), (84, o126 P), (85, o43 P), (87, o129 P), (88, o43 P), (90, o132 P), (91, o133 P), (92, o43 P), (95, o137 P), (96, o138 P), (97, o43 P), (99, o141 P), (100, o43 P), (102, o144 P), (103, o145 P), (104, o43 P), (106, o148 P), (107, o43 P), (109, o151 P), (110, o152 P), (111, o153 P), (112, o43 P), (114, o156 P), (115, o43 P), (117, o159 P), (118, o160 P), (119, o153 P), (120, o43 P), (122, o164 P), (123, o43 P), (125, o167 P), (126, o168 P), (127, o43 P), (129, o171 P), (130, o43 P), (132, o174 P), (133, o175 P), (134, o43 P), (136, o178 P), (137, o43 P), (139, o181 P), (140, o182 P), (141, o183 P), (142, o184 P), (143, o185 P), (144, o186 P), (145, o187 P), (148, o43 P), (150, o194 P), (151, o43 P), (153, o197 P), (154, o198 P), (155, o43 P), (157, o201 P), (158, o43 P), (160, o204 P), (161, o205 P), (162, o43 P), (164, o208 P), (165, o43 P), (167, o211 P), (168, o212 P), (169, o43 P), (171, o215 P), (172, o43 P), (174, o218 P), (175, o219 P), (176, o43 P), (178, o222 P), (179, o43 P), (181, o225 P), (182, o226 P), (183, o43 P), (185, o229 P), (186, o43 P), (188, o232 P), (189, o233 P), (190, o43 P), (192, o236 P), (193, o43 P), (195, o239 P), (196, o240 P), (204, o43 P), (206, o252 P), (207, o43 P), (209, o255 P), (210, o256 P), (211, o43 P), (213, o259 P), (214, o43 P), (216, o262 P), (217, o263 P), (218, o43 P), (220, o266 P), (221, o43 P), (223, o269 P), (224, o270 P), (225, o43 P), (227, o273 P), (228, o43 P), (230, o276 P), (231, o277 P), (232, o43 P), (234, o280 P), (235, o43 P), (237, o283 P), (238, o284 P), (239, o43 P), (241, o287 P), (242, o43 P), (244, o290 P), (245, o291 P), (246, o43 P), (248, o294 P), (249, o43 P), (251, o297 P), (252, o298 P), (253, o43 P), (255, o301 P), (256, o43 P), (258, o304 P), (259, o305 P), (260, o43 P), (262, o308 P), (263, o43 P), (265, o311 P), (266, o312 P), (267, o43 P), (269, o315 P), (270, o43 P), (272, o318 P), (273, o319 P), (274, o43 P), (276, o322 P), (277, o43 P), (279, o325 P), (280, o326 P), (281, o327 P), (282, o43 P), (284, o330 P), (285, o43 P), (287, o333 P), (288, o334 P), (289, o335 P), (290, o336 P), (291, o337 P), (292, o338 P), (293, o339 P), (296, o43 P), (298, o346 P), (299, o43 P), (301, o349 P), (302, o350 P), (303, o43 P), (305, o353 P), (306, o43 P), (308, o356 P), (309, o357 P), (310, o43 P), (312, o360 P), (313, o43 P), (315, o363 P), (316, o364 P), (317, o43 P), (319, o367 P), (320, o43 P), (322, o370 P), (323, o371 P), (324, o43 P), (326, o374 P), (327, o43 P), (329, o377 P), (330, o378 P), (331, o43 P), (334, o382 P), (335, o383 P), (336, o43 P), (338, o386 P), (339, o43 P), (341, o389 P), (342, o390 P), (343, o43 P), (345, o393 P), (346, o43 P), (348, o396 P), (349, o397 P), (350, o43 P), (352, o400 P), (353, o43 P), (355, o403 P), (356, o404 P), (357, o43 P), (359, o407 P), (360, o43 P), (362, o410 P), (363, o411 P), (364, o43 P), (366, o414 P), (367, o43 P), (369, o417 P), (370, o418 P), (371, o43 P), (373, o423 P), (374, o43 P), (376, o426 P), (377, o427 P), (378, o43 P), (380, o430 P), (381, o43 P), (383, o433 P), (384, o434 P), (385, o43 P), (387, o437 P), (388, o43 P), (390, o440 P), (391, o441 P), (392, o43 P), (394, o444 P), (395, o43 P), (397, o447 P), (398, o448 P), (399, o43 P), (402, o452 P), (403, o453 P), (404, o43 P), (407, o457 P), (408, o458 P), (409, o43 P), (412, o462 P), (413, o463 P), (414, o43 P), (417, o467 P), (418, o468 P), (419, o43 P), (422, o472 P)]
noncomputable def kA : List Addr := [2, 3, 15, 17, 18, 20, 21, 22, 29, 30, 32, 33, 35, 36, 37, 38, 39, 40, 43, 50, 51, 52, 55, 56, 57, 59, 60, 62, 63, 64, 66, 67, 69, 70, 78, 80, 81, 83, 84, 85, 87, 88, 90, 91, 92, 95, 96, 97, 99, 100, 102, 103, 104, 106, 107, 109, 110, 111, 112, 114, 115, 117, 118, 119, 120, 122, 123, 125, 126, 127, 129, 130, 132, 133, 134, 136, 137, 139, 140, 141, 142, 143, 144, 145, 148, 150, 151, 153, 154, 155, 157, 158, 160, 161, 162, 164, 165, 167, 168, 169, 171, 172, 174, 175, 176, 178, 179, 181, 182, 183, 185, 186, 188, 189, 190, 192, 193, 195, 196, 204, 206, 207, 209, 210, 211, 213, 214, 216, 217, 218, 220, 221, 223, 224, 225, 227, 228, 230, 231, 232, 234, 235, 237, 238, 239, 241, 242, 244, 245, 246, 248, 249, 251, 252, 253, 255, 256, 258, 259, 260, 262, 263, 265, 266, 267, 269, 270, 272, 273, 274, 276, 277, 279, 280, 281, 282, 284, 285, 287, 288, 289, 290, 291, 292, 293, 296, 298, 299, 301, 302, 303, 305, 306, 308, 309, 310, 312, 313, 315, 316, 317, 319, 320, 322, 323, 324, 326, 327, 329, 330, 331, 334, 335, 336, 338, 339, 341, 342, 343, 345, 346, 348, 349, 350, 352, 353, 355, 356, 357, 359, 360, 362, 363, 364, 366, 367, 369, 370, 371, 373, 374, 376, 377, 378, 380, 381, 383, 384, 385, 387, 388, 390, 391, 392, 394, 395, 397, 398, 399, 402, 403, 404, 407, 408, 409, 412, 413, 414, 417, 418, 419, 422]
theorem kA_eq (P : Params) : kA = (KT P).map (·.1) := by kernel_rfl
noncomputable def HK : Hook := kHook KT kA kA_eq
noncomputable def lo : List Str := [Str.ofString "GateloomError", Str.ofString "cone_nodes_cnf", Str.ofString "cone_nodes_equiv"]
noncomputable def vw : Program := { pg with main := { pg.main with body := [0, 2, 3, 5, 6, 7, 8, 9, 10, 11, 12, 13, 14, 15, 16, 17, 18, 20, 21, 22, 23, 24, 26, 28, 29, 31, 32, 33, 34, 35, 36, 37, 38, 40, 41, 42, 43, 44, 45].map st1 } }
noncomputable abbrev XT : Shared → Bool := fun s => xlAt vw [] s && recOk (RowW.records PySem.Challenge.rw_on0128_01.row.toRowW) s
noncomputable def ev : Env := { scope := pg.main.scope, locals := mainNs, globals := mainNs, cells := [], code := .ref 13, frame := some 14 }
noncomputable def bB : List Stmt := behindTheImports pg
noncomputable def g1 : List Stmt := bB.take 12
noncomputable def g2 : List Stmt := (bB.drop 12).take 9
noncomputable def g3 : List Stmt := bB.drop 21
theorem bB_eq : bB = g1 ++ (g2 ++ (g3 ++ [])) := by kernel_rfl
noncomputable abbrev cB : Code := .body bB ev
noncomputable abbrev q0 : Pos := { line := 0, col := 0, endLine := 0, endCol := 0 }
noncomputable abbrev qD : Pos := { line := 24, col := 0, endLine := 73, endCol := 19 }
noncomputable abbrev qF : Pos := { line := 148, col := 0, endLine := 221, endCol := 20 }
noncomputable abbrev qH : Pos := { line := 437, col := 0, endLine := 473, endCol := 15 }
noncomputable abbrev an : Option Value := some (.ref 6)
noncomputable abbrev sh (h : Heap) (t : Nat) (os : OsState) : Shared := { heap := h, toks := t, os := os }
section
variable (w : World) (os : OsState)
theorem runA : topGo treeTable pg w 11 an 12 { heap := boot_heap w.params, gens := ⟨[]⟩, drawn := boot_drawn, toks := boot_toks, os := os } (topStub pg) = some (sh (hA w.params) 187 os, ⟨denote treeTable cB, cB, q0, [topFrame q0]⟩) := by kernel_rfl
theorem runB : segRun treeTable pg w 11 an 1 1 (sh (hA w.params) 187 os) (blockOf bB ev cB q0 [topFrame q0]) = some (.next, sh (hB w.params) 187 os, cB, q0) := by kernel_rfl
theorem runD : segRun treeTable pg w 11 an 1 1200 (sh (hB w.params) 187 os) (piecesOf g1 ev cB q0 [topFrame q0]) = some (.next, sh (hD w.params) 388 os, cB, qD) := by kernel_rfl
theorem runF : segRun treeTable pg w 11 an 1 900 (sh (hD w.params) 388 os) (piecesOf g2 ev cB qD [topFrame q0]) = some (.next, sh (hF w.params) 604 os, cB, qF) := by kernel_rfl
theorem runI : segRun treeTable pg w 11 an 1 750 (sh (hF w.params) 604 os) (piecesOf g3 ev cB qF [topFrame q0]) = some (.next, sh (hI w.params) 821 os, cB, qH) := by kernel_rfl
theorem runE : topRun treeTable pg w 11 an 2 (sh (hI w.params) 821 os) ⟨doneF .next, cB, qH, [topFrame q0]⟩ = some (sh (hI w.params) 821 os) := by kernel_rfl
theorem runAll : topRun treeTable pg w 11 an (12 + (1 + (1200 + (900 + (750 + 2))))) { heap := boot_heap w.params, gens := ⟨[]⟩, drawn := boot_drawn, toks := boot_toks, os := os } (topStub pg) = some (sh (hI w.params) 821 os) := by
  refine go_top (runA w os) (piece_block (b := bB) (env := ev) (runB w os) ?_)
  rw [bB_eq]
  exact piece_app (runD w os) (piece_app (runF w os) (piece_app (runI w os) (piece_nil (runE w os))))
theorem look1 : (staticsOk (importedModules pg.main.body) (boot_heap w.params) (hI w.params) && namesBound pg (hI w.params) && gensDone (sh (hI w.params) 821 os) && laidKept (boot_heap w.params) (hI w.params)) = true := by kernel_rfl
theorem look2 : openSeen vw lo (importedModules pg.main.body) XT true (sh (hI w.params) 821 os) = openGood vw lo := by kernel_rfl
theorem look3 : HK.obs (sh (hI w.params) 821 os) = HK.val w := by kernel_rfl
theorem look0 : ((boot_heap w.params).isNs mainGlobals && (Array.mk ([] : List GenState)).size == 0, (boot_heap w.params).objs.size, (boot_heap w.params).nsMap mainGlobals "__annotations__") = (true, 11, an) := by kernel_rfl
end
theorem open0 : opening pg = plainProg pg.main.scope.names := by kernel_rfl
theorem leftT : LeftO pg vw lo XT HK.obs HK.val 5362 true :=
  LeftO.of_pieces (boot_open open0 (by decide) fun _ => rfl) look0 runAll (by decide) fun w => funext fun os => Prod.ext (look1 w os) (Prod.ext (look2 w os) (look3 w os))
end MineH.Internal


namespace Mine.Internal
theorem nS {α : Type} {x : α} {P : Prop} (e : none = some x) : P := nomatch e

set_option genInjectivity true in
inductive AV where
  | none
  | bool (b : Bool)
  | int (i : Int)
  | str (s : Str)
  | tup (xs : List AV)
  | rng (lo hi st : Int)
  | ref (a : Addr)
  | con (v : Value)
  deriving Inhabited

set_option genInjectivity true in
inductive AO where
  | list (xs : List AV)
  | dict0
  | dictI (es : List (Int × AV))
  | dictS (es : List (Str × AV))
  | dictP (es : List ((Int × Int) × AV))
  | inst (c d : Addr)
  | ns (fs : List (Str × AV))

noncomputable abbrev AH := Addr → Option AO
noncomputable abbrev Loc := Str → Option AV

noncomputable def upd (σ : AH) (a : Addr) (o : AO) : AH := fun b => if b = a then some o else σ b
noncomputable def updL (l : Loc) (x : Str) (v : AV) : Loc := fun y => if y = x then some v else l y

theorem upd_self (σ : AH) (a : Addr) (o : AO) : upd σ a o a = some o := if_pos rfl
theorem upd_ne {σ : AH} {a b : Addr} {o : AO} (h : b ≠ a) : upd σ a o b = σ b := if_neg h

inductive All2 {α β : Type} (R : α → β → Prop) : List α → List β → Prop
  | nil : All2 R [] []
  | cons {a b as bs} : R a b → All2 R as bs → All2 R (a :: as) (b :: bs)

namespace All2
variable {α β : Type} {R R' : α → β → Prop}
theorem length {as : List α} {bs : List β} (h : All2 R as bs) : as.length = bs.length := by
  induction h with
  | nil => rfl
  | cons _ _ ih => simp [ih]
theorem mono {as : List α} {bs : List β} (h : All2 R as bs) (f : ∀ a b, R a b → R' a b) : All2 R' as bs := by
  induction h with
  | nil => exact .nil
  | cons x _ ih => exact .cons (f _ _ x) ih
theorem append {as as' : List α} {bs bs' : List β} (h : All2 R as bs) (h' : All2 R as' bs') : All2 R (as ++ as') (bs ++ bs') := by
  induction h with
  | nil => exact h'
  | cons x _ ih => exact .cons x ih
theorem getL {as : List α} {bs : List β} (h : All2 R as bs) : ∀ {i : Nat} {a : α}, as[i]? = some a → ∃ b, bs[i]? = some b ∧ R a b := by
  induction h with
  | nil => intro i b e; simp at e
  | cons x _ ih =>
    intro i b e
    cases i with
    | zero => simp at e; subst e; exact ⟨_, rfl, x⟩
    | succ i => simp at e; obtain ⟨a, h1, h2⟩ := ih e; exact ⟨a, by simpa using h1, h2⟩
theorem set {as : List α} {bs : List β} (h : All2 R as bs) {a : α} {b : β} (r : R a b) : ∀ i, All2 R (as.set i a) (bs.set i b) := by
  induction h with
  | nil => intro i; simpa using .nil
  | cons x y ih =>
    intro i
    cases i with
    | zero => exact .cons r y
    | succ i => exact .cons x (ih i)
theorem eraseIdx {as : List α} {bs : List β} (h : All2 R as bs) : ∀ i, All2 R (as.eraseIdx i) (bs.eraseIdx i) := by
  induction h with
  | nil => intro i; simpa using .nil
  | cons x y ih =>
    intro i
    cases i with
    | zero => exact y
    | succ i => exact .cons x (ih i)
end All2

noncomputable abbrev tupObj (vs : List Value) (n : Nat) : Obj := { cls := .type "tuple", data := .seq vs.toArray n }
noncomputable abbrev rngObj (a b c : Int) (t u v : Tok) : Obj := { cls := .type "range", dict := none, data := .fields #[.int a t, .int b u, .int c v], slots := #[] }

mutual
noncomputable def VRel (h : Heap) : AV → Value → Prop
  | .none, v => v = .none
  | .bool b, v => v = .bool b
  | .int i, v => ∃ t, v = .int i t
  | .str s, v => ∃ t, v = .str s t
  | .tup xs, v => ∃ a vs n, v = .ref a ∧ h.get? a = some (tupObj vs n) ∧ VRels h xs vs
  | .rng lo hi st, v => ∃ a t u w, v = .ref a ∧ h.get? a = some (rngObj lo hi st t u w)
  | .ref a, v => v = .ref a
  | .con u, v => v = u
noncomputable def VRels (h : Heap) : List AV → List Value → Prop
  | [], vs => vs = []
  | x :: xs, vs => ∃ v r, vs = v :: r ∧ VRel h x v ∧ VRels h xs r
end

theorem VRels.all2 {h : Heap} : ∀ {xs : List AV} {vs : List Value}, VRels h xs vs → All2 (VRel h) xs vs
  | [], _, e => by rw [show _ = _ from e]; exact .nil
  | _ :: _, _, ⟨_, _, e, a, b⟩ => by rw [e]; exact .cons a b.all2
theorem VRels.of {h : Heap} {xs : List AV} {vs : List Value} (x : All2 (VRel h) xs vs) : VRels h xs vs := by
  induction x with
  | nil => exact rfl
  | cons a _ ih => exact ⟨_, _, rfl, a, ih⟩

noncomputable def isImm (o : Obj) : Prop := (o.cls = .type "tuple" ∨ o.cls = .type "range") ∧ (∀ es ep, o.data ≠ .dict es ep) ∧ ∀ v, o.data ≠ .cell v
theorem immTup {vs : List Value} {n : Nat} : isImm (tupObj vs n) := ⟨.inl rfl, fun _ _ => by simp, fun _ => by simp⟩
theorem immRng {a b c : Int} {t u v : Tok} : isImm (rngObj a b c t u v) := ⟨.inr rfl, fun _ _ => by simp, fun _ => by simp⟩
/-- the immutable objects stay -/
noncomputable def Imm (h h' : Heap) : Prop := ∀ a o, h.get? a = some o → isImm o → h'.get? a = some o
theorem Imm.refl (h : Heap) : Imm h h := fun _ _ e _ => e

mutual
theorem VRel.mono {h h' : Heap} (k : Imm h h') : ∀ {x : AV} {v : Value}, VRel h x v → VRel h' x v
  | .none, _, e => e
  | .bool _, _, e => e
  | .int _, _, e => e
  | .str _, _, e => e
  | .tup _, _, ⟨a, vs, n, e, g, r⟩ => ⟨a, vs, n, e, k a _ g immTup, VRels.mono k r⟩
  | .rng _ _ _, _, ⟨a, t, u, w, e, g⟩ => ⟨a, t, u, w, e, k a _ g immRng⟩
  | .ref _, _, e => e
  | .con _, _, e => e
theorem VRels.mono {h h' : Heap} (k : Imm h h') : ∀ {xs : List AV} {vs : List Value}, VRels h xs vs → VRels h' xs vs
  | [], _, e => e
  | _ :: _, _, ⟨v, r, e, a, b⟩ => ⟨v, r, e, VRel.mono k a, VRels.mono k b⟩
end


/-! ### objects -/

section
variable (prog : Program) (w : World)

noncomputable def EK {K : Type} (h : Heap) (p : K × AV) (q : K × Value) : Prop := q.1 = p.1 ∧ VRel h p.2 q.2
noncomputable def EN (h : Heap) (p : Str × AV) (e : DictEntry) : Prop := (∃ t, e.key = .str p.1 t) ∧ VRel h p.2 e.val
noncomputable def EP (h : Heap) (p : (Int × Int) × AV) (x : List Int × Addr × Value) : Prop := x.1 = [p.1.1, p.1.2] ∧ VRel h p.2 x.2.2

noncomputable def ORel (h : Heap) (a : Addr) : AO → Prop
  | .list xs => ∃ vs n, h.get? a = some (listOf vs.toArray n) ∧ All2 (VRel h) xs vs
  | .dict0 => ∃ n, h.get? a = some (dictOf [] n)
  | .dictI es => ∃ kvs, h.DictOf (intKind prog w) a kvs ∧ All2 (EK h) es kvs
  | .dictS es => ∃ kvs, h.DictOf (PySem.strKind prog w) a kvs ∧ All2 (EK h) es kvs
  | .dictP es => ∃ xs, h.DictOfH (tupleKind (intKind prog w)) a xs ∧ All2 (EP h) es xs
  | .inst c d => h.get? a = some (instObj c d)
  | .ns fs => ∃ des n, h.get? a = some (dictOf des n) ∧ All2 (EN h) fs des

noncomputable def HRel (σ : AH) (h : Heap) : Prop := ∀ a o, σ a = some o → ORel prog w h a o

variable {prog w}
theorem ORel.has {h : Heap} {a : Addr} {o : AO} (r : ORel prog w h a o) : ∃ ob, h.get? a = some ob ∧ ¬ isImm ob ∧ (∀ v, ob.data ≠ .cell v) := by
  cases o with
  | list xs => obtain ⟨vs, n, e, _⟩ := r; exact ⟨_, e, by rintro ⟨h | h, _⟩ <;> simp at h, fun v => by simp⟩
  | dict0 => obtain ⟨n, e⟩ := r; exact ⟨_, e, by rintro ⟨h | h, _⟩ <;> simp at h, fun v => by simp⟩
  | dictI es =>
    obtain ⟨xs, ⟨o, des, ep, e, x, d, _⟩, _⟩ := r
    exact ⟨_, e, by rintro ⟨h | h, _⟩ <;> rw [x.1] at h <;> simp at h, fun v => by rw [d]; simp⟩
  | dictS es =>
    obtain ⟨xs, ⟨o, des, ep, e, x, d, _⟩, _⟩ := r
    exact ⟨_, e, by rintro ⟨h | h, _⟩ <;> rw [x.1] at h <;> simp at h, fun v => by rw [d]; simp⟩
  | dictP es =>
    obtain ⟨xs, ⟨o, des, ep, e, x, d, _⟩, _⟩ := r
    exact ⟨_, e, by rintro ⟨h | h, _⟩ <;> rw [x.1] at h <;> simp at h, fun v => by rw [d]; simp⟩
  | inst c d => exact ⟨_, r, by rintro ⟨h | h, _⟩ <;> simp at h, fun v => by simp⟩
  | ns fs => obtain ⟨vs, n, e, _⟩ := r; exact ⟨_, e, by rintro ⟨h | h, _⟩ <;> simp at h, fun v => by simp⟩

theorem EK.mono {K : Type} {h h' : Heap} (k : Imm h h') {p : K × AV} {e} (x : EK h p e) : EK h' p e := ⟨x.1, x.2.mono k⟩
theorem EN.mono {h h' : Heap} (k : Imm h h') {p e} (x : EN h p e) : EN h' p e := ⟨x.1, x.2.mono k⟩
theorem EP.mono {h h' : Heap} (k : Imm h h') {p e} (x : EP h p e) : EP h' p e := ⟨x.1, x.2.mono k⟩

theorem ORel.mono {h h' : Heap} {a : Addr} {o : AO} (k : Imm h h') (e : ∀ ob, h.get? a = some ob → h'.get? a = some ob) (r : ORel prog w h a o) : ORel prog w h' a o := by
  cases o with
  | list xs => obtain ⟨vs, n, g, x⟩ := r; exact ⟨vs, n, e _ g, x.mono fun _ _ y => y.mono k⟩
  | dict0 => obtain ⟨n, g⟩ := r; exact ⟨n, e _ g⟩
  | dictI es => obtain ⟨vs, g, x⟩ := r; exact ⟨vs, g.at e, x.mono fun _ _ y => y.mono k⟩
  | dictS es => obtain ⟨vs, g, x⟩ := r; exact ⟨vs, g.at e, x.mono fun _ _ y => y.mono k⟩
  | dictP es =>
    obtain ⟨xs, ⟨o, des, ep, g, ex, d, l, is, nd⟩, x⟩ := r
    exact ⟨xs, ⟨o, des, ep, e _ g, ex, d, l, fun x hx => by
      obtain ⟨o', items, n, ho, hc, hd, hi⟩ := is x hx
      exact ⟨o', items, n, k _ _ ho ⟨.inl hc, fun _ _ => by rw [hd]; simp, fun _ => by rw [hd]; simp⟩, hc, hd, hi⟩, nd⟩, x.mono fun _ _ y => y.mono k⟩
  | inst c d => exact e _ r
  | ns fs => obtain ⟨vs, n, g, x⟩ := r; exact ⟨vs, n, e _ g, x.mono fun _ _ y => y.mono k⟩
end


/-- what a piece of the run leaves: all outside σ (but X) as it was; what σ' adds is new -/
structure Step (lo : Nat) (X : Addr → Prop) (σ : AH) (h : Heap) (σ' : AH) (h' : Heap) : Prop where
  keep : ∀ b o, h.get? b = some o → σ b = none → ¬ X b → h'.get? b = some o
  fresh : ∀ a, σ a = none → σ' a ≠ none → (h.get? a = none ∨ X a) ∧ lo ≤ a
  alive : ∀ a, h.get? a ≠ none → ¬ X a → h'.get? a ≠ none

noncomputable abbrev NoX : Addr → Prop := fun _ => False

theorem Step.refl {lo X σ h} : Step lo X σ h σ h := ⟨fun _ _ e _ _ => e, fun _ x y => absurd x y, fun _ x _ => x⟩
theorem Step.trans {lo X σ h σ' h' σ'' h''} (x : Step lo X σ h σ' h') (y : Step lo X σ' h' σ'' h'') : Step lo X σ h σ'' h'' := by
  refine ⟨fun b o e s n => ?_, fun a s s' => ?_, fun a z n => y.alive a (x.alive a z n) n⟩
  · refine y.keep b o (x.keep b o e s n) ?_ n
    cases q : σ' b with
    | none => rfl
    | some _ =>
      rcases (x.fresh b s (by rw [q]; simp)).1 with this | this
      · rw [e] at this; cases this
      · exact absurd this n
  · cases q : σ' a with
    | some _ => exact x.fresh a s (by rw [q]; simp)
    | none =>
      have z := y.fresh a q s'
      refine ⟨?_, z.2⟩
      by_cases n : X a
      · exact .inr n
      · refine .inl ?_
        cases r : h.get? a with
        | none => rfl
        | some o => exact absurd (z.1.resolve_right n) (x.alive a (by rw [r]; simp) n)
theorem Step.weaken {lo X X' σ h σ' h'} (x : Step lo X σ h σ' h') (f : ∀ b, X b → X' b) : Step lo X' σ h σ' h' :=
  ⟨fun b o e s n => x.keep b o e s fun z => n (f b z), fun a q q' => ⟨(x.fresh a q q').1.imp id (f a), (x.fresh a q q').2⟩, fun a z n => x.alive a z fun y => n (f a y)⟩

section
variable {prog : Program} {w : World}
/-- the immutable objects are none of σ's, so they stay -/
theorem Step.imm {lo X σ h σ' h'} (x : Step lo X σ h σ' h') (r : HRel prog w σ h) (hx : ∀ a o, X a → h.get? a = some o → ¬ isImm o) : Imm h h' := by
  intro a o e i
  refine x.keep a o e ?_ fun z => hx a o z e i
  cases q : σ a with
  | none => rfl
  | some ao =>
    obtain ⟨ob, e', n, _⟩ := (r a ao q).has
    rw [e] at e'; cases e'; exact absurd i n
theorem Step.imm0 {lo σ h σ' h'} (x : Step lo NoX σ h σ' h') (r : HRel prog w σ h) : Imm h h' := x.imm r fun _ _ z => z.elim

theorem fresh_none {h : Heap} : h.get? h.objs.size = none := by
  cases q : h.get? h.objs.size with
  | none => rfl
  | some o => exact absurd (Heap.lt_size q) (Nat.lt_irrefl _)
theorem HRel.free {σ : AH} {h : Heap} (r : HRel prog w σ h) {a : Addr} (e : h.get? a = none) : σ a = none := by
  cases q : σ a with
  | none => rfl
  | some o => obtain ⟨ob, e', _⟩ := (r a o q).has; rw [e] at e'; cases e'
theorem HRel.step {σ : AH} {h h' : Heap} (r : HRel prog w σ h) (k : Imm h h') (e : ∀ a ob, σ a ≠ none → h.get? a = some ob → h'.get? a = some ob) : HRel prog w σ h' :=
  fun a o q => (r a o q).mono k fun ob => e a ob (by rw [q]; simp)
theorem HRel.grow {σ : AH} {h h' : Heap} (r : HRel prog w σ h) (e : ∀ a ob, h.get? a = some ob → h'.get? a = some ob) : HRel prog w σ h' :=
  r.step (fun a o q _ => e a o q) fun a ob _ => e a ob
theorem Step.grow {lo X σ} {h h' : Heap} (e : ∀ a ob, h.get? a = some ob → h'.get? a = some ob) : Step lo X σ h σ h' :=
  ⟨fun b ob q _ _ => e b ob q, fun _ x y => absurd x y, fun a z _ => by
    cases q : h.get? a with
    | none => exact absurd q z
    | some ob => rw [e a ob q]; simp⟩
/-- one object of σ's is turned -/
theorem Step.set {lo X σ} {h h' : Heap} {a : Addr} {ao : AO} (hs : Heap.SameBut a h h') (q : σ a ≠ none) (al : h'.get? a ≠ none) : Step lo X σ h (upd σ a ao) h' :=
  ⟨fun b ob e z _ => (hs.2 b (fun x => q (x ▸ z))).trans e, fun b x y => by
    by_cases z : b = a
    · subst z; exact absurd x q
    · rw [upd_ne z] at y; exact absurd x y, fun b z _ => by
    by_cases x : b = a
    · subst x; exact al
    · rw [hs.2 b x]; exact z⟩
theorem HRel.set {σ : AH} {h h' : Heap} {a : Addr} {ao : AO} (r : HRel prog w σ h) (hs : Heap.SameBut a h h') (q : σ a ≠ none) (n : ORel prog w h' a ao) : HRel prog w (upd σ a ao) h' := by
  have k : Imm h h' := fun b o e i => by
    refine (hs.2 b ?_).trans e
    rintro rfl
    cases z : σ b with
    | none => exact q z
    | some o' => obtain ⟨ob, e', x, _⟩ := (r b o' z).has; rw [e] at e'; cases e'; exact x i
  intro b o z
  by_cases e : b = a
  · subst e; rw [upd_self] at z; cases z; exact n
  · rw [upd_ne e] at z; exact (r b o z).mono k fun ob g => (hs.2 b e).trans g
end

/-! ### the frame -/

structure Cx where
  w : World
  A : Around
  env : Env
  hf : Heap
  Lf : Addr
  fenv : Env
  base : Heap
  outer : List Env
  A₀ : Around
  lo : Nat

structure LRel (env : Env) (l : Loc) (h : Heap) : Prop where
  loc : ∃ m, h.Ns env.locals m ∧ ∀ x v, l x = some v → env.kindOf x = some .local → ∃ u, m x = some u ∧ VRel h v u
  cel : ∀ x v, l x = some v → env.kindOf x = some .cell ∨ env.kindOf x = some .free → ∃ c u, env.cells.lookup x = some c ∧ h.IsCell c (some u) ∧ VRel h v u
  has : ∀ x, env.kindOf x = some .cell → ∃ c v₀, env.cells.lookup x = some c ∧ h.IsCell c v₀
  apart : ∀ x y c, env.cells.lookup x = some c → env.cells.lookup y = some c → x = y
  all : ∀ x c, env.cells.lookup x = some c → ∃ v₀, h.IsCell c v₀

structure Inv (prog : Program) (C : Cx) (l : Loc) (σ : AH) (h : Heap) : Prop where
  fr : ∃ m, Fr C.hf C.Lf h m
  own : ∀ a, σ a ≠ none → C.lo ≤ a ∧ C.hf.get? a = none ∧ a ≠ C.Lf ∧ a ≠ C.env.locals
  hrel : HRel prog C.w σ h
  lrel : LRel C.env l h

theorem LRel.step {env : Env} {l : Loc} {h h' : Heap} (r : LRel env l h) (k : Imm h h') (a : ∀ o, h.get? env.locals = some o → h'.get? env.locals = some o)
    (c : ∀ b o v, h.get? b = some o → o.data = .cell v → h'.get? b = some o) : LRel env l h' := by
  have ck : ∀ {c v}, h.IsCell c v → h'.IsCell c v := fun ⟨o, e, d⟩ => ⟨o, c _ o _ e d, d⟩
  refine ⟨?_, fun x v e q => ?_, fun x e => ?_, r.apart, fun x c e => let ⟨v₀, e2⟩ := r.all x c e; ⟨v₀, ck e2⟩⟩
  · obtain ⟨m, ⟨o, es, ep, ho, hd⟩, f⟩ := r.loc
    exact ⟨m, ⟨o, es, ep, a o ho, hd⟩, fun x v e q => let ⟨u, e1, e2⟩ := f x v e q; ⟨u, e1, e2.mono k⟩⟩
  · obtain ⟨c, u, e1, e2, e3⟩ := r.cel x v e q
    exact ⟨c, u, e1, ck e2, e3.mono k⟩
  · obtain ⟨c, v₀, e1, e2⟩ := r.has x e
    exact ⟨c, v₀, e1, ck e2⟩

theorem Inv.noLoc {prog C l σ h} (i : Inv prog C l σ h) : σ C.env.locals = none := by
  cases q : σ C.env.locals with
  | none => rfl
  | some _ => exact absurd rfl (i.own _ (by rw [q]; simp)).2.2.2
theorem Inv.noLf {prog C l σ h} (i : Inv prog C l σ h) : σ C.Lf = none := by
  cases q : σ C.Lf with
  | none => rfl
  | some _ => exact absurd rfl (i.own _ (by rw [q]; simp)).2.2.1
theorem Inv.noHf {prog C l σ h} (i : Inv prog C l σ h) {a o} (e : C.hf.get? a = some o) : σ a = none := by
  cases q : σ a with
  | none => rfl
  | some _ => have := (i.own a (by rw [q]; simp)).2.1; rw [e] at this; cases this
theorem Inv.noCell {prog C l σ h} (i : Inv prog C l σ h) {a o v} (e : h.get? a = some o) (d : o.data = .cell v) : σ a = none := by
  cases q : σ a with
  | none => rfl
  | some ao => obtain ⟨ob, e', _, n⟩ := (i.hrel a ao q).has; rw [e] at e'; cases e'; exact absurd d (n v)
theorem Fr.step {hf h h' : Heap} {L : Addr} {m : Str → Option Value} (F : Fr hf L h m) (k : ∀ b o, hf.get? b = some o → h.get? b = some o → h'.get? b = some o) (a : ∀ o, h.get? L = some o → h'.get? L = some o) : Fr hf L h' m :=
  ⟨let ⟨o, es, ep, e, r⟩ := F.ns; ⟨o, es, ep, a o e, r⟩, fun b o e => k b o e (F.keep b o e), F.above⟩

theorem Inv.step {prog C l σ h σ' h'} (i : Inv prog C l σ h) (s : Step C.lo NoX σ h σ' h') (r : HRel prog C.w σ' h') : Inv prog C l σ' h' := by
  have k := s.imm0 i.hrel
  obtain ⟨m, F⟩ := i.fr
  refine ⟨⟨m, Fr.step F (fun b o e e' => s.keep b o e' (i.noHf e) id) fun o e => s.keep _ o e i.noLf id⟩, fun a q => ?_, r,
    i.lrel.step k (fun o e => s.keep _ o e i.noLoc id) fun b o v e d => s.keep b o e (i.noCell e d) id⟩
  cases z : σ a with
  | some _ => exact i.own a (by rw [z]; simp)
  | none =>
    obtain ⟨e, lo⟩ := s.fresh a z q
    have e := e.resolve_right id
    refine ⟨lo, ?_, ?_, ?_⟩
    · cases y : C.hf.get? a with
      | none => rfl
      | some o => have := F.keep a o y; rw [e] at this; cases this
    · rintro rfl; obtain ⟨o, _, _, e', _⟩ := F.ns; rw [e] at e'; cases e'
    · rintro rfl; obtain ⟨_, ⟨o, _, _, e', _⟩, _⟩ := i.lrel.loc; rw [e] at e'; cases e'
theorem Inv.size {prog C l σ h} (i : Inv prog C l σ h) (hl : C.lo ≤ C.Lf) : C.lo ≤ h.objs.size := by
  obtain ⟨m, F⟩ := i.fr
  exact Nat.le_of_lt (Nat.lt_of_le_of_lt hl F.ns.lt)
end Mine.Internal


namespace Mine.Internal

inductive Post {α β : Type} (prog : Program) (w : World) (lo : Nat) (R : Heap → α → β → Prop) (σ : AH) (s : Shared) (Q : α → AH → Prop) (v : β) (s' : Shared) : Prop
  | mk (h' : Heap) (tk' : Nat) (σ' : AH) (a : α) (e : s' = { s with heap := h', toks := tk' }) (st : Step lo NoX σ s.heap σ' h') (hr : HRel prog w σ' h') (r : R h' a v) (q : Q a σ') : Post prog w lo R σ s Q v s'
inductive X2 {a b : Type} (P : a → b → Prop) : Prop | mk (x y) (H : P x y) : X2 P
inductive X3 {a b c : Type} (P : a → b → c → Prop) : Prop | mk (x y z) (H : P x y z) : X3 P
inductive X4 {a b c d : Type} (P : a → b → c → d → Prop) : Prop | mk (x y z u) (H : P x y z u) : X4 P
inductive X5 {a b c d e : Type} (P : a → b → c → d → e → Prop) : Prop | mk (x y z u v) (H : P x y z u v) : X5 P
inductive X6 {a b c d e f : Type} (P : a → b → c → d → e → f → Prop) : Prop | mk (x y z u v w) (H : P x y z u v w) : X6 P
inductive X7 {a b c d e f g : Type} (P : a → b → c → d → e → f → g → Prop) : Prop | mk (x y z u v w s) (H : P x y z u v w s) : X7 P
inductive X8 {a b c d e f g h : Type} (P : a → b → c → d → e → f → g → h → Prop) : Prop | mk (x y z u v w s t) (H : P x y z u v w s t) : X8 P
inductive A3 (a b c : Prop) : Prop | mk (x : a) (y : b) (z : c) : A3 a b c
inductive A4 (a b c d : Prop) : Prop | mk (x : a) (y : b) (z : c) (u : d) : A4 a b c d
inductive A5 (a b c d e : Prop) : Prop | mk (x : a) (y : b) (z : c) (u : d) (v : e) : A5 a b c d e
inductive A6 (a b c d e f : Prop) : Prop | mk (x : a) (y : b) (z : c) (u : d) (v : e) (w : f) : A6 a b c d e f
inductive A7 (a b c d e f g : Prop) : Prop | mk (x : a) (y : b) (z : c) (u : d) (v : e) (w : f) (s : g) : A7 a b c d e f g
inductive A8 (a b c d e f g h : Prop) : Prop | mk (x : a) (y : b) (z : c) (u : d) (v : e) (w : f) (s : g) (t : h) : A8 a b c d e f g h
inductive A9 (a b c d e f g h i : Prop) : Prop | mk (x : a) (y : b) (z : c) (u : d) (v : e) (w : f) (s : g) (t : h) (p : i) : A9 a b c d e f g h i
inductive A10 (a b c d e f g h i j : Prop) : Prop | mk (x : a) (y : b) (z : c) (u : d) (v : e) (w : f) (s : g) (t : h) (p : i) (q : j) : A10 a b c d e f g h i j
inductive A11 (a b c d e f g h i j k : Prop) : Prop | mk (x : a) (y : b) (z : c) (u : d) (v : e) (w : f) (s : g) (t : h) (p : i) (q : j) (m : k) : A11 a b c d e f g h i j k
inductive A12 (a b c d e f g h i j k l : Prop) : Prop | mk (x : a) (y : b) (z : c) (u : d) (v : e) (w : f) (s : g) (t : h) (p : i) (q : j) (m : k) (n : l) : A12 a b c d e f g h i j k l

section
variable {α β γ δ : Type} {prog : Program} {w : World} {lo : Nat} {R : Heap → α → β → Prop} {R' : Heap → γ → δ → Prop} {σ : AH} {s : Shared} {Q : α → AH → Prop} {M : Model} {A : Around} {E : Value → Shared → Prop}

theorem Post.same {v : β} {a : α} {tk : Nat} (hr : HRel prog w σ s.heap) (r : R s.heap a v) (q : Q a σ) : Post prog w lo R σ s Q v { s with toks := tk } :=
  ⟨s.heap, tk, σ, a, rfl, Step.refl, hr, r, q⟩
theorem Post.here {v : β} {a : α} (hr : HRel prog w σ s.heap) (r : R s.heap a v) (q : Q a σ) : Post prog w lo R σ s Q v s :=
  ⟨s.heap, s.toks, σ, a, rfl, Step.refl, hr, r, q⟩
theorem Post.grown {v : β} {a : α} {h' : Heap} {tk : Nat} (hr : HRel prog w σ s.heap) (k : ∀ b o, s.heap.get? b = some o → h'.get? b = some o) (r : R h' a v) (q : Q a σ) :
    Post prog w lo R σ s Q v { s with heap := h', toks := tk } := ⟨h', tk, σ, a, rfl, Step.grow k, hr.grow k, r, q⟩
/-- what is reached from a state reached -/
theorem Post.lift {h₁ : Heap} {tk₁ : Nat} {σ₁ : AH} {Q' : γ → AH → Prop} {v : δ} {s' : Shared} (st : Step lo NoX σ s.heap σ₁ h₁) (p : Post prog w lo R' σ₁ { s with heap := h₁, toks := tk₁ } Q' v s') :
    Post prog w lo R' σ s Q' v s' :=
  let ⟨h, t, τ, a, e, st', hr, r, q⟩ := p; ⟨h, t, τ, a, e, st.trans st', hr, r, q⟩
/-- one step, then what follows -/
theorem seqP {t : Sem β} {P : β → Shared → Prop} (h : wpAny M A t (Post prog w lo R σ s Q) E s)
    (k : ∀ h₁ tk₁ σ₁ a v, Step lo NoX σ s.heap σ₁ h₁ → HRel prog w σ₁ h₁ → R h₁ a v → Q a σ₁ → P v { s with heap := h₁, toks := tk₁ }) : wpAny M A t P E s :=
  wpAny_mono h (fun v s' p => by obtain ⟨h₁, tk₁, σ₁, a, rfl, st, hr, r, q⟩ := p; exact k h₁ tk₁ σ₁ a v st hr r q) fun _ _ e => e
theorem Post.lifts {t : Sem δ} {h₁ : Heap} {tk₁ : Nat} {σ₁ : AH} {Q' : γ → AH → Prop} (st : Step lo NoX σ s.heap σ₁ h₁)
    (h : wpAny M A t (Post prog w lo R' σ₁ { s with heap := h₁, toks := tk₁ } Q') E { s with heap := h₁, toks := tk₁ }) :
    wpAny M A t (Post prog w lo R' σ s Q') E { s with heap := h₁, toks := tk₁ } := wpAny_mono h (fun _ _ p => p.lift st) fun _ _ e => e
end

noncomputable abbrev PV (prog : Program) (w : World) (lo : Nat) (σ : AH) (s : Shared) (Q : AV → AH → Prop) := Post prog w lo (fun h a v => VRel h a v) σ s Q
noncomputable abbrev PB (prog : Program) (w : World) (lo : Nat) (σ : AH) (s : Shared) (Q : Bool → AH → Prop) := Post prog w lo (fun (_ : Heap) (a v : Bool) => v = a) σ s Q
noncomputable abbrev PVs (prog : Program) (w : World) (lo : Nat) (σ : AH) (s : Shared) (Q : List AV → AH → Prop) := Post prog w lo (fun h a v => All2 (VRel h) a v) σ s Q
noncomputable abbrev PU (prog : Program) (w : World) (lo : Nat) (σ : AH) (s : Shared) (Q : AH → Prop) := Post prog w lo (fun (_ : Heap) (_ _ : Unit) => True) σ s (fun _ τ => Q τ)

section
variable {prog : Program} {w : World} {lo : Nat} {σ : AH} {s : Shared} {Q : AV → AH → Prop}
/-- a new list -/
theorem PV.newList {xs : List AV} {vs : List Value} {n : Nat} {h' : Heap} {tk : Nat} {a : Addr} (hr : HRel prog w σ s.heap) (hl : lo ≤ s.heap.objs.size)
    (k : ∀ b o, s.heap.get? b = some o → h'.get? b = some o) (ha : s.heap.objs.size ≤ a) (e : h'.get? a = some (listOf vs.toArray n)) (r : All2 (VRel h') xs vs)
    (q : ∀ a, σ a = none → Q (.ref a) (upd σ a (.list xs))) : PV prog w lo σ s Q (.ref a) { s with heap := h', toks := tk } := by
  have hn : s.heap.get? a = none := by
    cases z : s.heap.get? a with
    | none => rfl
    | some o => exact absurd (Heap.lt_size z) (Nat.not_lt.mpr ha)
  have sn := hr.free hn
  refine ⟨h', tk, upd σ a (.list xs), .ref a, rfl, ⟨fun b o e _ _ => k b o e, fun b x y => ?_, fun b z _ => ?_⟩, ?_, rfl, q a sn⟩
  · by_cases z : b = a
    · subst z; exact ⟨.inl hn, Nat.le_trans hl ha⟩
    · rw [upd_ne z] at y; exact absurd x y
  · cases x : s.heap.get? b with
    | none => exact absurd x z
    | some o => rw [k b o x]; simp
  · intro b o z
    by_cases x : b = a
    · subst x; rw [upd_self] at z; cases z; exact ⟨vs, n, e, r⟩
    · rw [upd_ne x] at z; exact (hr b o z).mono (fun c o' e' _ => k c o' e') fun ob e' => k b ob e'
end

/-! ### what a match says -/
section
variable {σ : AH} {a b : AV} {o p : Option AO} {args : List AV} {n : Option (Addr × Addr × List (Str × AV))} {G : Prop}
theorem iSB {o : Option (Bool)} {P : Bool → Prop} (h : match o with | some v => P v | none => False) (k : ∀ v, o = some v → P v → G) : G := by
  cases o with
  | none => exact h.elim
  | some v => exact k v rfl h
theorem iSV {o : Option (AV)} {P : AV → Prop} (h : match o with | some v => P v | none => False) (k : ∀ v, o = some v → P v → G) : G := by
  cases o with
  | none => exact h.elim
  | some v => exact k v rfl h
theorem iSO {o : Option (AO)} {P : AO → Prop} (h : match o with | some v => P v | none => False) (k : ∀ v, o = some v → P v → G) : G := by
  cases o with
  | none => exact h.elim
  | some v => exact k v rfl h
theorem iSI {o : Option (List (Int × AV))} {P : List (Int × AV) → Prop} (h : match o with | some v => P v | none => False) (k : ∀ v, o = some v → P v → G) : G := by
  cases o with
  | none => exact h.elim
  | some v => exact k v rfl h
theorem iSS {o : Option (List (Str × AV))} {P : List (Str × AV) → Prop} (h : match o with | some v => P v | none => False) (k : ∀ v, o = some v → P v → G) : G := by
  cases o with
  | none => exact h.elim
  | some v => exact k v rfl h
theorem iSP {o : Option (List ((Int × Int) × AV))} {P : List ((Int × Int) × AV) → Prop} (h : match o with | some v => P v | none => False) (k : ∀ v, o = some v → P v → G) : G := by
  cases o with
  | none => exact h.elim
  | some v => exact k v rfl h
theorem iSN {o : Option (List Int)} {P : List Int → Prop} (h : match o with | some v => P v | none => False) (k : ∀ v, o = some v → P v → G) : G := by
  cases o with
  | none => exact h.elim
  | some v => exact k v rfl h
theorem iSQ {o : Option (Int × Int)} {P : Int × Int → Prop} (h : match o with | some v => P v | none => False) (k : ∀ v, o = some v → P v → G) : G := by
  cases o with
  | none => exact h.elim
  | some v => exact k v rfl h
theorem iSL {o : Option (List AV)} {P : List AV → Prop} (h : match o with | some v => P v | none => False) (k : ∀ v, o = some v → P v → G) : G := by
  cases o with
  | none => exact h.elim
  | some v => exact k v rfl h
theorem iL {P : List AV → Prop} (h : match o with | some (.list xs) => P xs | _ => False) (k : ∀ xs, o = some (.list xs) → P xs → G) : G := by
  cases o with
  | none => exact h.elim
  | some o => cases o with
    | list xs => exact k xs rfl h
    | _ => exact h.elim
theorem iLO {P : List AV → Prop} {R : AO → Prop} (h : match o with | some (.list xs) => P xs | some o => R o | none => False) (k : ∀ xs, o = some (.list xs) → P xs → G) (r : ∀ x, o = some x → R x → G) : G := by
  cases o with
  | none => exact h.elim
  | some o => cases o with
    | list xs => exact k xs rfl h
    | _ => exact r _ rfl h
theorem iLD {P : List AV → Prop} {R : Prop} (h : match o with | some (.list xs) => P xs | some .dict0 => R | _ => False) (k : ∀ xs, o = some (.list xs) → P xs → G) (r : o = some .dict0 → R → G) : G := by
  cases o with
  | none => exact h.elim
  | some o => cases o with
    | list xs => exact k xs rfl h
    | dict0 => exact r rfl h
    | _ => exact h.elim
theorem iLL {P : List AV → List AV → Prop} (h : match o, p with | some (.list xs), some (.list ys) => P xs ys | _, _ => False) (k : ∀ xs ys, o = some (.list xs) → p = some (.list ys) → P xs ys → G) : G := by
  cases o with
  | none => exact h.elim
  | some o => cases o with
    | list xs => cases p with
      | none => exact h.elim
      | some p => cases p with
        | list ys => exact k xs ys rfl rfl h
        | _ => exact h.elim
    | _ => exact h.elim
theorem iR {P : Addr → Prop} (h : match a with | .ref x => P x | _ => False) (k : ∀ x, a = .ref x → P x → G) : G := by
  cases a with
  | ref x => exact k x rfl h
  | _ => exact h.elim
theorem iI {P : Int → Prop} (h : match a with | .int i => P i | _ => False) (k : ∀ i, a = .int i → P i → G) : G := by
  cases a with
  | int i => exact k i rfl h
  | _ => exact h.elim
theorem iN {F : Addr → Addr → List (Str × AV) → Prop} {N : Prop} (h : match n with | some (c, d, fs) => F c d fs | none => N) (k : ∀ c d fs, n = some (c, d, fs) → F c d fs → G) (r : n = none → N → G) : G := by
  cases n with
  | none => exact r rfl h
  | some q => exact k q.1 q.2.1 q.2.2 rfl h
theorem i1 {P : AV → Prop} (h : match args with | [v] => P v | _ => False) (k : ∀ v, args = [v] → P v → G) : G := by
  cases args with
  | nil => exact h.elim
  | cons v r => cases r with
    | nil => exact k v rfl h
    | cons _ _ => exact h.elim
end

/-! ### binary operations -/

noncomputable def intsP (a b : AV) (P : Int → Int → Prop) : Prop := match a with | .int i => (match b with | .int j => P i j | _ => False) | _ => False
noncomputable def wpBin (op : Operator) (a b : AV) (σ : AH) (Q : AV → AH → Prop) : Prop :=
  match op with
  | .Add => (match a with
    | .ref x => (match b with
      | .ref y => (match σ x, σ y with
        | some (.list xs), some (.list ys) => xs.length + ys.length ≤ 1000000 ∧ ∀ c, σ c = none → Q (.ref c) (upd σ c (.list (xs ++ ys)))
        | _, _ => False)
      | _ => False)
    | a => intsP a b fun i j => Q (.int (i + j)) σ)
  | .Sub => intsP a b fun i j => Q (.int (i - j)) σ
  | .Mult => (match a with
    | .ref x => (match b with
      | .int j => (match σ x with
        | some (.list xs) => 0 ≤ j ∧ j ≤ 1000 ∧ xs.length ≤ 1000 ∧ ∀ c, σ c = none → Q (.ref c) (upd σ c (.list (List.flatten (List.replicate j.toNat xs))))
        | _ => False)
      | _ => False)
    | a => intsP a b fun i j => IntMulOk i j ∧ Q (.int (i * j)) σ)
  | .FloorDiv => intsP a b fun i j => j ≠ 0 ∧ j.natAbs < 1073741824 ∧ Q (.int (i.fdiv j)) σ
  | .Mod => intsP a b fun i j => j ≠ 0 ∧ Q (.int (i.fmod j)) σ
  | .BitXor => intsP a b fun i j => Q (.int (Builtin.bitXor i j)) σ
  | .BitAnd => intsP a b fun i j => Q (.int (Builtin.bitAnd i j)) σ
  | .RShift => intsP a b fun i j => 0 ≤ j ∧ Q (.int (i.fdiv (2 ^ j.toNat))) σ
  | .Pow => intsP a b fun i j => 0 ≤ j ∧ j ≤ 1000000 ∧ i.natAbs < 2 ^ 64 ∧ Q (.int (i ^ j.toNat)) σ
  | _ => False


theorem vint {h : Heap} {i : Int} {t : Tok} : VRel h (.int i) (.int i t) := ⟨t, rfl⟩
theorem vstr {h : Heap} {x : Str} {t : Tok} : VRel h (.str x) (.str x t) := ⟨t, rfl⟩
theorem vnone {h : Heap} : VRel h .none .none := rfl
theorem foldl_replicate (vs : List Value) (n : Nat) : List.foldl (fun x1 x2 => x1 ++ x2) (#[] : Array Value) (List.replicate n vs.toArray) = (List.flatten (List.replicate n vs)).toArray := by
  have key : ∀ (n : Nat) (acc : List Value), List.foldl (fun x1 x2 => x1 ++ x2) acc.toArray (List.replicate n vs.toArray) = (acc ++ List.flatten (List.replicate n vs)).toArray := by
    intro n
    induction n with
    | zero => intro acc; simp
    | succ n ih =>
      intro acc
      rw [List.replicate_succ, List.foldl_cons, List.append_toArray, ih, List.replicate_succ, List.flatten_cons, List.append_assoc]
  simpa using key n []
theorem All2.repl {α β : Type} {R : α → β → Prop} {as : List α} {bs : List β} (h : All2 R as bs) : ∀ n, All2 R (List.flatten (List.replicate n as)) (List.flatten (List.replicate n bs))
  | 0 => .nil
  | n + 1 => by rw [List.replicate_succ, List.replicate_succ, List.flatten_cons, List.flatten_cons]; exact h.append (All2.repl h n)
theorem All2.flen {α β : Type} {R : α → β → Prop} {as : List α} {bs : List β} (h : All2 R as bs) {n : Nat} (e : as.length ≤ n) : bs.length ≤ n := by rw [← h.length]; exact e

section
variable {prog : Program} {w : World} {lo : Nat} {σ : AH} {s : Shared} {Q : AV → AH → Prop} {A : Around} {E : Value → Shared → Prop}

theorem mul_list_raw {l : Addr} {items : Array Value} {k : Nat} {x : Int} {u : Tok} {Q : Value → Shared → Prop}
    (hl : s.heap.get? l = some { cls := .type "list", dict := none, data := .seq items k, slots := #[] })
    (hlo : -(2 ^ 63 : Int) ≤ x) (hhi : x < 2 ^ 63) (hsz : items.size * x.toNat ≤ 2 ^ 24)
    (h : Q (.ref s.heap.objs.size) { s with heap := s.heap.push { cls := .type "list", data := .seq (List.foldl (fun x1 x2 => x1 ++ x2) #[] (List.replicate (if items.isEmpty = true then 0 else x.toNat) items)) } }) :
    wpAny (model prog w) A (binaryOp .Mult (.ref l) (.int x u)) Q E s :=
  wpAny_binaryOp_repeat_ref (T := "list") (U := "int") (by decide) ⟨_, hl, rfl⟩ (fun s' => typeIs_int s' x u) noFill_list_mul F.fills_int_mul F.slot_int_rmul repeat_list F.slot_int_index.lookup
    (call_meets F.slot_int_rmul (typeIs_int s x u) F.entry_int_rmul (F.args_int_rmul_2 _ _) (int___rmul___int_list x u l items k)
      ⟨hl, rfl, ⟨_, hl, rfl⟩, call_meets F.slot_list_mul ⟨_, hl, rfl⟩ F.entry_list_mul (F.args_list_mul_2 _ _)
        (AutoListH.list___mul___list_int_3 l items k x u (by simp [Builtin.List.listFitsIndex]; (first | lia | omega)) (by (first | lia | omega)) (by simp [Builtin.List.listTooLong, sizeLine]; (first | lia | omega)))
        ⟨hl, h⟩⟩)

theorem binII {T : Type} {f : Value → Value → Sem T} {R : T → Shared → Prop} {a b : AV} {u v : Value} {P : Int → Int → Prop} (ha : VRel s.heap a u) (hb : VRel s.heap b v) (e : intsP a b P) (k : ∀ i j t t', P i j → wpAny (model prog w) A (f (.int i t) (.int j t')) R E s) : wpAny (model prog w) A (f u v) R E s := by
  cases a with
  | int i => cases b with
    | int j =>
      obtain ⟨t, rfl⟩ := ha
      obtain ⟨t', rfl⟩ := hb
      exact k i j t t' e
    | _ => exact e.elim
  | _ => exact e.elim
theorem iAdd {P : Addr → Addr → Prop} {F : AV → Prop} {a b : AV} (h : match a with | .ref x => (match b with | .ref y => P x y | _ => False) | a => F a) : (∃ x y, a = .ref x ∧ b = .ref y ∧ P x y) ∨ F a := by
  cases a with
  | ref x =>
    exact iR h fun y e h => .inl ⟨x, y, rfl, e, h⟩
  | _ => exact .inr h
theorem iMul {P : Addr → Int → Prop} {F : Int → Int → Prop} {a b : AV} (h : match a with | .ref x => (match b with | .int y => P x y | _ => False) | a => intsP a b F) : (∃ x y, a = .ref x ∧ b = .int y ∧ P x y) ∨ intsP a b F := by
  cases a with
  | ref x => cases b with
    | int y => exact .inl ⟨x, y, rfl, rfl, h⟩
    | _ => exact h.elim
  | _ => exact .inr h
theorem newL {vs : List Value} {o : Obj} (e : o = listOf vs.toArray 0) {xs : List AV} (hr : HRel prog w σ s.heap) (hl : lo ≤ s.heap.objs.size) (r : All2 (VRel s.heap) xs vs) (q : ∀ c, σ c = none → Q (.ref c) (upd σ c (.list xs))) :
    PV prog w lo σ s Q (.ref s.heap.objs.size) { s with heap := s.heap.push o } := by
  subst e
  have k : ∀ b o, s.heap.get? b = some o → (s.heap.push (listOf vs.toArray 0)).get? b = some o := fun b o e => Heap.get?_push_of_some _ e
  exact PV.newList hr hl k (Nat.le_refl _) (Heap.get?_push_size _ rfl) (r.mono fun _ _ z => z.mono fun b o e _ => k b o e) q
theorem add_ok {x y : Addr} (hr : HRel prog w σ s.heap) (hl : lo ≤ s.heap.objs.size) (h : match σ x, σ y with | some (.list xs), some (.list ys) => xs.length + ys.length ≤ 1000000 ∧ ∀ c, σ c = none → Q (.ref c) (upd σ c (.list (xs ++ ys))) | _, _ => False) :
    wpAny (model prog w) A (binaryOp .Add (.ref x) (.ref y)) (PV prog w lo σ s Q) E s := by
  refine iLL h fun xs ys ex ey h9 => ?_
  clear h
  obtain ⟨vs, n, gx, rx⟩ := hr _ _ ex
  obtain ⟨ws, m, gy, ry⟩ := hr _ _ ey
  have lx := rx.length
  have ly := ry.length
  exact PySem.P.add_list (items := vs.toArray) (items2 := ws.toArray) gx gy (newL (vs := vs ++ ws) (by rw [← List.append_toArray]) hr hl (rx.append ry) h9.2) (by rw [sizeLine_eq, List.size_toArray, List.size_toArray]; (first | lia | omega))
theorem mul_ok {x : Addr} {j : Int} {t : Tok} (hr : HRel prog w σ s.heap) (hl : lo ≤ s.heap.objs.size) (h : match σ x with | some (.list xs) => 0 ≤ j ∧ j ≤ 1000 ∧ xs.length ≤ 1000 ∧ ∀ c, σ c = none → Q (.ref c) (upd σ c (.list (List.flatten (List.replicate j.toNat xs)))) | _ => False) :
    wpAny (model prog w) A (binaryOp .Mult (.ref x) (.int j t)) (PV prog w lo σ s Q) E s := by
  refine iL h fun xs ex h9 => ?_
  clear h
  obtain ⟨h1, h2, h3, h4⟩ := h9
  obtain ⟨vs, n, gx, rx⟩ := hr _ _ ex
  have hv : vs.length ≤ 1000 := rx.flen h3
  have e : List.foldl (fun x1 x2 => x1 ++ x2) (#[] : Array Value) (List.replicate (if vs.toArray.isEmpty = true then 0 else j.toNat) vs.toArray) = (List.flatten (List.replicate j.toNat vs)).toArray := by
    rw [foldl_replicate]
    cases vs with
    | nil => simp
    | cons _ _ => rw [if_neg (fun z => by cases z)]
  refine mul_list_raw (items := vs.toArray) gx (by (first | lia | omega)) (by (first | lia | omega)) ?_ (newL (by rw [e]) hr hl (rx.repl j.toNat) h4)
  have : j.toNat ≤ 1000 := by (first | lia | omega)
  have := Nat.mul_le_mul hv this
  rw [List.size_toArray]
  (first | lia | omega)
theorem bin_ok {op : Operator} {a b : AV} {u v : Value} (hr : HRel prog w σ s.heap) (hl : lo ≤ s.heap.objs.size) (ha : VRel s.heap a u) (hb : VRel s.heap b v) (h : wpBin op a b σ Q) :
    wpAny (model prog w) A (binaryOp op u v) (PV prog w lo σ s Q) E s := by
  cases op with
  | Add =>
    rcases iAdd h with ⟨x, y, rfl, rfl, h⟩ | h
    · cases ha; cases hb; exact add_ok hr hl h
    · exact binII ha hb h fun i j t t' h => PyProof.Rows.add_int (Post.same hr vint h)
  | Mult =>
    rcases iMul h with ⟨x, y, rfl, rfl, h⟩ | h
    · cases ha; obtain ⟨t, rfl⟩ := hb; exact mul_ok hr hl h
    · exact binII ha hb h fun i j t t' h => PyProof.Rows.mul_int (Post.same hr vint h.2) h.1
  | Sub => exact binII ha hb h fun i j t t' h => PyProof.Rows.sub_int (Post.same hr vint h)
  | FloorDiv => exact binII ha hb h fun i j t t' h => PyProof.Rows.floordiv_int h.1 (Post.same hr vint h.2.2) (.inl (PyProof.noPylong_small h.2.1))
  | Mod => exact binII ha hb h fun i j t t' h => PyProof.Rows.mod_int' h.1 (Post.same hr vint h.2)
  | BitXor => exact binII ha hb h fun i j t t' h => PyProof.Rows.xor_int (Post.same hr vint h)
  | BitAnd => exact binII ha hb h fun i j t t' h => PyProof.Rows.and_int (Post.same hr vint h)
  | RShift => exact binII ha hb h fun i j t t' h => PyProof.Rows.rshift_int h.1 (Post.same hr vint h.2)
  | Pow => exact binII ha hb h fun i j t t' h => PyProof.Rows.pow_int_small h.1 h.2.1 h.2.2.1 (Post.same hr vint h.2.2.2)
  | _ => exact h.elim

/-- in place: ints alone -/
noncomputable def wpInplace (op : Operator) (a b : AV) (σ : AH) (Q : AV → AH → Prop) : Prop :=
  match op with
  | .Add => intsP a b fun i j => Q (.int (i + j)) σ
  | .Sub => intsP a b fun i j => Q (.int (i - j)) σ
  | _ => False
theorem inplace_ok {op : Operator} {a b : AV} {u v : Value} (hr : HRel prog w σ s.heap) (ha : VRel s.heap a u) (hb : VRel s.heap b v) (h : wpInplace op a b σ Q) :
    wpAny (model prog w) A (inplaceOp op u v) (PV prog w lo σ s Q) E s := by
  cases op with
  | Add => exact binII ha hb h fun i j t t' h => PyProof.Rows.iadd_int (Post.same hr vint h)
  | Sub => exact binII ha hb h fun i j t t' h => PyProof.Rows.isub_int (Post.same hr vint h)
  | _ => exact h.elim
end
end Mine.Internal


namespace Mine.Internal

/-! ### dicts -/
section
variable {K : Type} [DecidableEq K]
noncomputable def lookK (es : List (K × AV)) (k : K) : Option AV := (es.find? fun p => p.1 = k).map (·.2)
noncomputable def hasK (es : List (K × AV)) (k : K) : Bool := (lookK es k).isSome
noncomputable def putK (es : List (K × AV)) (k : K) (v : AV) : List (K × AV) :=
  if es.any (fun p => p.1 = k) then es.map (fun p => if p.1 = k then (p.1, v) else p) else es ++ [(k, v)]

theorem look_cons (k k2 : K) (a : AV) (es : List (K × AV)) : lookK ((k2, a) :: es) k = if k2 = k then some a else lookK es k := by
  unfold lookK
  rw [List.find?_cons]
  by_cases z : k2 = k
  · rw [if_pos z, decide_eq_true z]; rfl
  · rw [if_neg z, decide_eq_false z]
theorem EK.look {h : Heap} {es : List (K × AV)} {kvs : List (K × Value)} (r : All2 (EK h) es kvs) (k : K) :
    (∀ a, lookK es k = some a → ∃ v, valueAt kvs k = some v ∧ VRel h a v) ∧ (lookK es k = none → valueAt kvs k = none) := by
  induction r with
  | nil => exact ⟨fun a e => (nomatch e), fun _ => rfl⟩
  | @cons p q es kvs x _ ih =>
    obtain ⟨k1, a⟩ := p
    obtain ⟨k2, v⟩ := q
    obtain ⟨e, rv⟩ := x
    cases e
    have e2 : valueAt ((k1, v) :: kvs) k = if k1 = k then some v else valueAt kvs k := by
      unfold valueAt
      rw [List.find?_cons]
      by_cases z : k1 = k
      · rw [if_pos z, decide_eq_true z]; rfl
      · rw [if_neg z, decide_eq_false z]
    rw [look_cons, e2]
    by_cases z : k1 = k
    · rw [if_pos z, if_pos z]; exact ⟨fun a e => ⟨v, rfl, Option.some.inj e ▸ rv⟩, fun e => (nomatch e)⟩
    · rw [if_neg z, if_neg z]; exact ih
theorem EK.put {h : Heap} {es : List (K × AV)} {kvs : List (K × Value)} (r : All2 (EK h) es kvs) (k : K) {a : AV} {v : Value} (rv : VRel h a v) : All2 (EK h) (putK es k a) (stored kvs k v) := by
  have e1 : es.any (fun p => decide (p.1 = k)) = kvs.any (fun p => decide (p.1 = k)) := by
    induction r with
    | nil => rfl
    | cons x _ ih => simp only [List.any_cons, ih, x.1]
  have e2 : All2 (EK h) (es.map fun p => if p.1 = k then (p.1, a) else p) (kvs.map fun p => if p.1 = k then (p.1, v) else p) := by
    clear e1
    induction r with
    | nil => exact .nil
    | @cons p q es kvs x _ ih =>
      simp only [List.map_cons]
      refine .cons ?_ ih
      rw [x.1]
      by_cases z : p.1 = k
      · rw [if_pos z, if_pos z]; exact ⟨rfl, rv⟩
      · rw [if_neg z, if_neg z]; exact x
  unfold putK stored
  rw [e1]
  split
  · exact e2
  · exact r.append (.cons ⟨rfl, rv⟩ .nil)
end

theorem dictOf_nil {prog : Program} {w : World} {K : Type} [DecidableEq K] {knd : PySem.KeyKind prog w K} {h : Heap} {a : Addr} {n : Nat} (e : h.get? a = some (dictOf [] n)) : h.DictOf knd a [] :=
  ⟨_, #[], n, e, ⟨rfl, rfl, rfl⟩, rfl, fun _ he => by simp at he, .nil, List.nodup_nil⟩
theorem dictOfH_nil {prog : Program} {w : World} {K : Type} [DecidableEq K] {knd : HeapKind prog w K} {h : Heap} {a : Addr} {n : Nat} (e : h.get? a = some (dictOf [] n)) : h.DictOfH knd a [] :=
  ⟨_, #[], n, e, ⟨rfl, rfl, rfl⟩, rfl, rfl, fun _ hx => by simp at hx, List.nodup_nil⟩

/-- a dict with int keys | str keys | pairs, the empty one as any -/
noncomputable def asI : AO → Option (List (Int × AV)) | .dict0 => some [] | .dictI es => some es | _ => none
noncomputable def asS : AO → Option (List (Str × AV)) | .dict0 => some [] | .dictS es => some es | _ => none
noncomputable def asP : AO → Option (List ((Int × Int) × AV)) | .dict0 => some [] | .dictP es => some es | _ => none
section
variable {prog : Program} {w : World} {h : Heap} {a : Addr} {o : AO}
theorem asI_ok {es} (r : ORel prog w h a o) (e : asI o = some es) : ∃ kvs, h.DictOf (intKind prog w) a kvs ∧ All2 (EK h) es kvs := by
  cases o with
  | dict0 => cases e; obtain ⟨n, g⟩ := r; exact ⟨[], dictOf_nil g, .nil⟩
  | dictI es => cases e; exact r
  | _ => exact nS e
theorem asS_ok {es} (r : ORel prog w h a o) (e : asS o = some es) : ∃ kvs, h.DictOf (PySem.strKind prog w) a kvs ∧ All2 (EK h) es kvs := by
  cases o with
  | dict0 => cases e; obtain ⟨n, g⟩ := r; exact ⟨[], dictOf_nil g, .nil⟩
  | dictS es => cases e; exact r
  | _ => exact nS e
theorem asP_ok {es} (r : ORel prog w h a o) (e : asP o = some es) : ∃ xs, h.DictOfH (tupleKind (intKind prog w)) a xs ∧ All2 (EP h) es xs := by
  cases o with
  | dict0 => cases e; obtain ⟨n, g⟩ := r; exact ⟨[], dictOfH_nil g, .nil⟩
  | dictP es => cases e; exact r
  | _ => exact nS e
theorem int_is {prog : Program} {w : World} {k : Int} {t : Tok} : (intKind prog w).is k (.int k t) = true := by simp [intKind, Value.isInt]
theorem str_is {prog : Program} {w : World} {k : Str} {t : Tok} : (PySem.strKind prog w).is k (.str k t) = true := by simp [PySem.strKind, Value.isStrOf]
end

/-! ### lists of bools, ints, texts -/
noncomputable def boolsOf : List AV → Option (List Bool)
  | [] => some []
  | .bool b :: r => (boolsOf r).map (b :: ·)
  | _ => none
noncomputable def intsOf : List AV → Option (List Int)
  | [] => some []
  | .int b :: r => (intsOf r).map (b :: ·)
  | _ => none
noncomputable def strsOf : List AV → Option (List Str)
  | [] => some []
  | .str b :: r => (strsOf r).map (b :: ·)
  | _ => none
theorem boolsOf_ok {h : Heap} {xs : List AV} : ∀ {bs : List Bool} {vs : List Value}, boolsOf xs = some bs → All2 (VRel h) xs vs → vs = bs.map .bool := by
  induction xs with
  | nil => intro bs vs e r; cases r; cases e; exact rfl
  | cons x r ih =>
    intro bs vs e a
    cases a with
    | cons v y =>
    cases x with
    | bool b =>
      obtain ⟨c, e1, rfl⟩ := Option.map_eq_some_iff.mp (show (boolsOf r).map (b :: ·) = some bs from e)
      rw [show _ = _ from v, ih e1 y]; rfl
    | _ => exact nS e
theorem intsOf_ok {h : Heap} {xs : List AV} : ∀ {bs : List Int} {vs : List Value}, intsOf xs = some bs → All2 (VRel h) xs vs → IntsAre vs bs := by
  induction xs with
  | nil => intro bs vs e r; cases r; cases e; exact .nil
  | cons x r ih =>
    intro bs vs e a
    cases a with
    | cons v y =>
    cases x with
    | int b =>
      obtain ⟨c, e1, rfl⟩ := Option.map_eq_some_iff.mp (show (intsOf r).map (b :: ·) = some bs from e)
      obtain ⟨t, rfl⟩ := v
      exact .cons _ _ (ih e1 y)
    | _ => exact nS e
theorem strsOf_ok {h : Heap} {xs : List AV} : ∀ {bs : List Str} {vs : List Value}, strsOf xs = some bs → All2 (VRel h) xs vs → All2 (fun x v => ∃ t, v = Value.str x t) bs vs := by
  induction xs with
  | nil => intro bs vs e r; cases r; cases e; exact .nil
  | cons x r ih =>
    intro bs vs e a
    cases a with
    | cons v y =>
    cases x with
    | str b =>
      obtain ⟨c, e1, rfl⟩ := Option.map_eq_some_iff.mp (show (strsOf r).map (b :: ·) = some bs from e)
      exact .cons v (ih e1 y)
    | _ => exact nS e

/-- x in o -/
noncomputable def member (a : AV) (o : AO) : Option Bool :=
  match a with
  | .int k => (asI o).map (hasK · k)
  | .str x => (match o with | .list xs => (strsOf xs).map (·.contains x) | o => (asS o).map (hasK · x))
  | .bool b => (match o with | .list xs => (boolsOf xs).map (·.contains b) | _ => none)
  | _ => none

noncomputable def eqLists (xs ys : List AV) : Option Bool :=
  match boolsOf xs, boolsOf ys with
  | some a, some b => some (a == b)
  | _, _ => match intsOf xs, intsOf ys with
    | some a, some b => some (a == b)
    | _, _ => none

noncomputable def isNoneV : AV → Option Bool
  | .none => some true
  | .con _ => none
  | _ => some false

noncomputable def cmpEq (a b : AV) (P : Bool → Prop) : Prop :=
  match a with
  | .int i => (match b with | .int j => P (i == j) | _ => False)
  | .str i => (match b with | .str j => P (i == j) | _ => False)
  | .bool i => (match b with | .bool j => P (i == j) | _ => False)
  | _ => False
noncomputable def wpCmp (op : CmpOp) (a b : AV) (σ : AH) (Q : Bool → AH → Prop) : Prop :=
  match op with
  | .Eq => cmpEq a b fun r => Q r σ
  | .NotEq => (match a with
    | .ref x => (match b with
      | .ref y => (match σ x, σ y with
        | some (.list xs), some (.list ys) => (match eqLists xs ys with | some r => Q (!r) σ | none => False)
        | _, _ => False)
      | _ => False)
    | a => cmpEq a b fun r => Q (!r) σ)
  | .Lt => intsP a b fun i j => Q (decide (i < j)) σ
  | .LtE => intsP a b fun i j => Q (decide (i ≤ j)) σ
  | .Gt => intsP a b fun i j => Q (decide (j < i)) σ
  | .GtE => intsP a b fun i j => Q (decide (j ≤ i)) σ
  | .Is => (match b with | .none => (match isNoneV a with | some r => Q r σ | none => False) | _ => False)
  | .IsNot => (match b with | .none => (match isNoneV a with | some r => Q (!r) σ | none => False) | _ => False)
  | .In => (match b with
    | .ref d => (match σ d with
      | some o => (match member a o with | some r => Q r σ | none => False)
      | none => False)
    | _ => False)
  | .NotIn => (match b with
    | .ref d => (match σ d with
      | some o => (match member a o with | some r => Q (!r) σ | none => False)
      | none => False)
    | _ => False)

noncomputable abbrev PC (prog : Program) (w : World) (lo : Nat) (σ : AH) (s : Shared) (Q : Bool → AH → Prop) := Post prog w lo (fun (_ : Heap) (a : Bool) (v : Value) => v = .bool a) σ s Q

section
variable {prog : Program} {w : World} {lo : Nat} {σ : AH} {s : Shared} {A : Around} {E : Value → Shared → Prop}

theorem valueAt_has {h : Heap} {K : Type} [DecidableEq K] {es : List (K × AV)} {kvs : List (K × Value)} (r : All2 (EK h) es kvs) (k : K) : (valueAt kvs k).isSome = hasK es k := by
  have t := EK.look r k
  unfold hasK
  cases z : lookK es k with
  | none => rw [t.2 z]; rfl
  | some a => obtain ⟨v, e, _⟩ := t.1 a z; rw [e]; rfl
theorem any_bools (b : Bool) : ∀ bs : List Bool, (bs.map Value.bool).toArray.any (fun y => match y with | .bool c => c == b | _ => false) = bs.contains b := by
  intro bs
  rw [List.any_toArray]
  induction bs with
  | nil => rfl
  | cons c r ih =>
    rw [List.map_cons, List.any_cons, ih, List.contains_cons]
    congr 1
    cases c <;> cases b <;> rfl
theorem any_strs {x : Str} {bs : List Str} {vs : List Value} (r : All2 (fun x v => ∃ t, v = Value.str x t) bs vs) :
    vs.toArray.any (fun y => match y with | .str c _ => c == x | _ => false) = bs.contains x := by
  rw [List.any_toArray]
  induction r with
  | nil => rfl
  | @cons c v bs vs y _ ih =>
    obtain ⟨t, rfl⟩ := y
    rw [List.any_cons, ih, List.contains_cons]
    congr 1
    exact Bool.beq_comm
theorem all2_mem {α β : Type} {R : α → β → Prop} {as : List α} {bs : List β} (h : All2 R as bs) : ∀ b ∈ bs, ∃ a, R a b := by
  induction h with
  | nil => intro b hb; cases hb
  | cons x _ ih => intro b hb; rcases List.mem_cons.mp hb with rfl | hb; exact ⟨_, x⟩; exact ih b hb

section
variable {d : Addr} {u : Value} {Q : Bool → AH → Prop} {r : Bool}
theorem mem_dict {K : Type} [DecidableEq K] {knd : PySem.KeyKind prog w K} {kvs : List (K × Value)} {es : List (K × AV)} {k : K} (hr : HRel prog w σ s.heap) (hd : (d == sysModules) = false) (ki : knd.is k u = true)
    (D : s.heap.DictOf knd d kvs) (x : All2 (EK s.heap) es kvs) (e : hasK es k = r) :
    (Q r σ → wpAny (model prog w) A (compareOp .In u (.ref d)) (PC prog w lo σ s Q) E s) ∧ (Q (!r) σ → wpAny (model prog w) A (compareOp .NotIn u (.ref d)) (PC prog w lo σ s Q) E s) := by
  rw [← valueAt_has x] at e
  subst e
  exact ⟨fun q => wpAny_in_of ki hd D.mapOf (Post.same hr rfl q), fun q => wpAny_notIn_of ki hd D.mapOf (Post.same hr rfl q)⟩
theorem mem_list {vs : List Value} {g : Value → Bool} (hr : HRel prog w σ s.heap) (L : s.heap.IsList d vs.toArray) (he : ∀ y, y ∈ vs.toArray → SeqAt.EqAt A.in1 s y u (g y)) (e : vs.toArray.any g = r) :
    (Q r σ → wpAny (model prog w) A (compareOp .In u (.ref d)) (PC prog w lo σ s Q) E s) ∧ (Q (!r) σ → wpAny (model prog w) A (compareOp .NotIn u (.ref d)) (PC prog w lo σ s Q) E s) := by
  subst e
  exact ⟨fun q => SeqAt.in_listAt _ L he (Post.here hr rfl q), fun q => SeqAt.notIn_listAt _ L he (Post.here hr rfl q)⟩
theorem member_ok {a : AV} {o : AO} (hr : HRel prog w σ s.heap) (ho : σ d = some o) (hd : (d == sysModules) = false) (ha : VRel s.heap a u) (e : member a o = some r) :
    (Q r σ → wpAny (model prog w) A (compareOp .In u (.ref d)) (PC prog w lo σ s Q) E s) ∧ (Q (!r) σ → wpAny (model prog w) A (compareOp .NotIn u (.ref d)) (PC prog w lo σ s Q) E s) := by
  cases a with
  | int k =>
    obtain ⟨es, e1, e2⟩ := Option.map_eq_some_iff.mp (show (asI o).map (hasK · k) = some r from e)
    obtain ⟨kvs, D, x⟩ := asI_ok (hr _ _ ho) e1
    obtain ⟨t, rfl⟩ := ha
    exact mem_dict hr hd int_is D x e2
  | str x =>
    obtain ⟨t, rfl⟩ := ha
    have gen : (asS o).map (hasK · x) = some r → (Q r σ → wpAny (model prog w) A (compareOp .In (.str x t) (.ref d)) (PC prog w lo σ s Q) E s) ∧ (Q (!r) σ → wpAny (model prog w) A (compareOp .NotIn (.str x t) (.ref d)) (PC prog w lo σ s Q) E s) := fun e => by
      obtain ⟨es, e1, e2⟩ := Option.map_eq_some_iff.mp e
      obtain ⟨kvs, D, y⟩ := asS_ok (hr _ _ ho) e1
      exact mem_dict hr hd str_is D y e2
    cases o with
    | list xs =>
      obtain ⟨bs, e1, e2⟩ := Option.map_eq_some_iff.mp (show (strsOf xs).map (·.contains x) = some r from e)
      obtain ⟨vs, n, g, y⟩ := hr _ _ ho
      have z := strsOf_ok e1 y
      refine mem_list (g := fun y => match y with | .str c _ => c == x | _ => false) hr ⟨_, g, rfl, n, rfl⟩ (fun y hy => ?_) ((any_strs z).trans e2)
      obtain ⟨a, t', rfl⟩ := all2_mem z y (by simpa using hy)
      exact (eqGives_str a x t' t).at _ _
    | _ => exact gen e
  | bool b =>
    cases o with
    | list xs =>
      obtain ⟨bs, e1, e2⟩ := Option.map_eq_some_iff.mp (show (boolsOf xs).map (·.contains b) = some r from e)
      obtain ⟨vs, n, g, y⟩ := hr _ _ ho
      cases ha
      cases boolsOf_ok e1 y
      refine mem_list (g := fun y => match y with | .bool c => c == b | _ => false) hr ⟨_, g, rfl, n, rfl⟩ (fun y hy => ?_) ((any_bools b bs).trans e2)
      obtain ⟨c, _, rfl⟩ := List.mem_map.mp (show y ∈ bs.map Value.bool by simpa using hy)
      exact SeqAt.EqAt.bool_bool c b
    | _ => exact nS e
  | _ => exact nS e
end

theorem isNone_ok {v : AV} {u : Value} {r : Bool} {h : Heap} (ha : VRel h v u) (e : isNoneV v = some r) : (u == .none) = r := by
  cases v with
  | none => cases e; cases ha; rfl
  | bool _ => cases e; cases ha; rfl
  | int _ => cases e; obtain ⟨t, rfl⟩ := ha; rfl
  | str _ => cases e; obtain ⟨t, rfl⟩ := ha; rfl
  | tup _ => cases e; obtain ⟨a, vs, n, rfl, _⟩ := ha; rfl
  | rng _ _ _ => cases e; obtain ⟨a, t, x, y, rfl, _⟩ := ha; rfl
  | ref _ => cases e; cases ha; rfl
  | con _ => exact nS e

theorem all_range_beq {α : Type} [BEq α] [LawfulBEq α] : ∀ (a b : List α), a.length = b.length → (∀ d : α, (List.range a.length).all (fun j => a.getD j d == b.getD j d) = (a == b))
  | [], [], _, d => rfl
  | x :: a, y :: b, h, d => by
    have ih := all_range_beq a b (by simpa using h) d
    rw [List.length_cons, List.range_succ_eq_map, List.all_cons, List.all_map]
    simp only [List.getD_cons_zero]
    rw [show ((fun j => (x :: a).getD j d == (y :: b).getD j d) ∘ Nat.succ) = (fun j => a.getD j d == b.getD j d) from by funext j; simp, ih]
    rfl

theorem iEq {xs ys : List AV} {r : Bool} (e : eqLists xs ys = some r) : (∃ a b, boolsOf xs = some a ∧ boolsOf ys = some b ∧ (a == b) = r) ∨ ∃ a b, intsOf xs = some a ∧ intsOf ys = some b ∧ (a == b) = r := by
  unfold eqLists at e
  have g : (match intsOf xs, intsOf ys with | some a, some b => some (a == b) | _, _ => none) = some r → ∃ a b, intsOf xs = some a ∧ intsOf ys = some b ∧ (a == b) = r := fun e => by
    cases h1 : intsOf xs with
    | none => rw [h1] at e; exact nS e
    | some a => cases h2 : intsOf ys with
      | none => rw [h1, h2] at e; exact nS e
      | some b => rw [h1, h2] at e; exact ⟨a, b, rfl, rfl, Option.some.inj e⟩
  cases h1 : boolsOf xs with
  | none => rw [h1] at e; exact .inr (g e)
  | some a => cases h2 : boolsOf ys with
    | none => rw [h1, h2] at e; exact .inr (g e)
    | some b => rw [h1, h2] at e; exact .inl ⟨a, b, rfl, rfl, Option.some.inj e⟩
theorem neLists_ok {x y : Addr} {xs ys : List AV} {r : Bool} {Q : Bool → AH → Prop} (hr : HRel prog w σ s.heap) (hu : A.units < cLine) (hx : σ x = some (.list xs)) (hy : σ y = some (.list ys)) (e : eqLists xs ys = some r)
    (q : Q (!r) σ) : wpAny (model prog w) A (compareOp .NotEq (.ref x) (.ref y)) (PC prog w lo σ s Q) E s := by
  obtain ⟨vs, n, gx, rx⟩ := hr _ _ hx
  obtain ⟨us, m, gy, ry⟩ := hr _ _ hy
  have Lx : s.heap.IsList x vs.toArray := ⟨_, gx, rfl, n, rfl⟩
  have Ly : s.heap.IsList y us.toArray := ⟨_, gy, rfl, m, rfl⟩
  rcases iEq e with ⟨a, b, ea, eb, e⟩ | ⟨a, b, ea, eb, e⟩
  · cases e
    cases boolsOf_ok ea rx
    cases boolsOf_ok eb ry
    by_cases hl : a.length = b.length
    · refine PySem.EqBoolInt.of_rcne (SeqAt.RcNeAt.lists (e := fun j => a.getD j false == b.getD j false) Lx Ly (by simp [hl]) hu (fun j h1 h2 => ?_)) (Post.here hr rfl ?_)
      · simp only [List.size_toArray, List.length_map] at h1 h2
        simp only [List.getElem_toArray, List.getElem_map]
        rw [show a.getD j false = a[j] from by simp [h1], show b.getD j false = b[j] from by simp [h2]]
        exact SeqAt.EqAt.bool_bool _ _
      · rw [List.size_toArray, List.length_map, all_range_beq a b hl]; exact q
    · refine PySem.EqBoolInt.of_rcne (SeqAt.RcNeAt.lists_lengths Lx Ly (by simp [hl]) hu) (Post.here hr rfl ?_)
      rw [show (a == b) = false from by simp only [beq_eq_false_iff_ne]; rintro rfl; exact hl rfl] at q
      exact q
  · · cases e
      have ia := intsOf_ok ea rx
      have ib := intsOf_ok eb ry
      have la := IntsAre.length ia
      have lb := IntsAre.length ib
      by_cases hl : a.length = b.length
      · refine PySem.EqBoolInt.of_rcne (SeqAt.RcNeAt.lists (e := fun j => a.getD j 0 == b.getD j 0) Lx Ly (by simp; (first | lia | omega)) hu (fun j h1 h2 => ?_)) (Post.here hr rfl ?_)
        · simp only [List.size_toArray] at h1 h2
          obtain ⟨t, e1⟩ := ia.get j (a.getD j 0) (by simp [show j < a.length from by (first | lia | omega)])
          obtain ⟨t', e2⟩ := ib.get j (b.getD j 0) (by simp [show j < b.length from by (first | lia | omega)])
          simp only [List.getElem_toArray]
          rw [List.getElem?_eq_getElem h1] at e1
          rw [List.getElem?_eq_getElem h2] at e2
          rw [Option.some.inj e1, Option.some.inj e2]
          exact SeqAt.EqAt.int_int _ _ _ _
        · rw [List.size_toArray, show vs.length = a.length from by (first | lia | omega), all_range_beq a b hl]; exact q
      · refine PySem.EqBoolInt.of_rcne (SeqAt.RcNeAt.lists_lengths Lx Ly (by simp; (first | lia | omega)) hu) (Post.here hr rfl ?_)
        rw [show (a == b) = false from by simp only [beq_eq_false_iff_ne]; rintro rfl; exact hl rfl] at q
        exact q

theorem cmpEqI {f : Value → Value → Sem Value} {R : Value → Shared → Prop} {a b : AV} {u v : Value} {P : Bool → Prop} (ha : VRel s.heap a u) (hb : VRel s.heap b v) (h : cmpEq a b P)
    (ki : ∀ i j t t', P (i == j) → wpAny (model prog w) A (f (.int i t) (.int j t')) R E s) (ks : ∀ i j t t', P (i == j) → wpAny (model prog w) A (f (.str i t) (.str j t')) R E s) (kb : ∀ i j, P (i == j) → wpAny (model prog w) A (f (.bool i) (.bool j)) R E s) : wpAny (model prog w) A (f u v) R E s := by
  cases a with
  | int i => cases b with
    | int j => obtain ⟨t, rfl⟩ := ha; obtain ⟨t', rfl⟩ := hb; exact ki i j t t' h
    | _ => exact h.elim
  | str i => cases b with
    | str j => obtain ⟨t, rfl⟩ := ha; obtain ⟨t', rfl⟩ := hb; exact ks i j t t' h
    | _ => exact h.elim
  | bool i => cases b with
    | bool j => cases ha; cases hb; exact kb i j h
    | _ => exact h.elim
  | _ => exact h.elim
theorem iNo {b : AV} {P : Prop} (h : match b with | .none => P | _ => False) : b = .none ∧ P := by
  cases b with
  | none => exact ⟨rfl, h⟩
  | _ => exact h.elim
theorem cmp_ok {op : CmpOp} {a b : AV} {u v : Value} {Q : Bool → AH → Prop} (hr : HRel prog w σ s.heap) (hs : ∀ d, σ d ≠ none → (d == sysModules) = false) (hu : A.units < cLine) (ha : VRel s.heap a u) (hb : VRel s.heap b v) (h : wpCmp op a b σ Q) :
    wpAny (model prog w) A (compareOp op u v) (PC prog w lo σ s Q) E s := by
  cases op with
  | Eq => exact cmpEqI (P := fun r => Q r σ) ha hb h (fun i j t t' h => PyProof.Rows.eq_int (Post.here hr rfl h)) (fun i j t t' h => PyProof.Rows.eq_str (Post.here hr rfl h)) (fun i j h => PyProof.Rows.eq_bool (Post.here hr rfl h))
  | NotEq =>
    rcases iAdd h with ⟨x, y, rfl, rfl, h⟩ | h
    · refine iLL h fun xs ys h1 h2 h => ?_
      refine iSB h fun r q h => ?_
      cases ha; cases hb; exact neLists_ok hr hu h1 h2 q h
    · exact cmpEqI ha hb h (fun i j t t' h => PyProof.Rows.ne_int (Post.here hr rfl h)) (fun i j t t' h => PyProof.Rows.ne_str (Post.here hr rfl h)) (fun i j h => PyProof.Rows.ne_bool (Post.here hr rfl h))
  | Lt => exact binII ha hb h fun i j t t' h => PyProof.Rows.lt_int (Post.here hr rfl h)
  | LtE => exact binII ha hb h fun i j t t' h => PyProof.Rows.le_int (Post.here hr rfl h)
  | Gt => exact binII ha hb h fun i j t t' h => PyProof.Rows.gt_int (Post.here hr rfl h)
  | GtE => exact binII ha hb h fun i j t t' h => PyProof.Rows.ge_int (Post.here hr rfl h)
  | Is =>
    obtain ⟨rfl, h⟩ := iNo h
    refine iSB h fun r q h => ?_
    cases hb; exact is_none (Post.here hr (by rw [isNone_ok ha q]) h)
  | IsNot =>
    obtain ⟨rfl, h⟩ := iNo h
    refine iSB h fun r q h => ?_
    cases hb; exact isNot_none (Post.here hr (by rw [isNone_ok ha q]) h)
  | In =>
    refine iR h fun d e h => ?_
    subst e
    refine iSO h fun o ho h => ?_
    refine iSB h fun r er h => ?_
    cases hb; exact (member_ok hr ho (hs d (by rw [ho]; simp)) ha er).1 h
  | NotIn =>
    refine iR h fun d e h => ?_
    subst e
    refine iSO h fun o ho h => ?_
    refine iSB h fun r er h => ?_
    cases hb; exact (member_ok hr ho (hs d (by rw [ho]; simp)) ha er).2 h
end
end Mine.Internal


namespace Mine.Internal

/-! ### items -/
noncomputable def idxOf (xs : List AV) (k : Int) : Option AV :=
  if 0 ≤ k then xs[k.toNat]? else if 0 ≤ k + xs.length then xs[(k + xs.length).toNat]? else none

noncomputable def pairOf : List AV → Option (Int × Int)
  | [a, b] => (match a with | .int p => (match b with | .int q => some (p, q) | _ => none) | _ => none)
  | _ => none
theorem pairOf_eq {ps : List AV} {p : Int × Int} (h : pairOf ps = some p) : ps = [.int p.1, .int p.2] := by
  cases ps with
  | nil => exact nS h
  | cons a ps =>
  cases ps with
  | nil => exact nS h
  | cons b ps =>
  cases ps with
  | cons _ _ => exact nS h
  | nil =>
  cases a with
  | int x =>
    cases b with
    | int y => obtain rfl := Option.some.inj h; exact rfl
    | _ => exact nS h
  | _ => exact nS h
noncomputable def wpItem (o i : AV) (σ : AH) (Q : AV → AH → Prop) : Prop :=
  match o with
  | .tup xs => (match i with
    | .int k => 0 ≤ k ∧ k < 1000000000 ∧ (match xs[k.toNat]? with | some v => Q v σ | none => False)
    | _ => False)
  | .ref a => (match i with
    | .int k => (match σ a with
      | some (.list xs) => k.natAbs < 1000000000 ∧ (match idxOf xs k with | some v => Q v σ | none => False)
      | some o => (match asI o with
          | some es => (match lookK es k with | some v => Q v σ | none => False)
          | none => False)
      | none => False)
    | .str x => (match σ a with
      | some o => (match asS o with
          | some es => (match lookK es x with | some v => Q v σ | none => False)
          | none => False)
      | none => False)
    | _ => False)
  | _ => False

noncomputable def wpSet (o i v : AV) (σ : AH) (Q : AH → Prop) : Prop :=
  match o with
  | .ref a => (match i with
    | .int k => (match σ a with
      | some (.list xs) => 0 ≤ k ∧ k < 1000000000 ∧ k < xs.length ∧ Q (upd σ a (.list (xs.set k.toNat v)))
      | some o => (match asI o with
          | some es => es.length ≤ 1000000 ∧ Q (upd σ a (.dictI (putK es k v)))
          | none => False)
      | none => False)
    | .str x => (match σ a with
      | some o => (match asS o with
          | some es => es.length ≤ 1000000 ∧ Q (upd σ a (.dictS (putK es x v)))
          | none => False)
      | none => False)
    | .tup ps => (match pairOf ps with
      | some p => (match σ a with
        | some o => (match asP o with
          | some es => es.length ≤ 1000000 ∧ Q (upd σ a (.dictP (putK es p v)))
          | none => False)
        | none => False)
      | none => False)
    | _ => False)
  | _ => False

section
variable {prog : Program} {w : World} {lo : Nat} {σ : AH} {s : Shared} {A : Around} {E : Value → Shared → Prop}

theorem idx_ok {xs : List AV} {vs : List Value} {h : Heap} {k : Int} {v : AV} (r : All2 (VRel h) xs vs) (e : idxOf xs k = some v) :
    (0 ≤ k ∧ ∃ u, vs[k.toNat]? = some u ∧ VRel h v u) ∨ (k < 0 ∧ -(vs.length : Int) ≤ k ∧ ∃ u, vs[(k + vs.length).toNat]? = some u ∧ VRel h v u) := by
  unfold idxOf at e
  split at e
  · rename_i h0
    obtain ⟨u, e1, e2⟩ := r.getL e
    exact .inl ⟨h0, u, e1, e2⟩
  · split at e
    · rename_i h0 h1
      obtain ⟨u, e1, e2⟩ := r.getL e
      rw [r.length] at e1 h1
      exact .inr ⟨by (first | lia | omega), by (first | lia | omega), u, e1, e2⟩
    · cases e

theorem item_list {a : Addr} {k : Int} {t : Tok} {xs : List AV} {v : AV} {Q : Value → Shared → Prop} {vs : List Value} {n : Nat} (g : s.heap.get? a = some (listOf vs.toArray n)) (r : All2 (VRel s.heap) xs vs) (b : k.natAbs < 1000000000) (e : idxOf xs k = some v)
    (q : ∀ u, VRel s.heap v u → Q u s) : wpAny (model prog w) A (getItem (.ref a) (.int k t)) Q E s := by
  have L : s.heap.IsList a vs.toArray := ⟨_, g, rfl, n, rfl⟩
  rcases idx_ok r e with ⟨h0, u, e1, e2⟩ | ⟨h0, h1, u, e1, e2⟩
  · exact wpAny_getItem_list L h0 (by (first | lia | omega)) (by simpa using e1) (q u e2)
  · exact wpAny_getItem_list_neg L h0 (by simpa using h1) (by (first | lia | omega)) (by simpa using e1) (q u e2)

theorem item_ok {o i : AV} {u v : Value} {Q : AV → AH → Prop} (hr : HRel prog w σ s.heap) (ha : VRel s.heap o u) (hb : VRel s.heap i v) (h : wpItem o i σ Q) :
    wpAny (model prog w) A (getItem u v) (PV prog w lo σ s Q) E s ∧ ∃ T id, s.TypeIs u T ∧ typeLookup (.type T) "__getitem__" = pure (some (.builtin id)) := by
  cases o with
  | tup xs =>
    cases i with
    | int k =>
      obtain ⟨h0, h1, h2⟩ := h
      refine iSV h2 fun w' e h3 => ?_
      clear h2
      obtain ⟨a, vs, n, rfl, g, r⟩ := ha
      obtain ⟨t, rfl⟩ := hb
      obtain ⟨z, e1, e2⟩ := r.all2.getL e
      have T : IsTup s.heap a vs.toArray := ⟨_, g, rfl, n, rfl⟩
      have hlt : k.toNat < vs.length := (List.getElem?_eq_some_iff.mp e1).1
      exact ⟨PyProof.Rows.getItem_tuple T (by (first | lia | omega)) (by (first | lia | omega)) (seqIndex_of h0 (by simp; (first | lia | omega))) (by simpa using e1) (Post.here hr e2 h3), "tuple", _, ⟨_, g, rfl⟩, PyProof.Rows.slot_tuple_getitem.lookup⟩
    | _ => exact h.elim
  | ref a =>
    cases i with
    | int k =>
      cases ha
      obtain ⟨t, rfl⟩ := hb
      refine iLO h (fun xs ex h9 => ?_) fun o ex h => ?_
      · refine iSV h9.2 fun w' e h2 => ?_
        obtain ⟨vs, n, g, r⟩ := hr _ _ ex
        exact ⟨item_list g r h9.1 e fun u e2 => Post.here hr e2 h2, "list", _, ⟨_, g, rfl⟩, slot_list_getitem.lookup⟩
      · refine iSI h fun es ei h => ?_
        refine iSV h fun w' el h => ?_
        obtain ⟨kvs, D, x⟩ := asI_ok (hr _ _ ex) ei
        obtain ⟨u, e1, e2⟩ := (EK.look x k).1 _ el
        exact ⟨wpAny_getItem_of int_is D.mapOf e1 (Post.same hr e2 h), "dict", _, D.typeIs, slot_dict_getitem.lookup⟩
    | str x =>
      cases ha
      obtain ⟨t, rfl⟩ := hb
      refine iSO h fun o ex h => ?_
      refine iSS h fun es ei h => ?_
      refine iSV h fun w' el h => ?_
      obtain ⟨kvs, D, y⟩ := asS_ok (hr _ _ ex) ei
      obtain ⟨u, e1, e2⟩ := (EK.look y x).1 _ el
      exact ⟨wpAny_getItem_of str_is D.mapOf e1 (Post.same hr e2 h), "dict", _, D.typeIs, slot_dict_getitem.lookup⟩
    | _ => exact h.elim
  | _ => exact h.elim

theorem subscripted_any (slice : Expr) (o i : Value) : ∃ ops, subscripted slice false o i = operate ops (getItem o i) := by
  cases slice
  case Slice l u st p =>
    cases st
    · exact ⟨[i, o], rfl⟩
    · exact ⟨[o, i], rfl⟩
  all_goals exact ⟨[o, i], rfl⟩

theorem sub_ok {value slice : Expr} {o i : AV} {u v : Value} {Q : AV → AH → Prop} (hr : HRel prog w σ s.heap) (ha : VRel s.heap o u) (hb : VRel s.heap i v) (h : wpItem o i σ Q) :
    wpAny (model prog w) A (subscriptTail value slice u v) (PV prog w lo σ s Q) E s := by
  obtain ⟨g, T, id, hT, hl⟩ := item_ok (A := A) (E := E) (lo := lo) hr ha hb h
  obtain ⟨ops, e⟩ := subscripted_any slice u v
  exact tail_any hT hl g e

theorem setItem_list_raw {l : Addr} {items : Array Value} {n : Nat} {k : Int} {t : Tok} {v : Value} {Q : Unit → Shared → Prop} (g : s.heap.get? l = some (listOf items n))
    (h0 : 0 ≤ k) (hfit : k < 2 ^ 63) (hn : k < items.size)
    (hQ : Q () { s with heap := s.heap.update l (Obj.mapSeq (·.setIfInBounds k.toNat v)) }) :
    wpAny (model prog w) A (setItem (.ref l) (.int k t) v) Q E s := by
  have hl : s.heap.IsList l items := ⟨_, g, rfl, n, rfl⟩
  unfold setItem
  try with_reducible refine wpAny_holding ?_
  first | refine wpAny_bind (wpAny_pure ?_) | skip
  refine wpAny_bind (wpAny_sequenceKey hl.typeIs (by decide) ?_)
  refine wpAny_bind (wpAny_callSpecial?_slot (name := Str.ofString "__setitem__") hl.typeIs slot_list_setitem
    (wpAny_call_entry slot_list_setitem hl.typeIs entry_list_setitem ?_ (args_list_setitem _ _ _)))
  show wpAny _ _ (Builtin.List.listSubscript? (.int k t) >>= _) _ _ s
  refine wpAny_bind (wpAny_listSubscript_int (fitsIndex_of h0 hfit) ?_)
  clear hfit
  obtain ⟨j, rfl⟩ := Int.eq_ofNat_of_zero_le h0
  have hj : j < items.size := by (first | lia | omega)
  have hx' : items[j]? = some items[j] := Array.getElem?_eq_getElem hj
  show wpAny _ _ ((seqItemAt l j >>= fun r => pure (r.map (j, ·))) >>= _) _ _ s
  refine wpAny_bind (wpAny_bind (wpAny_seqItemAt g rfl (wpAny_pure ?_)))
  rw [hx']
  show wpAny _ _ (setSeqItemAt l j v >>= _) _ _ s
  refine wpAny_bind (wpAny_setSeqItemAt g rfl ?_)
  first
    | exact wpAny_bind (wpAny_letGo (wpAny_pure ⟨.none, rfl, wpAny_pure hQ⟩))
    | exact wpAny_pure ⟨.none, rfl, wpAny_pure hQ⟩
    | exact wpAny_bind (wpAny_pure ⟨.none, rfl, wpAny_pure hQ⟩)

theorem PU.set {a : Addr} {ao : AO} {h' : Heap} {tk : Nat} {Q : AH → Prop} (hr : HRel prog w σ s.heap) (hs : Heap.SameBut a s.heap h') (q : σ a ≠ none) (n : ORel prog w h' a ao) (hq : Q (upd σ a ao)) :
    PU prog w lo σ s Q () { s with heap := h', toks := tk } :=
  ⟨h', tk, upd σ a ao, (), rfl, Step.set hs q (by obtain ⟨ob, e, _⟩ := n.has; rw [e]; simp), hr.set hs q n, trivial, hq⟩
theorem PV.set {a : Addr} {ao : AO} {h' : Heap} {tk : Nat} {Q : AV → AH → Prop} {v : Value} {x : AV} (hr : HRel prog w σ s.heap) (hs : Heap.SameBut a s.heap h') (q : σ a ≠ none) (n : ORel prog w h' a ao) (r : VRel h' x v) (hq : Q x (upd σ a ao)) :
    PV prog w lo σ s Q v { s with heap := h', toks := tk } :=
  ⟨h', tk, upd σ a ao, x, rfl, Step.set hs q (by obtain ⟨ob, e, _⟩ := n.has; rw [e]; simp), hr.set hs q n, r, hq⟩

theorem imm_of_set {a : Addr} {h' : Heap} (hr : HRel prog w σ s.heap) (q : σ a ≠ none) (hs : Heap.SameBut a s.heap h') : Imm s.heap h' := fun b o e i => by
  refine (hs.2 b ?_).trans e
  rintro rfl
  cases z : σ b with
  | none => exact q z
  | some o' => obtain ⟨ob, e', x, _⟩ := (hr b o' z).has; rw [e] at e'; cases e'; exact x i

/-- the entries of a table by pairs -/
theorem pk (p q p' q' : Int) : ((p', q') = (p, q)) ↔ ([p', q'] = [p, q]) := ⟨fun e => by cases e; rfl, fun e => by cases e; rfl⟩
theorem EP.key {h : Heap} {es : List ((Int × Int) × AV)} {xs : List (List Int × Addr × Value)} (r : All2 (EP h) es xs) (p q : Int) :
    (∀ a, lookK es (p, q) = some a → ∃ b v, atKey xs [p, q] = some (b, v) ∧ VRel h a v) ∧ (lookK es (p, q) = none → atKey xs [p, q] = none) := by
  induction r with
  | nil => exact ⟨fun a e => (nomatch e), fun _ => rfl⟩
  | @cons e x es xs y _ ih =>
    obtain ⟨⟨p', q'⟩, a⟩ := e
    obtain ⟨k, b, v⟩ := x
    obtain ⟨e1, rv⟩ := y
    cases e1
    have e2 : atKey (([p', q'], b, v) :: xs) [p, q] = if [p', q'] = [p, q] then some (b, v) else atKey xs [p, q] := by
      unfold atKey
      rw [List.find?_cons]
      by_cases z : [p', q'] = [p, q]
      · rw [if_pos z, decide_eq_true z]; rfl
      · rw [if_neg z, decide_eq_false z]
    rw [look_cons, e2]
    by_cases z : (p', q') = (p, q)
    · rw [if_pos z, if_pos ((pk ..).mp z)]; exact ⟨fun a e => ⟨b, v, rfl, Option.some.inj e ▸ rv⟩, fun e => (nomatch e)⟩
    · rw [if_neg z, if_neg fun e => z ((pk ..).mpr e)]; exact ih
theorem look_any {K : Type} [DecidableEq K] (k : K) (es : List (K × AV)) : es.any (fun p => decide (p.1 = k)) = (lookK es k).isSome := by
  induction es with
  | nil => rfl
  | cons p r ih =>
    rw [look_cons, List.any_cons, ih]
    by_cases z : p.1 = k
    · rw [if_pos z, decide_eq_true z]; rfl
    · rw [if_neg z, decide_eq_false z]; rfl
theorem EP.put {h : Heap} {es : List ((Int × Int) × AV)} {xs : List (List Int × Addr × Value)} (r : All2 (EP h) es xs) (p q : Int) (b : Addr) {a : AV} {v : Value} (rv : VRel h a v) :
    All2 (EP h) (putK es (p, q) a) (storedH xs [p, q] b v) := by
  have e1 : es.any (fun x => decide (x.1 = (p, q))) = (atKey xs [p, q]).isSome := by
    have t := EP.key r p q
    rw [look_any]
    cases z : lookK es (p, q) with
    | none => rw [t.2 z]; rfl
    | some y => obtain ⟨b', v', e, _⟩ := t.1 _ z; rw [e]; rfl
  have e2 : All2 (EP h) (es.map fun x => if x.1 = (p, q) then (x.1, a) else x) (xs.map (putAt [p, q] v)) := by
    clear e1
    induction r with
    | nil => exact .nil
    | @cons e x es xs y _ ih =>
      simp only [List.map_cons]
      refine .cons ?_ ih
      obtain ⟨⟨p', q'⟩, a'⟩ := e
      obtain ⟨k, b', v'⟩ := x
      obtain ⟨e3, rv'⟩ := y
      dsimp only at e3 rv' ⊢
      subst e3
      unfold putAt
      dsimp only
      by_cases z : (p', q') = (p, q)
      · rw [if_pos z, if_pos ((pk ..).mp z)]; exact ⟨rfl, rv⟩
      · rw [if_neg z, if_neg fun e => z ((pk ..).mpr e)]; exact ⟨rfl, rv'⟩
  unfold putK storedH
  rw [e1]
  by_cases z : (atKey xs [p, q]).isSome = true
  · rw [if_pos z, if_pos z]; exact e2
  · rw [if_neg z, if_neg z]; exact r.append (.cons ⟨rfl, rv⟩ .nil)
theorem All2.sameLen {α β : Type} {R : α → β → Prop} {as : List α} {bs : List β} (h : All2 R as bs) {n : Nat} (e : as.length ≤ n) : bs.length ≤ n := by rw [← h.length]; exact e

theorem pairKey {h : Heap} {p q : Int} {a : Addr} {vs : List Value} {n : Nat} (g : h.get? a = some (tupObj vs n)) (r : VRels h [.int p, .int q] vs) : IsTupleKey (intKind prog w) h [p, q] a := by
  obtain ⟨v1, r1, rfl, ⟨t, rfl⟩, v2, r2, rfl, ⟨t', rfl⟩, rfl⟩ := r
  exact ⟨_, _, _, g, rfl, rfl, .cons int_is (.cons int_is .nil)⟩

theorem set_pairs {K : Type} [DecidableEq K] {knd : PySem.KeyKind prog w K} {a : Addr} {o o' : AO} {kvs : List (K × Value)} {es : List (K × AV)} {k : K} {key y : Value} {x : AV} {Q : AH → Prop} (hr : HRel prog w σ s.heap) (ex : σ a = some o) (ki : knd.is k key = true)
    (D : s.heap.DictOf knd a kvs) (z : All2 (EK s.heap) es kvs) (hl : es.length ≤ 1000000) (hx : VRel s.heap x y) (mk : ∀ h', (∃ kvs', h'.DictOf knd a kvs' ∧ All2 (EK h') (putK es k x) kvs') → ORel prog w h' a o') (q : Q (upd σ a o')) :
    wpAny (model prog w) A (setItem (.ref a) key y) (PU prog w lo σ s Q) E s := by
  have ne : σ a ≠ none := by rw [ex]; simp
  refine wpAny_setItem_pairs (hsz := by rw [sizeLine_eq]; have := z.sameLen hl; (first | lia | omega)) ki D fun h' D' hs => PU.set hr hs ne (mk _ ⟨_, D', ?_⟩) q
  have k' := imm_of_set (s := s) hr ne hs
  exact EK.put (z.mono fun _ _ q => q.mono k') k (hx.mono k')
theorem set_ok {o i x : AV} {u v y : Value} {Q : AH → Prop} (hr : HRel prog w σ s.heap) (hu : A.units + 1 < cLine) (ha : VRel s.heap o u) (hb : VRel s.heap i v) (hx : VRel s.heap x y) (h : wpSet o i x σ Q) :
    wpAny (model prog w) A (setItem u v y) (PU prog w lo σ s Q) E s := by
  cases o with
  | ref a =>
    cases i with
    | int k =>
      cases ha
      obtain ⟨t, rfl⟩ := hb
      refine iLO h (fun xs ex h9 => ?_) fun o ex h => ?_
      · clear h
        obtain ⟨h0, h1, h2, h3⟩ := h9
        obtain ⟨vs, n, g, r⟩ := hr _ _ ex
        have hl := r.length
        refine setItem_list_raw g h0 (by (first | lia | omega)) (by simp; (first | lia | omega)) (PU.set hr (Heap.SameBut.update ..) (by rw [ex]; simp) ?_ h3)
        have e : (Obj.mapSeq (·.setIfInBounds k.toNat y)) (listOf vs.toArray n) = listOf (vs.set k.toNat y).toArray n := by
          simp [Obj.mapSeq]
        have k' := imm_of_set (s := s) (h' := s.heap.update a (Obj.mapSeq (·.setIfInBounds k.toNat y))) hr (by rw [ex]; simp) (Heap.SameBut.update ..)
        exact ⟨vs.set k.toNat y, n, by rw [← e]; exact Heap.get?_update_self _ g (by rw [e]; rfl), (r.mono fun _ _ z => z.mono k').set (hx.mono k') _⟩
      · refine iSI h fun es ei h => ?_
        obtain ⟨kvs, D, z⟩ := asI_ok (hr _ _ ex) ei
        exact set_pairs (o' := .dictI (putK es k x)) hr ex int_is D z h.1 hx (fun _ r => r) h.2
    | str k =>
      cases ha
      obtain ⟨t, rfl⟩ := hb
      refine iSO h fun o ex h => ?_
      refine iSS h fun es ei h => ?_
      obtain ⟨kvs, D, z⟩ := asS_ok (hr _ _ ex) ei
      exact set_pairs (o' := .dictS (putK es k x)) hr ex str_is D z h.1 hx (fun _ r => r) h.2
    | tup ps =>
      refine iSQ h fun pq ep h => ?_
      cases pairOf_eq ep
      cases ha
      refine iSO h fun o ex h => ?_
      refine iSP h fun es ei h => ?_
      obtain ⟨b, vs, n, rfl, g, r⟩ := hb
      obtain ⟨xs, D, z⟩ := asP_ok (hr _ _ ex) ei
      refine wpAny_setItem_heap (hsz := by rw [sizeLine_eq]; have := z.sameLen h.1; (first | lia | omega)) (knd := tupleKind (intKind prog w)) (tupleKind_room_in1 hu) (pairKey g r) D fun h' D' hs => PU.set hr hs (by rw [ex]; simp) ?_ h.2
      have k' := imm_of_set (s := s) hr (by rw [ex]; simp) hs
      exact ⟨_, D', EP.put (z.mono fun _ _ q => q.mono k') pq.1 pq.2 b (hx.mono k')⟩
    | _ => exact h.elim
  | _ => exact h.elim

/-! ### truth -/
noncomputable def truthV (v : AV) (σ : AH) : Option Bool :=
  match v with
  | .bool b => some b
  | .ref a => (match σ a with | some (.list xs) => if xs.length ≤ 1000000 then some (!xs.isEmpty) else none | _ => none)
  | _ => none
theorem truth_l {o : Option AO} {b : Bool} (e : (match o with | some (.list xs) => if xs.length ≤ 1000000 then some (!xs.isEmpty) else none | _ => none) = some b) : ∃ xs, o = some (.list xs) ∧ xs.length ≤ 1000000 ∧ (!xs.isEmpty) = b := by
  cases o with
  | none => exact nS e
  | some o => cases o with
    | list xs =>
      have e : (if xs.length ≤ 1000000 then some (!xs.isEmpty) else none) = some b := e
      by_cases z : xs.length ≤ 1000000
      · rw [if_pos z] at e; exact ⟨xs, rfl, z, Option.some.inj e⟩
      · rw [if_neg z] at e; exact nS e
    | _ => exact nS e
theorem truth_ok {v : AV} {u : Value} {b : Bool} {Q : Bool → AH → Prop} (hr : HRel prog w σ s.heap) (ha : VRel s.heap v u) (e : truthV v σ = some b) (q : Q b σ) :
    wpAny (model prog w) A (truthy u) (PB prog w lo σ s Q) E s := by
  cases v with
  | bool b => cases e; cases ha; exact wpAny_truthy_bool (Post.here hr rfl q)
  | ref a =>
    obtain ⟨xs, ex, hl, e⟩ := truth_l e
    cases ha
    cases e
    obtain ⟨vs, n, g, r⟩ := hr _ _ ex
    have hl' := r.length
    refine wpAny_truthy_list ⟨_, g, rfl, n, rfl⟩ (by simp; (first | lia | omega)) (Post.same hr ?_ q)
    cases r <;> rfl
  | _ => exact nS e
end
end Mine.Internal


namespace Mine.Internal

/-! ### built-in functions and types -/
set_option genInjectivity true in
inductive Bi where
  | len | abs | sum | min | max | sorted | range | list | tuple
  deriving DecidableEq
noncomputable def Bi.val : Bi → Value
  | .len => .builtin "len"
  | .abs => .builtin "abs"
  | .sum => .builtin "sum"
  | .min => .builtin "min"
  | .max => .builtin "max"
  | .sorted => .builtin "sorted"
  | .range => .type "range"
  | .list => .type "list"
  | .tuple => .type "tuple"

noncomputable def wpLen (args : List AV) (σ : AH) (Q : AV → AH → Prop) : Prop :=
  match args with
  | [.ref a] => (match σ a with | some (.list xs) => xs.length ≤ 1000000 ∧ Q (.int xs.length) σ | _ => False)
  | [.tup xs] => xs.length ≤ 1000000 ∧ Q (.int xs.length) σ
  | _ => False
noncomputable def wpAbs (args : List AV) (σ : AH) (Q : AV → AH → Prop) : Prop :=
  match args with
  | [.int i] => Q (.int (if i < 0 then -i else i)) σ
  | _ => False
noncomputable def listInts (σ : AH) (v : AV) : Option (List Int) :=
  match v with
  | .ref a => (match σ a with | some (.list xs) => intsOf xs | _ => none)
  | _ => none
noncomputable def wpSum (args : List AV) (σ : AH) (Q : AV → AH → Prop) : Prop :=
  match args with
  | [v] => (match listInts σ v with
      | some ns => ns.length ≤ 1000 ∧ (∀ n ∈ ns, 0 ≤ n ∧ n ≤ 1000) ∧ Q (.int ns.sum) σ
      | none => False)
  | _ => False
noncomputable def wpMin (args : List AV) (σ : AH) (Q : AV → AH → Prop) : Prop :=
  match args with
  | [v] => (match listInts σ v with
      | some ns => 0 < ns.length ∧ ∀ m, m ∈ ns → (∀ x ∈ ns, m ≤ x) → Q (.int m) σ
      | none => False)
  | _ => False
noncomputable def wpMax (args : List AV) (σ : AH) (Q : AV → AH → Prop) : Prop :=
  match args with
  | [v] => (match listInts σ v with
      | some ns => 0 < ns.length ∧ ∀ m, m ∈ ns → (∀ x ∈ ns, x ≤ m) → Q (.int m) σ
      | none => False)
  | _ => False
noncomputable def wpSorted (args : List AV) (σ : AH) (Q : AV → AH → Prop) : Prop :=
  match args with
  | [.ref a] => (match σ a with
      | some (.list xs) => (match intsOf xs with
          | some ns => ns.length < 64 ∧ ∀ ns' : List Int, ns'.Perm ns → ns'.Pairwise (· ≤ ·) → ∀ c, σ c = none → Q (.ref c) (upd σ c (.list (ns'.map .int)))
          | none => False)
      | some o => (match asI o with
          | some es => es.length < 64 ∧ ∀ ns' : List Int, ns'.Perm (es.map (·.1)) → ns'.Pairwise (· ≤ ·) → ∀ c, σ c = none → Q (.ref c) (upd σ c (.list (ns'.map .int)))
          | none => False)
      | none => False)
  | _ => False
noncomputable def rangeP (ns : List Int) (σ : AH) (Q : AV → AH → Prop) : Prop :=
  match ns with
  | [] => False
  | a :: r => (match r with
    | [] => Q (.rng 0 a 1) σ
    | b :: r => (match r with
      | [] => Q (.rng a b 1) σ
      | c :: r => (match r with
        | [] => c ≠ 0 ∧ c.natAbs < 1000000000 ∧ Q (.rng a b c) σ
        | _ => False)))
noncomputable def wpRange (args : List AV) (σ : AH) (Q : AV → AH → Prop) : Prop :=
  match intsOf args with
  | some ns => rangeP ns σ Q
  | none => False
noncomputable def wpList (args : List AV) (σ : AH) (Q : AV → AH → Prop) : Prop :=
  match args with
  | [.ref a] => (match σ a with
      | some (.list xs) => xs.length ≤ 1000000 ∧ ∀ c, σ c = none → Q (.ref c) (upd σ c (.list xs))
      | some .dict0 => ∀ c, σ c = none → Q (.ref c) (upd σ c (.list []))
      | _ => False)
  | [.tup xs] => xs.length ≤ 1000000 ∧ ∀ c, σ c = none → Q (.ref c) (upd σ c (.list xs))
  | _ => False
noncomputable def wpTuple (args : List AV) (σ : AH) (Q : AV → AH → Prop) : Prop :=
  match args with
  | [.ref a] => (match σ a with
      | some (.list xs) => xs.length ≤ 1000000 ∧ Q (.tup xs) σ
      | _ => False)
  | [.tup xs] => Q (.tup xs) σ
  | _ => False
noncomputable def wpBi (f : Bi) (args : List AV) (σ : AH) (Q : AV → AH → Prop) : Prop :=
  match f with
  | .len => wpLen args σ Q
  | .abs => wpAbs args σ Q
  | .sum => wpSum args σ Q
  | .min => wpMin args σ Q
  | .max => wpMax args σ Q
  | .sorted => wpSorted args σ Q
  | .range => wpRange args σ Q
  | .list => wpList args σ Q
  | .tuple => wpTuple args σ Q

theorem intsList {vs : List Value} {ns : List Int} {h : Heap} (i : IntsAre vs ns) : All2 (VRel h) (ns.map AV.int) vs := by
  induction i with
  | nil => exact .nil
  | cons n t _ ih => exact .cons ⟨t, rfl⟩ ih
theorem keyInts {K : Type} {h : Heap} {es : List (K × AV)} {kvs : List (K × Value)} (r : All2 (EK h) es kvs) : kvs.map (·.1) = es.map (·.1) := by
  induction r with
  | nil => rfl
  | cons x _ ih => rw [List.map_cons, List.map_cons, ih, x.1]

section
variable {prog : Program} {w : World} {lo : Nat} {σ : AH} {s : Shared} {A : Around} {E : Value → Shared → Prop}

set_option backward.match.sparseCases true in
/-- the items of a dict, collected -/
theorem collect_dict {d : Addr} {kvs : List (Int × Value)} {ep : Nat} {Q : List Value → Shared → Prop} (hh : A.handled = none) (lo : (d == sysModules) = false) (hm : s.heap.DictAt (intKind prog w) d kvs ep) (hn : kvs.length ≤ sizeLine)
    (h : ∀ vs h' tk, (∀ b o, s.heap.get? b = some o → h'.get? b = some o) → s.heap.objs.size < h'.objs.size → IntsAre vs (kvs.map (·.1)) → Q vs { s with heap := h', toks := tk }) :
    wpAny (model prog w) A (collect (.ref d)) Q E s := by
  have K := kdl_dict (knd := intKind prog w) (kvs := kvs) (ep := ep) lo
  unfold collect
  refine wpAny_bind (wpAny_runValue (codeAny_builtin entry_proto_collect' ?_))
  show wpAny _ _ (do again (.builtin "list.__iadd__" ⟨[← newList [], .ref d], []⟩)) _ _ s
  refine wpAny_bind (wpAny_newList (wpAny_pure ⟨Code.quiet_builtin _ (by decide +kernel), codeAny_builtin entry_list_iadd' ?_⟩))
  show wpAny _ _ (Builtin.List.listExtendWith (.ref s.heap.objs.size) (.ref d) (.ref s.heap.objs.size)) _ _ { s with heap := s.heap.push (seqObj "list" #[] 0) }
  have hlt := hm.lt_size
  rw [Around.under_plainId (by decide +kernel)]
  refine kdl_extend (R := fun r s' => match r with
      | .ok (.ret v) => wpAny (model prog w) A (match v with
          | .ref a => do
            let o ← load a
            match o.data with
            | .seq xs _ => pure xs.toList
            | _ => unsupported "internal:collect"
          | _ => unsupported "internal:collect") Q E s'
      | .ok _ => False
      | .error e => E e s') (s := { s with heap := s.heap.push (seqObj "list" #[] 0) }) (A := A) K hh (hm.push _) s.heap.objs.size (Nat.ne_of_gt hlt) (Nat.ne_of_gt hlt) _ 0 (Heap.get?_push_size _ rfl) (fun h' tk acc' c' hk hS hacc => ?_) hn
  show wpAny (model prog w) A (do
      let o ← load s.heap.objs.size
      match o.data with
      | .seq xs _ => pure xs.toList
      | _ => unsupported "internal:collect") Q E { s with heap := h', toks := tk }
  refine wpAny_bind (wpAny_load hS ?_)
  refine wpAny_pure (h _ h' tk (fun b o e => hk b o (Nat.ne_of_lt (Heap.lt_size e)) (Heap.get?_push_of_some _ e)) (Heap.lt_size hS) ?_)
  obtain ⟨e1, e2⟩ := hacc
  have key : ∀ (vs : List Value) (kvs : List (Int × Value)), vs.length = kvs.length → (∀ (j : Nat) (v : Value), vs[j]? = some v → ∃ k x, kvs[j]? = some (k, x) ∧ (intKind prog w).is k v = true) → IntsAre vs (kvs.map (·.1)) := by
    intro vs
    induction vs with
    | nil => intro kvs e _; cases kvs with | nil => exact .nil | cons _ _ => simp at e
    | cons v vs ih =>
      intro kvs e f
      cases kvs with
      | nil => simp at e
      | cons p kvs =>
        obtain ⟨k, x, e3, e4⟩ := f 0 v rfl
        simp at e3; subst e3
        obtain ⟨t, rfl⟩ := Value.isInt_shape e4
        exact .cons _ _ (ih kvs (by simpa using e) fun j u hj => by simpa using f (j + 1) u (by simpa using hj))
  refine key acc'.toList kvs (by rw [Array.length_toList]; exact e1) ?_
  intro j v e
  exact e2 j v (by rw [← Array.getElem?_toList]; exact e)

theorem sorted_dict {d : Addr} {kvs : List (Int × Value)} {ep : Nat} {Q : Value → Shared → Prop} (hh : A.handled = none) (lo : (d == sysModules) = false) (hm : s.heap.DictAt (intKind prog w) d kvs ep) (h64 : kvs.length < 64)
    (h : ∀ (vs : List Value) (ns' : List Int) (h' : Heap) (tk n a : Nat), (∀ b o, s.heap.get? b = some o → h'.get? b = some o) → s.heap.objs.size ≤ a → h'.get? a = some (listOf vs.toArray n) → IntsAre vs ns' → ns'.Perm (kvs.map (·.1)) → ns'.Pairwise (· ≤ ·) →
      Q (.ref a) { s with heap := h', toks := tk }) :
    wpAny (model prog w) A (call (.builtin "sorted") [.ref d]) Q E s := by
  refine Calls.call_function_entry kind_sorted plain_sorted entry_sorted (args_sorted1 _) ?_
  unfold Builtin.«sorted»
  refine wpAny_bind (m := checkCount "sorted" 1 1 _) (wpAny_pure ?_)
  refine wpAny_bind (collect_dict hh lo hm (by rw [sizeLine_eq]; (first | lia | omega)) fun vs h₁ tk₁ k₁ hsz hI => ?_)
  have hlen := IntsAre.length hI
  rw [List.length_map] at hlen
  refine wpAny_bind (wpAny_newList ?_ (hsz := by rw [sizeLine_eq]; (first | lia | omega)))
  have hoL : (h₁.push (seqObj "list" vs.toArray 0)).get? h₁.objs.size = some (seqObj "list" vs.toArray 0) := Heap.get?_push_size _ rfl
  refine wpAny_bind (wpAny_holding (wpAny_call_entry slot_list_sort ⟨_, hoL, rfl⟩ entry_list_sort (list_sort_tree (s := { s with heap := h₁.push (seqObj "list" vs.toArray 0), toks := tk₁ }) hoL hI (by (first | lia | omega)) fun out ns' a1 a2 a3 => ⟨_, rfl, ?_⟩) (args_list_sort _)))
  obtain ⟨e, he⟩ := sortedHeap_at (out := out) hoL
  refine wpAny_pure ⟨_, rfl, h out.toList ns' _ _ e _ (fun b o x => ?_) (Nat.le_of_lt hsz) (by rw [Array.toArray_toList]; exact he) a1 a2 a3⟩
  have y := k₁ b o x
  have hb := Heap.lt_size y
  rw [sortedHeap_old (Nat.ne_of_lt hb) (by rw [size_push']; exact Nat.lt_succ_of_lt hb)]
  exact Heap.get?_push_of_some _ y

theorem pre_of_ints {l : Addr} {vs : List Value} {ns : List Int} (hl : s.heap.IsList l vs.toArray) (hi : IntsAre vs ns) : ∃ xs : Array (Int × Tok), vs.toArray = intItems xs ∧ ns = xs.toList.map (·.1) := by
  obtain ⟨xs, e⟩ := hi.allInts.items
  exact ⟨xs, e, by rw [← hi.numsOf, ← nums_intItems, ← e]⟩

theorem All2.one {α β : Type} {R : α → β → Prop} {a : α} {bs : List β} (h : All2 R [a] bs) : ∃ b, bs = [b] ∧ R a b := by
  cases h with | cons x y => cases y; exact ⟨_, rfl, x⟩
theorem tupIs {h : Heap} {a : Addr} {vs : List Value} {n : Nat} (g : h.get? a = some (tupObj vs n)) : IsTup h a vs.toArray := ⟨_, g, rfl, n, rfl⟩
theorem listIs {h : Heap} {a : Addr} {vs : List Value} {n : Nat} (g : h.get? a = some (listOf vs.toArray n)) : h.IsList a vs.toArray := ⟨_, g, rfl, n, rfl⟩
theorem immOld {h h' : Heap} (k : ∀ b o, h.get? b = some o → h'.get? b = some o) : Imm h h' := fun b o e _ => k b o e

variable {Q : AV → AH → Prop} {args : List AV} {vs : List Value}
section
variable {G : Prop}
theorem iArg {P : Addr → Prop} {R : List AV → Prop} (h : match args with | [.ref a] => P a | [.tup xs] => R xs | _ => False) (k : ∀ a, args = [.ref a] → P a → G) (r' : ∀ xs, args = [.tup xs] → R xs → G) : G := by
  cases args with
  | nil => exact h.elim
  | cons v r =>
  cases r with
  | cons _ _ => cases v <;> exact h.elim
  | nil => cases v with
    | ref a => exact k a rfl h
    | tup xs => exact r' xs rfl h
    | _ => exact h.elim
theorem iInt {P : Int → Prop} (h : match args with | [.int i] => P i | _ => False) (k : ∀ i, args = [.int i] → P i → G) : G := by
  cases args with
  | nil => exact h.elim
  | cons v r =>
  cases r with
  | cons _ _ => cases v <;> exact h.elim
  | nil => cases v with
    | int i => exact k i rfl h
    | _ => exact h.elim
theorem iRef {P : Addr → Prop} (h : match args with | [.ref a] => P a | _ => False) (k : ∀ a, args = [.ref a] → P a → G) : G := by
  cases args with
  | nil => exact h.elim
  | cons v r =>
  cases r with
  | cons _ _ => cases v <;> exact h.elim
  | nil => cases v with
    | ref a => exact k a rfl h
    | _ => exact h.elim
end
theorem len_ok (hr : HRel prog w σ s.heap) (ha : All2 (VRel s.heap) args vs) (h : wpLen args σ Q) : wpAny (model prog w) A (call (.builtin "len") vs) (PV prog w lo σ s Q) E s := by
  refine iArg h (fun a e h9 => ?_) fun xs e h9 => ?_
  · subst e
    clear h
    obtain ⟨v, rfl, x⟩ := ha.one
    cases x
    refine iL h9 fun xs ex h => ?_
    clear h9
    obtain ⟨us, n, g, y⟩ := hr _ _ ex
    have l := y.length
    exact Calls.call_len_list (listIs g) (by simp; (first | lia | omega)) (Post.same (a := AV.int _) hr ⟨s.toks + 1, by simp [l]⟩ h.2)
  · subst e
    clear h
    obtain ⟨v, rfl, a, us, n, rfl, g, y⟩ := ha.one
    have l := y.all2.length
    exact PyProof.Rows.len_tuple (tupIs g) (by simp; (first | lia | omega)) (Post.same (a := AV.int _) hr ⟨s.toks + 1, by simp [l]⟩ h9.2)
theorem abs_ok (hr : HRel prog w σ s.heap) (ha : All2 (VRel s.heap) args vs) (h : wpAbs args σ Q) : wpAny (model prog w) A (call (.builtin "abs") vs) (PV prog w lo σ s Q) E s := by
  refine iInt h fun i e h => ?_
  subst e
  obtain ⟨v, rfl, t, rfl⟩ := ha.one
  exact call_abs_int fun u tk => Post.same hr vint h
theorem listInts_ok {v : AV} {ns : List Int} {u : Value} (hr : HRel prog w σ s.heap) (hv : VRel s.heap v u) (e : listInts σ v = some ns) : ∃ a xs us n, v = .ref a ∧ u = .ref a ∧ σ a = some (.list xs) ∧ s.heap.get? a = some (listOf us.toArray n) ∧ IntsAre us ns := by
  cases v with
  | ref a =>
    cases hv
    have e : (match σ a with | some (.list xs) => intsOf xs | _ => none) = some ns := e
    cases ex : σ a with
    | none => rw [ex] at e; exact nS e
    | some o => cases o with
      | list xs =>
        rw [ex] at e
        obtain ⟨us, n, g, y⟩ := hr _ _ ex
        exact ⟨_, _, us, n, rfl, rfl, ex, g, intsOf_ok e y⟩
      | _ => rw [ex] at e; exact nS e
  | _ => exact nS e
theorem sum_le {ns : List Int} : (∀ n ∈ ns, 0 ≤ n ∧ n ≤ 1000) → 0 ≤ ns.sum ∧ ns.sum ≤ 1000 * ns.length := by
  induction ns with
  | nil => intro _; simp
  | cons x r ih =>
    intro f
    have a := f x (List.mem_cons_self ..)
    have b := ih fun n hn => f n (List.mem_cons_of_mem _ hn)
    rw [List.sum_cons, List.length_cons]
    (first | lia | omega)
theorem sum_ok (hr : HRel prog w σ s.heap) (hh : A.handled = none) (ha : All2 (VRel s.heap) args vs) (h : wpSum args σ Q) : wpAny (model prog w) A (call (.builtin "sum") vs) (PV prog w lo σ s Q) E s := by
  refine i1 h fun v e h9 => ?_
  subst e
  clear h
  · obtain ⟨v, rfl, x⟩ := ha.one
    refine iSN h9 fun ns ei h => ?_
    clear h9
    · skip
      obtain ⟨a, xs, us, n, rfl, rfl, ex, g, hi⟩ := listInts_ok hr x ei
      obtain ⟨h1, h2, h3⟩ := h
      obtain ⟨zs, e1, e2⟩ := pre_of_ints (listIs g) hi
      have hl := listIs g
      rw [e1] at hl
      have hlen : zs.size = ns.length := by rw [e2]; simp
      refine sum_intList hh hl (fun j hj => ?_) fun h' tk t' k => ?_
      · rw [numAt_eq, preSum_eq, ← e2]
        have m : ns.getD j 0 ∈ ns := by
          rw [List.getD_eq_getElem?_getD, List.getElem?_eq_getElem (by (first | lia | omega)), Option.getD_some]; exact List.getElem_mem _
        have m1 := h2 _ m
        have m2 := sum_le (ns := ns.take (j + 1)) fun n hn => h2 n (List.mem_of_mem_take hn)
        have m3 : (ns.take (j + 1)).length ≤ 1000 := by rw [List.length_take]; (first | lia | omega)
        unfold InLong
        constructor <;> constructor <;> (first | lia | omega)
      · rw [preSum_eq, ← e2, List.take_of_length_le (by (first | lia | omega))]
        exact Post.grown hr k vint h3
theorem min_ok (hr : HRel prog w σ s.heap) (hh : A.handled = none) (ha : All2 (VRel s.heap) args vs) (h : wpMin args σ Q) : wpAny (model prog w) A (call (.builtin "min") vs) (PV prog w lo σ s Q) E s := by
  refine i1 h fun v e h9 => ?_
  subst e
  clear h
  · obtain ⟨v, rfl, x⟩ := ha.one
    refine iSN h9 fun ns ei h => ?_
    clear h9
    · skip
      obtain ⟨a, xs, us, n, rfl, rfl, ex, g, hi⟩ := listInts_ok hr x ei
      obtain ⟨hne, h3⟩ := h
      obtain ⟨zs, e1, hns⟩ := pre_of_ints (listIs g) hi
      have hl := listIs g
      rw [e1] at hl
      have hsz : 0 < zs.size := by rw [hns, List.length_map, Array.length_toList] at hne; exact hne
      refine min_intList hh hl hsz fun v h' tk hv hk => ?_
      obtain ⟨t, rfl⟩ := intItems_at hv
      obtain ⟨h1, h2⟩ := argBest_lt (numAt zs) (zs.size - 1)
      refine Post.grown hr hk vint (h3 _ ?_ fun a ha => ?_)
      · rw [hns, numAt_eq]; exact getD_mem (by rw [List.length_map, Array.length_toList]; (first | lia | omega))
      · rw [hns] at ha
        obtain ⟨j, hj, rfl⟩ := mem_getD ha
        rw [List.length_map, Array.length_toList] at hj
        rw [← numAt_eq]; exact h2 j (by (first | lia | omega))
theorem max_ok (hr : HRel prog w σ s.heap) (hh : A.handled = none) (ha : All2 (VRel s.heap) args vs) (h : wpMax args σ Q) : wpAny (model prog w) A (call (.builtin "max") vs) (PV prog w lo σ s Q) E s := by
  refine i1 h fun v e h9 => ?_
  subst e
  clear h
  · obtain ⟨v, rfl, x⟩ := ha.one
    refine iSN h9 fun ns ei h => ?_
    clear h9
    · skip
      obtain ⟨a, xs, us, n, rfl, rfl, ex, g, hi⟩ := listInts_ok hr x ei
      obtain ⟨hne, h3⟩ := h
      obtain ⟨zs, e1, hns⟩ := pre_of_ints (listIs g) hi
      have hl := listIs g
      rw [e1] at hl
      have hsz : 0 < zs.size := by rw [hns, List.length_map, Array.length_toList] at hne; exact hne
      refine max_intList hh hl hsz fun v h' tk hv hk => ?_
      obtain ⟨t, rfl⟩ := intItems_at hv
      obtain ⟨h1, h2⟩ := argBest_gt (numAt zs) (zs.size - 1)
      refine Post.grown hr hk vint (h3 _ ?_ fun a ha => ?_)
      · rw [hns, numAt_eq]; exact getD_mem (by rw [List.length_map, Array.length_toList]; (first | lia | omega))
      · rw [hns] at ha
        obtain ⟨j, hj, rfl⟩ := mem_getD ha
        rw [List.length_map, Array.length_toList] at hj
        rw [← numAt_eq]; exact h2 j (by (first | lia | omega))
theorem sorted_ok (hr : HRel prog w σ s.heap) (hl : lo ≤ s.heap.objs.size) (hs : ∀ d, σ d ≠ none → (d == sysModules) = false) (hh : A.handled = none) (ha : All2 (VRel s.heap) args vs) (h : wpSorted args σ Q) : wpAny (model prog w) A (call (.builtin "sorted") vs) (PV prog w lo σ s Q) E s := by
  refine iRef h fun a e h => ?_
  subst e
  obtain ⟨v, rfl, x⟩ := ha.one
  cases x
  refine iLO h (fun xs ex h9 => ?_) fun o ex h9 => ?_
  · obtain ⟨us, n, g, y⟩ := hr _ _ ex
    refine iSN h9 fun ns ei h8 => ?_
    clear h h9
    have hi := intsOf_ok ei y
    have hlen := IntsAre.length hi
    refine sorted_ints (listIs g) hi (by (first | lia | omega)) fun out ns' a1 a2 a3 => ?_
    obtain ⟨e, he⟩ := sortedAll_at s.heap us out
    exact PV.newList (vs := out.toList) hr hl (fun b o z => sortedAll_old z) (Nat.le_succ _) (by rw [Array.toArray_toList]; exact he) (intsList a1) (h8.2 ns' a2 a3)
  · refine iSI h9 fun es ei h8 => ?_
    clear h h9
    obtain ⟨kvs, D, z⟩ := asI_ok (hr _ _ ex) ei
    obtain ⟨ep, D'⟩ := D.dictAt
    refine sorted_dict hh (hs _ (by rw [ex]; simp)) D' (by have := z.length; (first | lia | omega)) fun us ns' h' tk n a k1 k2 k3 k4 k5 k6 => ?_
    exact PV.newList (vs := us) hr hl k1 k2 k3 (intsList k4) (h8.2 ns' (by rw [← keyInts z]; exact k5) k6)
theorem PV.tupNew {xs : List AV} {us : List Value} {n : Nat} {h' : Heap} {tk : Nat} {a : Addr} (hr : HRel prog w σ s.heap)
    (k : ∀ b o, s.heap.get? b = some o → h'.get? b = some o) (e : h'.get? a = some (tupObj us n)) (r : All2 (VRel h') xs us)
    (q : Q (.tup xs) σ) : PV prog w lo σ s Q (.ref a) { s with heap := h', toks := tk } :=
  Post.grown (a := AV.tup xs) hr k ⟨a, us, n, rfl, e, .of r⟩ q
theorem range_ok (hr : HRel prog w σ s.heap) (ha : All2 (VRel s.heap) args vs) (h : wpRange args σ Q) : wpAny (model prog w) A (call (.type "range") vs) (PV prog w lo σ s Q) E s := by
  refine iSN h fun ns ei h => ?_
  cases intsOf_ok ei ha with
  | nil => exact h.elim
  | cons a t i =>
  cases i with
  | nil => exact call_range_1 (Post.grown (a := AV.rng _ _ _) hr (fun b o e => Heap.get?_push_of_some _ e) ⟨_, _, _, _, rfl, Heap.get?_push_size _ rfl⟩ h)
  | cons b t' i =>
  cases i with
  | nil => exact call_range_2 (Post.grown (a := AV.rng _ _ _) hr (fun b o e => Heap.get?_push_of_some _ e) ⟨_, _, _, _, rfl, Heap.get?_push_size _ rfl⟩ h)
  | cons c t'' i =>
  cases i with
  | nil =>
    obtain ⟨h1, h2, h3⟩ := h
    exact call_range_3 h1 (Post.grown (a := AV.rng _ _ _) hr (fun b o e => Heap.get?_push_of_some _ e) ⟨_, _, _, _, rfl, Heap.get?_push_size _ rfl⟩ h3) (.inl (PyProof.noPylong_small (by (first | lia | omega))))
  | cons _ _ _ => exact h.elim
theorem list_ok (hr : HRel prog w σ s.heap) (hl : lo ≤ s.heap.objs.size) (hs : ∀ d, σ d ≠ none → (d == sysModules) = false) (hh : A.handled = none) (ha : All2 (VRel s.heap) args vs) (h : wpList args σ Q) : wpAny (model prog w) A (call (.type "list") vs) (PV prog w lo σ s Q) E s := by
  refine iArg h (fun a e h9 => ?_) fun xs e h9 => ?_
  · subst e
    clear h
    obtain ⟨v, rfl, x⟩ := ha.one
    cases x
    refine iLD h9 (fun xs ex h => ?_) fun ex h => ?_
    · obtain ⟨us, n, g, y⟩ := hr _ _ ex
      have l := y.length
      clear h9
      refine call_list_seq _ (.inl rfl) g rfl rfl (fun h' c' k e => ?_) (by rw [sizeLine_eq]; simp; (first | lia | omega))
      exact PV.newList (vs := us) hr hl k (Nat.le_refl _) e (y.mono fun _ _ z => z.mono (immOld k)) h.2
    · obtain ⟨n, g⟩ := hr _ _ ex
      obtain ⟨ep, D'⟩ := (dictOf_nil (prog := prog) (w := w) (knd := intKind prog w) g).dictAt
      refine kdl_call (kdl_dict (knd := intKind prog w) (hs _ (by rw [ex]; simp))) hh D' (by simp) fun h' tk acc' c' k e i => ?_
      have e0 : acc' = (([] : List Value)).toArray := by
        have := i.1; simp at this; simpa using this
      rw [e0] at e
      exact PV.newList (vs := []) hr hl k (Nat.le_refl _) e .nil h
  · subst e
    clear h
    obtain ⟨v, rfl, a, us, n, rfl, g, y⟩ := ha.one
    have l := y.all2.length
    refine call_list_seq _ (.inr rfl) g rfl rfl (fun h' c' k e => ?_) (by rw [sizeLine_eq]; simp; (first | lia | omega))
    exact PV.newList (vs := us) hr hl k (Nat.le_refl _) e (y.all2.mono fun _ _ z => z.mono (immOld k)) h9.2
theorem tuple_ok (hr : HRel prog w σ s.heap) (ha : All2 (VRel s.heap) args vs) (h : wpTuple args σ Q) : wpAny (model prog w) A (call (.type "tuple") vs) (PV prog w lo σ s Q) E s := by
  refine iArg h (fun a e h9 => ?_) fun xs e h9 => ?_
  · subst e
    clear h
    obtain ⟨v, rfl, x⟩ := ha.one
    cases x
    refine iL h9 fun xs ex h => ?_
    clear h9
    obtain ⟨us, n, g, y⟩ := hr _ _ ex
    have l := y.length
    refine call_tuple_list (listIs g) (fun h' k => ?_) (by rw [sizeLine_eq]; simp; (first | lia | omega))
    have k' : ∀ b o, s.heap.get? b = some o → (h'.push (tupObj us 0)).get? b = some o := fun b o e => Heap.get?_push_of_some _ (k b o e)
    exact PV.tupNew (us := us) hr k' (Heap.get?_push_size _ rfl) (y.mono fun _ _ z => z.mono (immOld k')) h.2
  · subst e
    clear h
    obtain ⟨v, rfl, a, us, n, rfl, g, y⟩ := ha.one
    exact call_tuple_tup (tupIs g) (Post.here (a := AV.tup _) hr ⟨a, us, n, rfl, g, y⟩ h9)
theorem bi_ok {f : Bi} (hr : HRel prog w σ s.heap) (hl : lo ≤ s.heap.objs.size) (hs : ∀ d, σ d ≠ none → (d == sysModules) = false) (hh : A.handled = none)
    (ha : All2 (VRel s.heap) args vs) (h : wpBi f args σ Q) : wpAny (model prog w) A (call f.val vs) (PV prog w lo σ s Q) E s := by
  cases f
  · exact len_ok hr ha h
  · exact abs_ok hr ha h
  · exact sum_ok hr hh ha h
  · exact min_ok hr hh ha h
  · exact max_ok hr hh ha h
  · exact sorted_ok hr hl hs hh ha h
  · exact range_ok hr ha h
  · exact list_ok hr hl hs hh ha h
  · exact tuple_ok hr ha h
end
end Mine.Internal


namespace Mine.Internal

/-! ### methods of lists and dicts -/
set_option genInjectivity true in
inductive Bm where
  | append | pop | extend | index | get
  deriving DecidableEq
noncomputable def Bm.name : Bm → Str
  | .append => "append"
  | .pop => "pop"
  | .extend => "extend"
  | .index => "index"
  | .get => "get"
noncomputable def Bm.id : Bm → String
  | .append => "list.append"
  | .pop => "list.pop"
  | .extend => "list.extend"
  | .index => "list.index"
  | .get => "dict.get"

noncomputable def wpGet (o : AO) (k d : AV) (σ : AH) (Q : AV → AH → Prop) : Prop :=
  match k with
  | .int k => (match asI o with | some es => Q ((lookK es k).getD d) σ | none => False)
  | .str x => (match asS o with | some es => Q ((lookK es x).getD d) σ | none => False)
  | .tup ps => (match pairOf ps with
    | some p => (match asP o with | some es => Q ((lookK es p).getD d) σ | none => False)
    | none => False)
  | _ => False
noncomputable def wpBm (m : Bm) (a : Addr) (args : List AV) (σ : AH) (Q : AV → AH → Prop) : Prop :=
  match m with
  | .append => (match args with
    | [v] => (match σ a with
      | some (.list xs) => xs.length ≤ 1000000 ∧ Q .none (upd σ a (.list (xs ++ [v])))
      | _ => False)
    | _ => False)
  | .extend => (match args with
    | [v] => (match v with
      | .ref b => (match σ a with
        | some (.list xs) => (match σ b with
          | some (.list ys) => xs.length ≤ 100000 ∧ ys.length ≤ 100000 ∧ Q .none (upd σ a (.list (xs ++ ys)))
          | _ => False)
        | _ => False)
      | _ => False)
    | _ => False)
  | .pop => (match args with
    | [] => (match σ a with
      | some (.list xs) => xs.length ≤ 1000000 ∧ (match xs[xs.length - 1]? with
          | some v => Q v (upd σ a (.list (xs.eraseIdx (xs.length - 1))))
          | none => False)
      | _ => False)
    | [v] => (match v with
      | .int i => (match σ a with
        | some (.list xs) => i = 0 ∧ xs.length ≤ 1000000 ∧ (match xs[0]? with
          | some v => Q v (upd σ a (.list (xs.eraseIdx 0)))
          | none => False)
        | _ => False)
      | _ => False)
    | _ => False)
  | .index => (match args with
    | [v] => (match v with
      | .int k => (match σ a with
        | some (.list xs) => (match intsOf xs with
          | some ns => ns.length ≤ 1000000 ∧ k ∈ ns ∧ Q (.int (ns.idxOf k)) σ
          | none => False)
        | _ => False)
      | _ => False)
    | _ => False)
  | .get => (match args with
    | [k, d] => (match σ a with
      | some o => wpGet o k d σ Q
      | none => False)
    | _ => False)

section
variable {prog : Program} {w : World} {lo : Nat} {σ : AH} {s : Shared} {A : Around} {E : Value → Shared → Prop} {Q : AV → AH → Prop} {args : List AV} {vs : List Value} {a : Addr}

theorem All2.two {α β : Type} {R : α → β → Prop} {a b : α} {bs : List β} (h : All2 R [a, b] bs) : ∃ x y, bs = [x, y] ∧ R a x ∧ R b y := by
  cases h with | cons x y => obtain ⟨v, rfl, z⟩ := y.one; exact ⟨_, _, rfl, x, z⟩

/-- the method is found on the object -/
theorem listUpdate {us : List Value} {n : Nat} (g : s.heap.get? a = some (listOf us.toArray n)) (f : Array Value → Array Value) {ws : List Value} (e : f us.toArray = ws.toArray) :
    ∃ n', (s.heap.update a (Obj.mapSeq f)).get? a = some (listOf ws.toArray n') := ⟨_, by have := IsL.update (n := n) g f; rw [e] at this; exact this⟩
theorem eraseArr (us : List Value) (k : Nat) : us.toArray.eraseIdxIfInBounds k = (us.eraseIdx k).toArray := by
  simp

theorem getD_ok {K : Type} [DecidableEq K] {h : Heap} {es : List (K × AV)} {kvs : List (K × Value)} (r : All2 (EK h) es kvs) (k : K) {d : AV} {v : Value} (rv : VRel h d v) : VRel h ((lookK es k).getD d) ((valueAt kvs k).getD v) := by
  have t := EK.look r k
  cases z : lookK es k with
  | none => rw [t.2 z]; exact rv
  | some x => obtain ⟨v', e, y⟩ := t.1 x z; rw [e]; exact y

section
variable {G : Prop}
theorem iPop {P : Prop} {R : AV → Prop} (h : match args with | [] => P | [v] => R v | _ => False) (k : args = [] → P → G) (r : ∀ v, args = [v] → R v → G) : G := by
  cases args with
  | nil => exact k rfl h
  | cons v t => cases t with
    | nil => exact r v rfl h
    | cons _ _ => exact h.elim
theorem i2 {P : AV → AV → Prop} (h : match args with | [a, b] => P a b | _ => False) (k : ∀ a b, args = [a, b] → P a b → G) : G := by
  cases args with
  | nil => exact h.elim
  | cons v r => cases r with
    | nil => exact h.elim
    | cons u r => cases r with
      | nil => exact k v u rfl h
      | cons _ _ => exact h.elim
end
/-- a list is set in place -/
theorem updSeq {f : Array Value → Array Value} {us ws : List Value} {n tk : Nat} {xs ys : List AV} {x : AV} {v : Value} (hr : HRel prog w σ s.heap) (ex : σ a = some (.list xs)) (g : s.heap.get? a = some (listOf us.toArray n)) (e : f us.toArray = ws.toArray)
    (r : ∀ h', Imm s.heap h' → All2 (VRel h') ys ws ∧ VRel h' x v) (q : Q x (upd σ a (.list ys))) : PV prog w lo σ s Q v { s with heap := s.heap.update a (Obj.mapSeq f), toks := tk } := by
  obtain ⟨n', g'⟩ := listUpdate g f e
  have ne : σ a ≠ none := by rw [ex]; simp
  obtain ⟨r1, r2⟩ := r _ (imm_of_set (s := s) (h' := s.heap.update a (Obj.mapSeq f)) hr ne (Heap.SameBut.update ..))
  exact PV.set (ao := .list _) hr (Heap.SameBut.update ..) ne ⟨_, n', g', r1⟩ r2 q
section
variable {v : AV} {u : Value} {xs : List AV}
theorem append_ok (hr : HRel prog w σ s.heap) (ex : σ a = some (.list xs)) (h1 : xs.length ≤ 1000000) (x : VRel s.heap v u) (q : Q .none (upd σ a (.list (xs ++ [v])))) :
    wpAny (model prog w) A (call (.builtin "list.append") [.ref a, u]) (PV prog w lo σ s Q) E s := by
  obtain ⟨us, n, g, y⟩ := hr _ _ ex
  have l := y.length
  exact call_meets PySem.F.slot_list_append ⟨_, g, rfl⟩ PySem.F.entry_list_append (PySem.F.args_list_append_2 _ _) (list_append a us.toArray n u (by rw [sizeLine_eq]; simp; (first | lia | omega)))
    ⟨g, updSeq (ws := us ++ [u]) hr ex g (by simp) (fun h' k' => ⟨(y.mono fun _ _ q => q.mono k').append (.cons (x.mono k') .nil), vnone⟩) q⟩
theorem pop_ok (hr : HRel prog w σ s.heap) (ex : σ a = some (.list xs)) (h1 : xs.length ≤ 1000000) (e : xs[xs.length - 1]? = some v) (q : Q v (upd σ a (.list (xs.eraseIdx (xs.length - 1))))) :
    wpAny (model prog w) A (call (.builtin "list.pop") [.ref a]) (PV prog w lo σ s Q) E s := by
  obtain ⟨us, n, g, y⟩ := hr _ _ ex
  have l := y.length
  obtain ⟨u, e1, e2⟩ := y.getL e
  rw [l] at e1 q
  exact call_meets PySem.F.slot_list_pop ⟨_, g, rfl⟩ PySem.F.entry_list_pop (PySem.F.args_list_pop_1 _) (MeetsSeq.list_pop_last a us.toArray n u (by simpa using e1) (by rw [sizeLine_eq]; simp; (first | lia | omega)))
    ⟨g, updSeq hr ex g (eraseArr us (us.length - 1)) (fun h' k' => ⟨(y.mono fun _ _ q => q.mono k').eraseIdx _, e2.mono k'⟩) q⟩
theorem pop0_ok {t : Tok} (hr : HRel prog w σ s.heap) (ex : σ a = some (.list xs)) (h1 : xs.length ≤ 1000000) (e : xs[0]? = some v) (q : Q v (upd σ a (.list (xs.eraseIdx 0)))) :
    wpAny (model prog w) A (call (.builtin "list.pop") [.ref a, .int 0 t]) (PV prog w lo σ s Q) E s := by
  obtain ⟨us, n, g, y⟩ := hr _ _ ex
  have l := y.length
  obtain ⟨u, e1, e2⟩ := y.getL e
  have hlt : 0 < us.length := (List.getElem?_eq_some_iff.mp e1).1
  exact call_meets PySem.F.slot_list_pop ⟨_, g, rfl⟩ PySem.F.entry_list_pop (PySem.F.args_list_pop_2 _ _) (MeetsSeq.list_pop_at a us.toArray n 0 t 0 u (by decide) (seqIndex_of (by (first | lia | omega)) (by simp; (first | lia | omega))) (by simpa using e1) (by rw [sizeLine_eq]; simp; (first | lia | omega)))
    ⟨g, updSeq hr ex g (eraseArr us 0) (fun h' k' => ⟨(y.mono fun _ _ q => q.mono k').eraseIdx _, e2.mono k'⟩) q⟩
theorem extend_ok {b : Addr} {ys : List AV} (hr : HRel prog w σ s.heap) (ex : σ a = some (.list xs)) (ey : σ b = some (.list ys)) (h1 : xs.length ≤ 100000) (h2 : ys.length ≤ 100000) (q : Q .none (upd σ a (.list (xs ++ ys)))) :
    wpAny (model prog w) A (call (.builtin "list.extend") [.ref a, .ref b]) (PV prog w lo σ s Q) E s := by
  obtain ⟨us, n, g, y⟩ := hr _ _ ex
  obtain ⟨ws, n2, g2, y2⟩ := hr _ _ ey
  have l := y.length
  have l2 := y2.length
  exact call_meets PySem.F.slot_list_extend ⟨_, g, rfl⟩ PySem.F.entry_list_extend (PySem.F.args_list_extend_2 _ _) (AutoSeq1.list_extend_list_list_0 a us.toArray n b ws.toArray n2 (by simp [Builtin.List.listTooLong, sizeLine]; (first | lia | omega)) (by rw [sizeLine_eq]; simp; (first | lia | omega)) (by rw [sizeLine_eq]; simp; (first | lia | omega)))
    ⟨g, g2, updSeq (ws := us ++ ws) hr ex g (by simp) (fun h' k' => ⟨(y.mono fun _ _ q => q.mono k').append (y2.mono fun _ _ q => q.mono k'), vnone⟩) q⟩
theorem index_ok {k : Int} {t : Tok} {ns : List Int} (hr : HRel prog w σ s.heap) (ex : σ a = some (.list xs)) (ei : intsOf xs = some ns) (h1 : ns.length ≤ 1000000) (h2 : k ∈ ns) (q : Q (.int (ns.idxOf k)) σ) :
    wpAny (model prog w) A (call (.builtin "list.index") [.ref a, .int k t]) (PV prog w lo σ s Q) E s := by
  obtain ⟨us, n, g, y⟩ := hr _ _ ex
  have hi := intsOf_ok ei y
  have hlen := hi.length
  have hj : ns.idxOf k < ns.length := List.idxOf_lt_length_iff.mpr h2
  refine call_meets PySem.F.slot_list_index ⟨_, g, rfl⟩ PySem.F.entry_list_index (PySem.F.args_list_index_2 _ _)
    (SeqAt.list_indexAt a us.toArray n none #[] (.int k t) (isInt k) (ns.idxOf k) (by rw [List.size_toArray, hlen]; exact hj) (by (first | lia | omega)) ?_ ?_) ⟨g, fun y hy => (eq_isInt k t hi y (by simpa using hy)).at _ _, Post.same hr vint q⟩
  · show isInt k us[ns.idxOf k] = true
    rw [isInt_at k hi _ (by (first | lia | omega)) hj, List.getElem_idxOf hj]
    exact decide_eq_true rfl
  · intro j hjs hlt
    show isInt k us[j] = false
    rw [isInt_at k hi j (by simpa using hjs) (by (first | lia | omega))]
    exact ne_of_lt_idxOf hlt _
theorem get_ok {o : AO} {k d : AV} {u v : Value} (hr : HRel prog w σ s.heap) (hs : ∀ d, σ d ≠ none → (d == sysModules) = false) (hu : A.units + 1 < cLine) (ex : σ a = some o) (hk : VRel s.heap k u) (x : VRel s.heap d v) (h : wpGet o k d σ Q) :
    wpAny (model prog w) A (call (.builtin "dict.get") [.ref a, u, v]) (PV prog w lo σ s Q) E s := by
  have hsa := hs a (by rw [ex]; simp)
  cases k with
  | int k =>
    refine iSI h fun es ei h => ?_
    obtain ⟨t, rfl⟩ := hk
    obtain ⟨kvs, D, y⟩ := asI_ok (hr _ _ ex) ei
    exact call_meetsIn PySem.F.slot_dict_get D.typeIs PySem.F.entry_dict_get (PySem.F.args_dict_get_3 _ _ _) (meets_dict_get_default (intKind prog w) a int_is hsa v) ⟨_, D.mapOf, Post.same hr (getD_ok y k x) h⟩
  | str k =>
    refine iSS h fun es ei h => ?_
    obtain ⟨t, rfl⟩ := hk
    obtain ⟨kvs, D, y⟩ := asS_ok (hr _ _ ex) ei
    exact call_meetsIn PySem.F.slot_dict_get D.typeIs PySem.F.entry_dict_get (PySem.F.args_dict_get_3 _ _ _) (meets_dict_get_default (PySem.strKind prog w) a str_is hsa v) ⟨_, D.mapOf, Post.same hr (getD_ok y k x) h⟩
  | tup ps =>
    refine iSQ h fun pq ep h => ?_
    cases pairOf_eq ep
    refine iSP h fun es ei h => ?_
    obtain ⟨b, bs, n, rfl, g, r⟩ := hk
    obtain ⟨kvs, D, y⟩ := asP_ok (hr _ _ ex) ei
    refine call_meetsIn PySem.F.slot_dict_get D.typeIs PySem.F.entry_dict_get (PySem.F.args_dict_get_3 _ _ _) (meetsH_dict_get_default (tupleKind (intKind prog w)) a b hsa v)
      ⟨tupleKind_room_in1 hu, _, _, pairKey g r, D, Post.same hr ?_ h⟩
    have t := EP.key y pq.1 pq.2
    cases z : lookK es (pq.1, pq.2) with
    | none => rw [t.2 z]; exact (show (lookK es pq).getD d = d by rw [show lookK es pq = none from z]; rfl) ▸ x
    | some a => obtain ⟨b, v', e, y⟩ := t.1 a z; rw [e]; exact (show (lookK es pq).getD d = a by rw [show lookK es pq = some a from z]; rfl) ▸ y
  | _ => exact h.elim
end
theorem bm_call {m : Bm} (hr : HRel prog w σ s.heap) (hs : ∀ d, σ d ≠ none → (d == sysModules) = false) (hu : A.units + 1 < cLine) (ha : All2 (VRel s.heap) args vs) (h : wpBm m a args σ Q) :
    wpAny (model prog w) A (call (.builtin m.id) (.ref a :: vs)) (PV prog w lo σ s Q) E s := by
  cases m with
  | append =>
    refine i1 h fun v e h => ?_
    subst e
    obtain ⟨u, rfl, x⟩ := ha.one
    exact iL h fun xs ex h => append_ok hr ex h.1 x h.2
  | pop =>
    refine iPop h (fun e h => ?_) fun v e h => ?_
    · subst e
      cases ha
      exact iL h fun xs ex h => iSV h.2 fun v e h2 => pop_ok hr ex h.1 e h2
    · subst e
      obtain ⟨u, rfl, x⟩ := ha.one
      refine iI h fun i e h => ?_
      subst e
      obtain ⟨t, rfl⟩ := x
      refine iL h fun xs ex h => ?_
      obtain ⟨rfl, h1, h⟩ := h
      exact iSV h fun v e h => pop0_ok hr ex h1 e h
  | extend =>
    refine i1 h fun v e h => ?_
    subst e
    obtain ⟨u, rfl, x⟩ := ha.one
    refine iR h fun b e h => ?_
    subst e
    cases x
    exact iL h fun xs ex h => iL h fun ys ey h => extend_ok hr ex ey h.1 h.2.1 h.2.2
  | index =>
    refine i1 h fun v e h => ?_
    subst e
    obtain ⟨u, rfl, x⟩ := ha.one
    refine iI h fun k e h => ?_
    subst e
    obtain ⟨t, rfl⟩ := x
    exact iL h fun xs ex h => iSN h fun ns ei h => index_ok hr ex ei h.1 h.2.1 h.2.2
  | get =>
    refine i2 h fun k d e h => ?_
    subst e
    obtain ⟨u, v, rfl, y, x⟩ := ha.two
    exact iSO h fun o ex h => get_ok hr hs hu ex y x h
end
end Mine.Internal


namespace Mine.Internal

/-! ### instances -/
structure ClsK (K : Frag) (C : Addr) : Prop where
  get : plainGet K C "" = true
  dict : hasDictIn K C = true
  set : findIn K (.ref C) "__setattr__" = some (some (.builtin "object.__setattr__"))
  over : plainOver K C = true

noncomputable def isCon : AV → Bool | .con _ => true | _ => false

noncomputable def nsAt (σ : AH) (a : Addr) : Option (Addr × Addr × List (Str × AV)) :=
  match σ a with
  | some (.inst c d) => (match σ d with
      | some (.ns fs) => some (c, d, fs)
      | _ => none)
  | _ => none

theorem EN.noref {h : Heap} {fs : List (Str × AV)} {es : List DictEntry} (r : All2 (EN h) fs es) : es.any (·.refKey) = false := by
  induction r with
  | nil => rfl
  | @cons p e fs es y _ ih =>
    obtain ⟨⟨t, e1⟩, _⟩ := y
    rw [List.any_cons, ih, Bool.or_false]
    unfold DictEntry.refKey
    rw [e1]
theorem EN.isStr {h : Heap} {k x : Str} {a : AV} {e : DictEntry} (y : EN h (k, a) e) : e.key.isStr x = decide (k = x) := by
  obtain ⟨⟨t, e1⟩, _⟩ := y
  rw [e1]
  by_cases z : k = x <;> simp [Value.isStr, z]
theorem getL_of {h : Heap} {fs : List (Str × AV)} {es : List DictEntry} (r : All2 (EN h) fs es) (x : Str) :
    (∀ a, lookK fs x = some a → ∃ v, getL x es = some (some v) ∧ VRel h a v) ∧ (lookK fs x = none → getL x es = some none) := by
  have nr := EN.noref r
  have fnd : (∀ a, lookK fs x = some a → ∃ e, es.find? (·.key.isStr x) = some e ∧ VRel h a e.val) ∧ (lookK fs x = none → es.find? (·.key.isStr x) = none) := by
    clear nr
    induction r with
    | nil => exact ⟨fun a e => (nomatch e), fun _ => rfl⟩
    | @cons p e fs es y _ ih =>
      obtain ⟨k, a⟩ := p
      rw [look_cons, List.find?_cons, y.isStr]
      by_cases z : k = x
      · rw [if_pos z, decide_eq_true z]; exact ⟨fun b q => ⟨e, rfl, Option.some.inj q ▸ y.2⟩, fun q => (nomatch q)⟩
      · rw [if_neg z, decide_eq_false z]; exact ih
  refine ⟨fun a q => ?_, fun q => ?_⟩
  · obtain ⟨e, e1, e2⟩ := fnd.1 a q
    exact ⟨e.val, by unfold getL; rw [e1], e2⟩
  · unfold getL
    rw [fnd.2 q]
    dsimp only
    rw [nr]
    exact if_neg (by decide)

theorem putL_of {h : Heap} {fs : List (Str × AV)} {es : List DictEntry} (r : All2 (EN h) fs es) (x : Str) {a : AV} {v : Value} (rv : VRel h a v) (hs : Int) (t : Tok) (nd : (fs.map (·.1)).Nodup) :
    All2 (EN h) (putK fs x a) (putL x hs (.str x t) v es) := by
  have one : ∀ (fs : List (Str × AV)) (es : List DictEntry), All2 (EN h) fs es → (fs.map (·.1)).Nodup → x ∈ fs.map (·.1) → All2 (EN h) (fs.map fun p => if p.1 = x then (p.1, a) else p) (putL x hs (.str x t) v es) := by
    intro fs es r
    induction r with
    | nil => intro _ hx; cases hx
    | @cons p e fs es y r ih =>
      intro nd hx
      obtain ⟨k, b⟩ := p
      obtain ⟨⟨t', e1⟩, rv'⟩ := y
      dsimp only at e1 rv'
      rw [List.map_cons, List.nodup_cons] at nd
      unfold putL
      rw [e1, List.map_cons]
      by_cases z : k = x
      · subst z
        rw [show (Value.str k t').isStr k = true from by simp [Value.isStr], if_pos rfl, if_pos rfl]
        refine .cons ⟨⟨t', rfl⟩, rv⟩ ?_
        have : (fs.map fun p => if p.1 = k then (p.1, a) else p) = fs := by
          conv => rhs; rw [← List.map_id fs]
          refine List.map_congr_left fun p hp => ?_
          rw [if_neg]; rfl
          rintro rfl
          exact nd.1 (List.mem_map.mpr ⟨p, hp, rfl⟩)
        rw [this]
        exact r
      · rw [show (Value.str k t').isStr x = false from by simp [Value.isStr, z], if_neg z, if_neg (by decide)]
        refine .cons ⟨⟨t', e1⟩, rv'⟩ (ih nd.2 ?_)
        rcases List.mem_cons.mp hx with q | q
        · exact absurd q.symm z
        · exact q
  have other : ∀ (fs : List (Str × AV)) (es : List DictEntry), All2 (EN h) fs es → x ∉ fs.map (·.1) → All2 (EN h) (fs ++ [(x, a)]) (putL x hs (.str x t) v es) := by
    intro fs es r
    induction r with
    | nil => intro _; exact .cons ⟨⟨t, rfl⟩, rv⟩ .nil
    | @cons p e fs es y r ih =>
      intro hx
      obtain ⟨k, b⟩ := p
      obtain ⟨⟨t', e1⟩, rv'⟩ := y
      dsimp only at e1 rv'
      rw [List.map_cons, List.mem_cons, not_or] at hx
      unfold putL
      rw [e1, show (Value.str k t').isStr x = false from by simp [Value.isStr, Ne.symm hx.1], if_neg (by decide)]
      exact .cons ⟨⟨t', e1⟩, rv'⟩ (ih hx.2)
  unfold putK
  split
  · rename_i z
    refine one _ _ r nd ?_
    obtain ⟨p, hp, e⟩ := List.any_eq_true.mp z
    exact (by simpa using e : p.1 = x) ▸ List.mem_map_of_mem hp
  · rename_i z
    refine other _ _ r fun q => z ?_
    obtain ⟨p, hp, e⟩ := List.mem_map.mp q
    exact List.any_eq_true.mpr ⟨p, hp, by simpa using e⟩

section
variable {prog : Program} {w : World} {lo : Nat} {σ : AH} {s : Shared} {A : Around} {E : Value → Shared → Prop} {K : Frag} {a c d : Addr} {fs : List (Str × AV)} {x : Str}

theorem iInst {o : Option AO} {P : Addr → Addr → Option (Addr × Addr × List (Str × AV))} {x : Addr × Addr × List (Str × AV)} (e : (match o with | some (.inst c d) => P c d | _ => none) = some x) : ∃ c d, o = some (.inst c d) ∧ P c d = some x := by
  cases o with
  | none => exact nS e
  | some o => cases o with
    | inst c d => exact ⟨c, d, rfl, e⟩
    | _ => exact nS e
theorem iNs {o : Option AO} {P : List (Str × AV) → Option (Addr × Addr × List (Str × AV))} {x : Addr × Addr × List (Str × AV)} (e : (match o with | some (.ns fs) => P fs | _ => none) = some x) : ∃ fs, o = some (.ns fs) ∧ P fs = some x := by
  cases o with
  | none => exact nS e
  | some o => cases o with
    | ns fs => exact ⟨fs, rfl, e⟩
    | _ => exact nS e
theorem nsAt_eq (e : nsAt σ a = some (c, d, fs)) : σ a = some (.inst c d) ∧ σ d = some (.ns fs) := by
  obtain ⟨c', d', e1, e⟩ := iInst e
  obtain ⟨fs', e2, e⟩ := iNs e
  cases e
  exact ⟨e1, e2⟩
theorem nsAt_ok (hr : HRel prog w σ s.heap) (e : nsAt σ a = some (c, d, fs)) : ∃ es n, InstAt s.heap a (instObj c d) c (some (dictOf es n)) ∧ s.heap.get? d = some (dictOf es n) ∧ All2 (EN s.heap) fs es ∧ σ d = some (.ns fs) := by
  obtain ⟨e1, e2⟩ := nsAt_eq e
  obtain ⟨es, n, g, r⟩ := hr _ _ e2
  exact ⟨es, n, ⟨hr _ _ e1, rfl, rfl, g⟩, g, r, e2⟩

theorem handed {h : Heap} {v : AV} {u : Value} (r : VRel h v u) (e : isCon v = false) : handedIn u = true := by
  cases v with
  | none => cases r; rfl
  | bool b => cases r; rfl
  | int i => obtain ⟨t, rfl⟩ := r; rfl
  | str i => obtain ⟨t, rfl⟩ := r; rfl
  | tup xs => obtain ⟨a, vs, n, rfl, _⟩ := r; rfl
  | rng _ _ _ => obtain ⟨a, _, _, _, rfl, _⟩ := r; rfl
  | ref b => cases r; rfl
  | con v => cases e

theorem getA_ok {v : AV} {expr : Bool} {Q : AV → AH → Prop} (hr : HRel prog w σ s.heap) (X : K.In s.heap) (e : nsAt σ a = some (c, d, fs)) (hc : ClsK K c) (hx : findIn K (.ref c) x = some none) (hl : lookK fs x = some v) (hv : isCon v = false) (q : Q v σ) :
    wpAny (model prog w) A (getAttr (.ref a) x expr) (PV prog w lo σ s Q) E s := by
  obtain ⟨es, n, I, g, r, _⟩ := nsAt_ok hr e
  obtain ⟨u, e1, e2⟩ := (getL_of r x).1 _ hl
  exact get_value X I (plainGet_of hc.get).1 (findObj_own hc.dict hx rfl e1) (handed e2 hv) (Post.same hr e2 q)

theorem metA_ok {f : Addr} {pl : Sem Bool} {Q : Value × List Value → Shared → Prop} (hr : HRel prog w σ s.heap) (X : K.In s.heap) (e : nsAt σ a = some (c, d, fs)) (hc : ClsK K c) (hx : findIn K (.ref c) x = some (some (.ref f))) (hf : isFn K (.ref f) = true) (hl : lookK fs x = none)
    (q : Q (.ref f, [.ref a]) s) : wpAny (model prog w) A (getMethod (.ref a) x pl) Q E s := by
  obtain ⟨es, n, I, g, r, _⟩ := nsAt_ok hr e
  exact method_fn X I (plainGet_of hc.get).1 (plainGet_of hc.get).2 hx (beq_iff_eq.mp hf) (by show (lookIn x (dictOf es n)).map _ = _; rw [lookIn_dict, (getL_of r x).2 hl]; rfl) q

theorem osa_raw {ox : Obj} {dx C : Addr} {name : Str} {tk : Tok} {v : Value} {es es' : List DictEntry} {n n' : Nat} {R : Result → Shared → Prop} (X : K.In s.heap)
    (I : InstAt s.heap a ox C (some (dictOf es n))) (hd : ox.dict = some dx) (hp : plainOver K C = true) (ht : takerIn K C name = some none) (hh : (clsIn K C).any (·.hasDict) = true)
    (nr : es.any (·.refKey) = false) (D : s.heap.get? dx = some (dictOf es n))
    (e : Obj.putName name (PyData.keyHash w.params name) (.str name s.toks) v (dictOf es n) = dictOf es' n') (hz : es'.length ≤ 1000)
    (h : R (.ok (.ret .none)) { s with heap := s.heap.update dx (Obj.putName name (PyData.keyHash w.params name) (.str name s.toks) v), toks := s.toks + 1 }) :
    codeAny (model prog w) A (.call (.builtin "object.__setattr__") ⟨[.ref a, .str name tk, v], []⟩) R s := by
  refine osa_open X I hp ht fun b => ?_
  obtain ⟨cd, hc, hd'⟩ := any_some hh
  have D' : (s.heap.update dx (Obj.putName name (PyData.keyHash w.params name) (.str name s.toks) v)).get? dx = some (dictOf es' n') := by
    rw [← e]; exact Heap.get?_update_self _ D (by rw [e]; rfl)
  obtain ⟨hx, hcl, hn, -⟩ := I
  obtain ⟨oc, odi, oda, osl⟩ := ox
  dsimp only at hcl hd
  subst hcl hd
  refine wpAny_bind (wpAny_pure (wpAny_bind (wpAny_bind (wpAny_loadPart hx (wpAny_bind ((looks_clsIn X hc).here ?_))))))
  rw [hd']
  refine wpAny_pure (a := some dx) (wpAny_bind (wpAny_pure (wpAny_bind ?_)))
  unfold nsSet
  refine wpAny_bind (wpAny_bind (wpAny_askSetting (wpAny_pure (wpAny_bind (wpAny_mkText (wpAny_bind (wpAny_loadPart D ?_)))))))
  dsimp only [dictOf]
  have c : (!es.toArray.any (·.key.isStr name) && es.toArray.any (·.refKey)) = false := by
    rw [← Array.any_toList, ← Array.any_toList, nr, Bool.and_false]
  rw [aRefKeyMayBeTheName_at, c]
  exact wpAny_updatePart D (wpAny_bind (wpAny_lookBehind D' (pastItsLine_dict (by rw [List.size_toArray, sizeLine_eq]; (first | lia | omega))) (wpAny_pure h)))

theorem setA_ok {v : AV} {u : Value} {Q : AH → Prop} (hr : HRel prog w σ s.heap) (X : K.In s.heap) (e : nsAt σ a = some (c, d, fs)) (hc : ClsK K c) (hx : findIn K (.ref c) x = some none) (hv : VRel s.heap v u) (nd : (fs.map (·.1)).Nodup) (hz : fs.length < 100)
    (q : Q (upd σ d (.ns (putK fs x v)))) : wpAny (model prog w) A (setAttr (.ref a) x u) (PU prog w lo σ s Q) E s := by
  obtain ⟨es, n, I, g, r, ed⟩ := nsAt_ok hr e
  have len : (putL x (PyData.keyHash w.params x) (.str x (s.toks + 1)) u es).length ≤ 1000 := by
    have := (putL_of r x hv (PyData.keyHash w.params x) (s.toks + 1) nd).length
    have l2 : (putK fs x v).length ≤ fs.length + 1 := by unfold putK; split <;> simp
    (first | lia | omega)
  refine set_plain X I hc.set (osa_raw (s := { s with toks := s.toks + 1 }) X I rfl hc.over ?_ hc.dict (EN.noref r) g (putName_dict ..) len ?_)
  · unfold takerIn; rw [hx]; rfl
  · have k' := imm_of_set (s := s) (h' := s.heap.update d (Obj.putName x (PyData.keyHash w.params x) (.str x (s.toks + 1)) u)) hr (by rw [ed]; simp) (Heap.SameBut.update ..)
    refine PU.set (ao := .ns _) hr (Heap.SameBut.update ..) (by rw [ed]; simp) ⟨_, _, Heap.get?_update_self _ g (by rw [putName_dict]; rfl) |>.trans (by rw [putName_dict]), ?_⟩ q
    exact putL_of (r.mono fun _ _ z => z.mono k') x (hv.mono k') _ _ nd
end
end Mine.Internal


namespace Mine.Internal

noncomputable abbrev NoE : Value → Shared → Prop := fun _ _ => False

/-! ### what is gone through -/
noncomputable def rngItems (a b c : Int) : List AV := (List.range (Builtin.Range.rangeSize a b c).toNat).map fun (i : Nat) => AV.int (a + (i : Int) * c)
noncomputable def items (v : AV) (σ : AH) : Option (List AV) :=
  match v with
  | .ref a => (match σ a with | some (.list xs) => some xs | _ => none)
  | .tup xs => some xs
  | .rng a b c => if a.natAbs < 1000000000 ∧ b.natAbs < 1000000000 ∧ (c = 1 ∨ c = -1) then some (rngItems a b c) else none
  | _ => none

noncomputable def ItSt (h : Heap) (v : AV) (I : Addr) (i : Nat) : Prop :=
  match v with
  | .ref a => h.IsListIter I a i
  | .tup xs => ∃ a vs n, h.get? a = some (tupObj vs n) ∧ VRels h xs vs ∧ h.IsTupleIter I a i
  | .rng a b c => IsRangeIter h I (a + i * c) (Builtin.Range.rangeSize a b c - i) c
  | _ => False

theorem ItSt.step {h h' : Heap} {v : AV} {I : Addr} {i : Nat} (x : ItSt h v I i) (k : Imm h h') (e : ∀ o, h.get? I = some o → h'.get? I = some o) : ItSt h' v I i := by
  cases v with
  | ref a => obtain ⟨o, g, r⟩ := x; exact ⟨o, e o g, r⟩
  | tup xs => obtain ⟨a, vs, n, g, r, o, g', r'⟩ := x; exact ⟨a, vs, n, k _ _ g immTup, r.mono k, o, e o g', r'⟩
  | rng a b c => exact e _ x
  | _ => exact x.elim
theorem ItSt.obj {h : Heap} {v : AV} {I : Addr} {i : Nat} (x : ItSt h v I i) : ∃ o n vs, h.get? I = some o ∧ o.cls = .type n ∧ o.data = .fields vs ∧ (n = "list_iterator" ∨ n = "tuple_iterator" ∨ n = "range_iterator") := by
  cases v with
  | ref a => obtain ⟨o, g, c, d⟩ := x; exact ⟨o, _, _, g, c, d, .inl rfl⟩
  | tup xs => obtain ⟨a, vs, n, _, _, o, g, c, d⟩ := x; exact ⟨o, _, _, g, c, d, .inr (.inl rfl)⟩
  | rng a b c => exact ⟨_, _, _, x, rfl, rfl, .inr (.inr rfl)⟩
  | _ => exact x.elim

theorem rangeSize_nonneg {a b c : Int} (hc : c = 1 ∨ c = -1) : 0 ≤ Builtin.Range.rangeSize a b c := by
  unfold Builtin.Range.rangeSize
  rcases hc with rfl | rfl
  · simp; split <;> (first | lia | omega)
  · simp; split <;> (first | lia | omega)
theorem small_of {a b c : Int} (ha : a.natAbs < 1000000000) (hb : b.natAbs < 1000000000) (hc : c = 1 ∨ c = -1) : Builtin.Range.small a b c = true := by
  have hz : Builtin.Range.rangeSize a b c < 2 ^ 63 := by
    unfold Builtin.Range.rangeSize
    rcases hc with rfl | rfl
    · simp; split <;> (first | lia | omega)
    · simp; split <;> (first | lia | omega)
  have h0 := rangeSize_nonneg (a := a) (b := b) hc
  unfold Builtin.Range.small
  simp only [Builtin.Range.rangeFitsLong, Bool.and_eq_true, Bool.or_eq_true, decide_eq_true_eq, beq_iff_eq]
  rcases hc with rfl | rfl
  · refine ⟨⟨⟨⟨⟨by (first | lia | omega), by (first | lia | omega)⟩, by (first | lia | omega), by (first | lia | omega)⟩, by (first | lia | omega), by (first | lia | omega)⟩, by (first | lia | omega), by (first | lia | omega)⟩, .inr ?_⟩
    rw [if_pos (by (first | lia | omega))]; simp; (first | lia | omega)
  · refine ⟨⟨⟨⟨⟨by (first | lia | omega), by (first | lia | omega)⟩, by (first | lia | omega), by (first | lia | omega)⟩, by (first | lia | omega), by (first | lia | omega)⟩, by (first | lia | omega), by (first | lia | omega)⟩, .inr ?_⟩
    rw [if_neg (by (first | lia | omega))]; simp; (first | lia | omega)

section
variable {prog : Program} {w : World} {lo : Nat} {σ : AH} {s : Shared} {A : Around} {E : Value → Shared → Prop} {v : AV} {xs : List AV} {I : Addr} {i : Nat}

theorem iIf {α : Type} {c : Prop} [Decidable c] {x y : α} {G : Prop} (e : (if c then some x else none) = some y) (k : c → x = y → G) : G := by
  by_cases z : c
  · rw [if_pos z] at e; exact k z (Option.some.inj e)
  · rw [if_neg z] at e; exact nS e
theorem iItems (e : items v σ = some xs) {G : Prop} (kl : ∀ a, v = .ref a → σ a = some (.list xs) → G) (kt : v = .tup xs → G)
    (kr : ∀ a b c, v = .rng a b c → a.natAbs < 1000000000 → b.natAbs < 1000000000 → (c = 1 ∨ c = -1) → rngItems a b c = xs → G) : G := by
  cases v with
  | ref a =>
    have e : (match σ a with | some (.list xs) => some xs | _ => none) = some xs := e
    cases ex : σ a with
    | none => rw [ex] at e; exact nS e
    | some o => cases o with
      | list ys => rw [ex] at e; exact kl a rfl (Option.some.inj e ▸ ex)
      | _ => rw [ex] at e; exact nS e
  | tup ys => exact kt (Option.some.inj e ▸ rfl)
  | rng a b c => exact iIf e fun z e => kr a b c rfl z.1 z.2.1 z.2.2 e
  | _ => exact nS e
theorem iter_open {u : Value} {Q : Value → Shared → Prop} (hr : HRel prog w σ s.heap) (hv : VRel s.heap v u) (e : items v σ = some xs)
    (h : ∀ I h' tk, (∀ b o, s.heap.get? b = some o → h'.get? b = some o) → s.heap.objs.size ≤ I → I < h'.objs.size → ItSt h' v I 0 → Q (.ref I) { s with heap := h', toks := tk }) :
    wpAny (model prog w) A (pyIter u) Q E s := by
  have sz : ∀ o : Obj, s.heap.objs.size < (s.heap.push o).objs.size := fun o => by rw [Heap.size_push]; exact Nat.lt_succ_self _
  refine iItems e (fun a e1 ex => ?_) (fun e1 => ?_) fun a b c e1 za zb zc e9 => ?_
  · subst e1
    cases hv
    obtain ⟨us, n, g, y⟩ := hr _ _ ex
    exact wpAny_pyIter_list (listIs g) (h _ _ _ (fun b o e => Heap.get?_push_of_some _ e) (Nat.le_refl _) (sz _) ⟨_, Heap.get?_push_size _ rfl, rfl, rfl⟩)
  · subst e1
    obtain ⟨a, us, n, rfl, g, y⟩ := hv
    have k : ∀ b o, s.heap.get? b = some o → (s.heap.push { cls := .type "tuple_iterator", data := .fields #[.ref a, .int 0 0] }).get? b = some o := fun b o e => Heap.get?_push_of_some _ e
    exact wpAny_pyIter_tuple (tupIs g) (h _ _ _ k (Nat.le_refl _) (sz _) ⟨a, us, n, k _ _ g, y.mono (immOld k), _, Heap.get?_push_size _ rfl, rfl, rfl⟩)
  · subst e1
    obtain ⟨r, t, u', w', rfl, g⟩ := hv
    refine wpAny_pyIter_range g (small_of za zb zc) (h _ _ _ (fun b o e => Heap.get?_push_of_some _ e) (Nat.le_refl _) (sz _) ?_)
    show IsRangeIter _ _ _ _ _
    rw [show a + ((0 : Nat) : Int) * c = a from by simp, show Builtin.Range.rangeSize a b c - ((0 : Nat) : Int) = Builtin.Range.rangeSize a b c from by simp]
    exact Heap.get?_push_size _ rfl

theorem rng_at {a b c : Int} (i : Nat) : (rngItems a b c)[i]? = if (i : Int) < (Builtin.Range.rangeSize a b c) then some (.int (a + i * c)) else none := by
  unfold rngItems
  rw [List.getElem?_map]
  by_cases h : i < (Builtin.Range.rangeSize a b c).toNat
  · rw [List.getElem?_range h, if_pos (by (first | lia | omega))]; rfl
  · rw [List.getElem?_eq_none (by simpa using h), if_neg (by (first | lia | omega))]; rfl

theorem iter_item {x : AV} {Q : Option Value → Shared → Prop} (hr : HRel prog w σ s.heap) (st : ItSt s.heap v I i) (e : items v σ = some xs) (hx : xs[i]? = some x)
    (h : ∀ u h' tk, Heap.SameBut I s.heap h' → VRel s.heap x u → (Imm s.heap h' → ItSt h' v I (i + 1)) → Q (some u) { s with heap := h', toks := tk }) :
    wpAny (model prog w) A (pyNext (.ref I)) Q E s := by
  refine iItems e (fun a e1 ex => ?_) (fun e1 => ?_) fun a b c e1 za zb zc e9 => ?_
  · subst e1
    obtain ⟨us, n, g, y⟩ := hr _ _ ex
    obtain ⟨u, e1, e2⟩ := y.getL hx
    exact wpAny_pyNext_list_item st (listIs g) (by simpa using e1) fun h' a b => h _ h' _ b e2 fun _ => a
  · subst e1
    obtain ⟨a, us, n, g, y, z⟩ := st
    obtain ⟨u, e1, e2⟩ := y.all2.getL hx
    exact wpAny_pyNext_tuple_item z (tupIs g) (by simpa using e1) fun h' b c => h _ h' _ c e2 fun k => ⟨a, us, n, k _ _ g immTup, y.mono k, b⟩
  · subst e1 e9
    rw [rng_at] at hx
    refine iIf hx fun hlt e => ?_
    subst e
    refine wpAny_pyNext_range_item st (by (first | lia | omega)) fun h' b' c' => h _ h' _ c' vint fun _ => ?_
    show IsRangeIter _ _ _ _ _
    have e1 : a + ((i + 1 : Nat) : Int) * c = a + i * c + c := by rw [Int.natCast_add, Int.add_mul]; simp; (first | lia | omega)
    have e2 : Builtin.Range.rangeSize a b c - ((i + 1 : Nat) : Int) = Builtin.Range.rangeSize a b c - i - 1 := by (first | lia | omega)
    rw [e1, e2]; exact b'

theorem iter_end {Q : Option Value → Shared → Prop} (hh : A.handled = none) (hr : HRel prog w σ s.heap) (st : ItSt s.heap v I i) (e : items v σ = some xs) (hx : xs[i]? = none)
    (h : ∀ h' tk, Heap.ExtBut I s.heap h' → Q none { s with heap := h', toks := tk }) :
    wpAny (model prog w) A (pyNext (.ref I)) Q E s := by
  refine iItems e (fun a e1 ex => ?_) (fun e1 => ?_) fun a b c e1 za zb zc e9 => ?_
  · subst e1
    obtain ⟨us, n, g, y⟩ := hr _ _ ex
    have l := y.length
    refine wpAny_pyNext_list_end hh st (listIs g) ?_ fun h' a => h h' _ a
    rw [List.getElem?_eq_none_iff] at hx
    simp; (first | lia | omega)
  · subst e1
    obtain ⟨a, us, n, g, y, z⟩ := st
    have l := y.all2.length
    refine wpAny_pyNext_tuple_end hh z (tupIs g) ?_ fun h' a => h h' _ a
    rw [List.getElem?_eq_none_iff] at hx
    simp; (first | lia | omega)
  · subst e1 e9
    rw [rng_at] at hx
    refine wpAny_pyNext_range_end hh st ?_ fun h' a => h h' _ a
    by_cases z : (i : Int) < Builtin.Range.rangeSize a b c
    · rw [if_pos z] at hx; cases hx
    · (first | lia | omega)

set_option backward.match.sparseCases true in
theorem letGo_ok {target : Expr} {u : Value} {Q : Unit → Shared → Prop} (st : ItSt s.heap v I i) (q : Q () s) : wpAny (model prog w) A (letOwnedTupleGo target (.ref I) u) Q E s := by
  obtain ⟨o, n, vs, g, c, d, hn⟩ := st.obj
  have nc : ["enumerate", "zip", "dict_itemiterator", "dict_reverseitemiterator", "odict_iterator", "itertools.zip_longest", "itertools.pairwise"].contains n = false := by rcases hn with rfl | rfl | rfl <;> rfl
  have tl : ∀ a : Addr, wpAny (model prog w) A (do
      let o ← load I
      match o.cls, o.data with
      | .type n, .fields vs =>
        if ["enumerate", "zip", "dict_itemiterator", "dict_reverseitemiterator", "odict_iterator", "itertools.zip_longest", "itertools.pairwise"].contains n && vs[0]? == some (rawInt a) then
          rule "for.unpacks-the-owned-tuple"
          updateField I 0 .none
      | _, _ => pure ()) Q E s := fun a => by
    refine wpAny_bind (wpAny_load g ?_)
    rw [c, d]
    dsimp only
    rw [nc, Bool.false_and, if_neg Bool.false_ne_true]
    exact wpAny_pure q
  have tu : wpAny (model prog w) A (letOwnedTupleGo (.List [] default) (.ref I) u) Q E s := by
    unfold letOwnedTupleGo
    cases u with
    | ref a => exact tl a
    | _ => exact wpAny_pure q
  cases target with
  | Tuple => exact tu
  | List => exact tu
  | _ => exact wpAny_pure q

theorem codeAny_forLoopT {R : Result → Shared → Prop} {target it body orelse env} (I : Nat → Shared → Prop)
    (turn : ∀ n s, I n s → wpAny (model prog w) A (pyNext it) (fun r s₁ => match r with
      | none => wpAny (model prog w) A (execs orelse env) (fun f s₃ => R (.ok f) s₃) (notedBy (model prog w) A env fun e s' => R (.error e) s') s₁
      | some v => wpAny (model prog w) A (letOwnedTupleGo target it v) (fun _ s₁ => wpAny (model prog w) A (assign target env v) (fun _ s₂ => wpAny (model prog w) A (execs body env) (fun f s₃ => match f with
          | .next | .cont => ∃ m, m < n ∧ I m s₃
          | .brk => R (.ok .next) s₃
          | .ret v => R (.ok (.ret v)) s₃) (notedBy (model prog w) A env fun e s' => R (.error e) s') s₂) (notedBy (model prog w) A env fun e s' => R (.error e) s') s₁) (notedBy (model prog w) A env fun e s' => R (.error e) s') s₁) (notedBy (model prog w) A env fun e s' => R (.error e) s') s)
    (n : Nat) (h : I n s) : codeAny (model prog w) A (.forLoop target it body orelse env) R s := by
  refine codeAny_loop' rfl I (fun n s hI => ?_) n h
  show wpAny _ _ ((forTurn target it body orelse env).onRaise (fun x => do noteFrame x env; theTreesLotGoes x)) _ _ s
  refine wpAny_noted ?_
  unfold forTurn
  refine wpAny_bind (wpAny_standAt (wpAny_bind (wpAny_onRaise (wpAny_mono (turn n s hI) (fun r s₁ h₁ => ?_) fun _ _ h' => wpAny_standAt h'))))
  cases r with
  | none => exact wpAny_pure (.inr ⟨rfl, codeAny_block h₁⟩)
  | some v =>
    refine wpAny_bind (wpAny_mono h₁ (fun _ s₁ h₁ => ?_) fun _ _ h' => h')
    refine wpAny_bind (wpAny_mono h₁ (fun _ s₂ h₂ => wpAny_bind (wpAny_mono h₂ (fun f s₃ h₃ => ?_) fun _ _ h' => h')) fun _ _ h' => h')
    cases f with
    | next => exact wpAny_pure (.inl ⟨rfl, h₃⟩)
    | cont => exact wpAny_pure (.inl ⟨rfl, h₃⟩)
    | brk => exact wpAny_pure h₃
    | ret v => exact wpAny_pure h₃
end
end Mine.Internal


namespace Mine.Internal

/-! ### what stands around -/
set_option genInjectivity true in
inductive GV where
  | bi (b : Bi)
  | fn (f : Addr)
  | val (v : AV)

structure Lib where
  K : Frag
  glo : Str → Option GV
  att : Addr → Str → Bool
  met : Addr → Str → Option Addr

structure LibOK (L : Lib) : Prop where
  bi : ∀ x b, L.glo x = some (.bi b) → nsIn L.K mainGlobals x = some none ∧ bootBuiltins x = some b.val ∧ x ≠ "__name__" ∧ (x == ("__debug__" : Str)) = false
  fn : ∀ x f, L.glo x = some (.fn f) → nsIn L.K mainGlobals x = some (some (.ref f)) ∧ keepIn L.K (.ref f) = true ∧ (x == ("__debug__" : Str)) = false
  val : ∀ x v, L.glo x = some (.val v) → (x == ("__debug__" : Str)) = false ∧ ∃ u, nsIn L.K mainGlobals x = some (some u) ∧ ∀ h, VRel h v u
  att : ∀ c x, L.att c x = true → ClsK L.K c ∧ findIn L.K (.ref c) x = some none
  met : ∀ c x f, L.met c x = some f → ClsK L.K c ∧ findIn L.K (.ref c) x = some (some (.ref f)) ∧ isFn L.K (.ref f) = true ∧ keepIn L.K (.ref f) = true

structure CxOK (w : World) (L : Lib) (n : Nat) (C : Cx) : Prop where
  weq : C.w = w
  below : Below C.A₀ C.base C.outer C.hf
  frames : C.A.frames = some (C.fenv :: C.outer)
  frame : C.fenv.frame = some C.Lf
  fkind : C.fenv.scope.kind = .function
  X : L.K.In C.hf
  T : ∃ p loose mg mb, TopRead p loose mg mb C.hf
  hh : C.A.handled = none
  lolf : C.lo ≤ C.Lf
  sys : sysModules < C.lo
  depth : C.A.depth + 2 * n < 990
  units : C.A.units + 20 * n < 9000
  kind : C.env.scope.kind = .function
  glob : C.env.globals = mainGlobals
  bins : C.env.builtins = builtinsNs
  frm : C.env.frame = some C.Lf
  cells : ∀ x c, C.env.cells.lookup x = some c → C.hf.get? c = none ∧ c ≠ C.Lf

structure Base (prog : Program) (w : World) (C : Cx) (σ : AH) (h : Heap) : Prop where
  fr : ∃ m, Fr C.hf C.Lf h m
  own : ∀ a, σ a ≠ none → C.lo ≤ a ∧ C.hf.get? a = none ∧ a ≠ C.Lf
  hrel : HRel prog w σ h

/-- what a call does, whoever calls -/
structure CallS (prog : Program) (w : World) (L : Lib) (n : Nat) (f : Addr) (args : List AV) (σ : AH) (Q : AV → AH → Prop) : Prop where
  run : ∀ (C : Cx) (s : Shared) (vs : List Value), CxOK w L n C → Base prog w C σ s.heap → All2 (VRel s.heap) args vs →
    wpAny (model prog w) C.A (call (.ref f) vs) (PV prog w C.lo σ s Q) NoE s

theorem Inv.base {prog : Program} {w : World} {C : Cx} {l : Loc} {σ : AH} {h : Heap} (i : Inv prog C l σ h) (e : C.w = w) : Base prog w C σ h :=
  ⟨i.fr, fun a q => ⟨(i.own a q).1, (i.own a q).2.1, (i.own a q).2.2.1⟩, e ▸ i.hrel⟩
theorem CxOK.noSys {w L n C} (c : CxOK w L n C) {prog l σ h} (i : Inv prog C l σ h) : ∀ d, σ d ≠ none → (d == sysModules) = false := fun d q => by
  have a := (i.own d q).1
  exact beq_eq_false_iff_ne.mpr (Nat.ne_of_gt (Nat.lt_of_lt_of_le c.sys a))
theorem CxOK.libIn {w L n C} (c : CxOK w L n C) {prog l σ h} (i : Inv prog C l σ h) : L.K.In h := by
  obtain ⟨m, F⟩ := i.fr
  exact c.X.keeps F.keep
theorem CxOK.size {w L n C} (c : CxOK w L n C) {prog l σ h} (i : Inv prog C l σ h) : C.lo ≤ h.objs.size := i.size c.lolf

/-- a test that is settled by computing -/
noncomputable def gd (b : Bool) (P : Prop) : Prop := match b with | true => P | false => False
theorem gd.t {b : Bool} {P : Prop} (h : gd b P) : b = true ∧ P := by
  cases b with
  | true => exact ⟨rfl, h⟩
  | false => exact h.elim
theorem gd.f {b : Bool} {P : Prop} (h : gd (!b) P) : b = false ∧ P := by
  cases b with
  | true => exact h.elim
  | false => exact ⟨rfl, h⟩
theorem gd.mk {b : Bool} {P : Prop} (h : b = true) (p : P) : gd b P := by subst h; exact p

/-- both ways of a test -/
noncomputable def Br (c : Bool) (A B : Prop) : Prop := match c with | true => A | false => B
theorem Br.t {c : Bool} {A B : Prop} (h : Br c A B) (e : c = true) : A := by subst e; exact h
theorem Br.f {c : Bool} {A B : Prop} (h : Br c A B) (e : c = false) : B := by subst e; exact h
theorem Br.mk {c : Bool} {A B : Prop} (t : c = true → A) (f : c = false → B) : Br c A B := by
  cases c with
  | true => exact t rfl
  | false => exact f rfl

/-! ### the evaluators -/
structure Ev where
  E : List (Str × NameKind) → Expr → Loc → AH → (AV → AH → Prop) → Prop
  T : List (Str × NameKind) → Expr → Loc → AH → (Bool → AH → Prop) → Prop

noncomputable def isStar (e : Expr) : Bool := Nat.beq e.ctorIdx 22
noncomputable def noStars (es : List Expr) : Bool := es.all fun e => !isStar e
noncomputable def isCallE (e : Expr) : Bool := Nat.beq e.ctorIdx 16
noncomputable def isSetE (e : Expr) : Bool := Nat.beq e.ctorIdx 7
noncomputable def isCompE (e : Expr) : Bool := Nat.ble 8 e.ctorIdx && Nat.ble e.ctorIdx 10
noncomputable def isTupE (e : Expr) : Bool := Nat.ble 24 e.ctorIdx && Nat.ble e.ctorIdx 25
noncomputable def asName : Expr → Option (Str × Pos) | .Name x p => some (x, p) | _ => none
theorem asName_eq {e : Expr} {q : Str × Pos} (h : asName e = some q) : e = .Name q.1 q.2 := by
  cases e with
  | Name x p => exact Option.some.inj h ▸ rfl
  | _ => exact nS h

noncomputable def wpEs (E : Expr → Loc → AH → (AV → AH → Prop) → Prop) : List Expr → Loc → AH → (List AV → AH → Prop) → Prop
  | [], _, σ, Q => Q [] σ
  | e :: es, l, σ, Q => gd (!isStar e) (E e l σ fun v σ => wpEs E es l σ fun vs σ => Q (v :: vs) σ)

noncomputable def wpKVs (E : Expr → Loc → AH → (AV → AH → Prop) → Prop) : List (Option Expr) → List Expr → Loc → AH → (List (AV × AV) → AH → Prop) → Prop
  | [], [], _, σ, Q => Q [] σ
  | some k :: ks, v :: vs, l, σ, Q => E k l σ fun a σ => E v l σ fun b σ => wpKVs E ks vs l σ fun r σ => Q ((a, b) :: r) σ
  | _, _, _, _, _ => False

noncomputable def keysI : List (AV × AV) → Option (List (Int × AV))
  | [] => some []
  | (.int k, v) :: r => (keysI r).map ((k, v) :: ·)
  | _ => none
noncomputable def keysS : List (AV × AV) → Option (List (Str × AV))
  | [] => some []
  | (.str k, v) :: r => (keysS r).map ((k, v) :: ·)
  | _ => none
noncomputable def putAll {K : Type} [DecidableEq K] : List (K × AV) → List (K × AV) → List (K × AV)
  | acc, [] => acc
  | acc, p :: r => putAll (putK acc p.1 p.2) r

noncomputable def wpDict (kvs : List (AV × AV)) (σ : AH) (Q : AV → AH → Prop) : Prop :=
  match kvs with
  | (.int _, _) :: _ => (match keysI kvs with | some es => ∀ c, σ c = none → Q (.ref c) (upd σ c (.dictI (putAll [] es))) | none => False)
  | _ => (match keysS kvs with | some es => ∀ c, σ c = none → Q (.ref c) (upd σ c (.dictS (putAll [] es))) | none => False)

noncomputable def wpParts (E : Expr → Loc → AH → (AV → AH → Prop) → Prop) : List Expr → Str → Loc → AH → (AV → AH → Prop) → Prop
  | [], acc, _, σ, Q => acc.length ≤ 10000 ∧ Q (.str acc) σ
  | .FormattedValue e c sp _ :: r, acc, l, σ, Q => c = -1 ∧ sp = none ∧ E e l σ fun v σ => (match v with
      | .str x => (acc ++ x).length ≤ 10000 ∧ x.length ≤ 10000 ∧ wpParts E r (acc ++ x) l σ Q
      | .int i => i.natAbs < 1000000000 ∧ (acc ++ (toString i : Str)).length ≤ 10000 ∧ wpParts E r (acc ++ (toString i : Str)) l σ Q
      | _ => False)
  | .Constant (.str x) _ _ :: r, acc, l, σ, Q => (acc ++ x).length ≤ 10000 ∧ wpParts E r (acc ++ x) l σ Q
  | _, _, _, _, _ => False

section
variable (prog : Program) (w : World) (L : Lib) (n : Nat)

noncomputable def wpName (N : List (Str × NameKind)) (x : Str) (l : Loc) (σ : AH) (Q : AV → AH → Prop) : Prop :=
  gd (!(x == ("__debug__" : Str))) (match N.lookup x with
  | some .local => (match l x with | some v => Q v σ | none => False)
  | some .cell => (match l x with | some v => Q v σ | none => False)
  | some .globalImplicit => (match L.glo x with | some (.val v) => Q v σ | _ => False)
  | _ => False)

noncomputable def bmOf (x : Str) : Option Bm :=
  if x = Bm.append.name then some .append else if x = Bm.pop.name then some .pop else if x = Bm.extend.name then some .extend
  else if x = Bm.index.name then some .index else if x = Bm.get.name then some .get else none
noncomputable def isLst (o : Option AO) : Bool := match o with | some (.list _) => true | _ => false
noncomputable def isDct (o : Option AO) : Bool := match o with | some o => (match o with | .dict0 => true | .dictI _ => true | .dictS _ => true | .dictP _ => true | _ => false) | none => false
noncomputable def bmTy (m : Bm) (o : Option AO) : Bool :=
  match m with
  | .get => isDct o
  | _ => isLst o

noncomputable def wpMeth (name : Str) (ov : AV) (σ : AH) (args : AH → (List AV → AH → Prop) → Prop) (Q : AV → AH → Prop) : Prop :=
  match ov with
  | .ref a => (match nsAt σ a with
      | some (c, _, fs) => (match L.met c name with
          | some f => lookK fs name = none ∧ args σ fun vs σ => CallS prog w L n f (.ref a :: vs) σ Q
          | none => False)
      | none => (match bmOf name with
          | some m => bmTy m (σ a) = true ∧ args σ fun vs σ => wpBm m a vs σ Q
          | none => False))
  | _ => False

noncomputable def wpAttr (name : Str) (ov : AV) (σ : AH) (Q : AV → AH → Prop) : Prop :=
  match ov with
  | .ref a => (match nsAt σ a with
      | some (c, _, fs) => gd (L.att c name) (match lookK fs name with | some v => gd (!isCon v) (Q v σ) | none => False)
      | none => False)
  | _ => False

noncomputable def relN (sc N : List (Str × NameKind)) : List (Str × NameKind) := sc.map fun p => if (p.2 == .free && N.lookup p.1 == some .cell) then (p.1, .cell) else (p.1, p.2)
/-- the names of a comprehension: its own variable, and cells of the function -/
noncomputable def compOK (sc N : List (Str × NameKind)) (x : Str) : Bool :=
  sc.lookup x == some .local && sc.all fun p => (p.2 == .local && sc.lookup p.1 == some .local) || p.2 == .globalImplicit || (p.2 == .free && N.lookup p.1 == some .cell)

noncomputable def locC (N : List (Str × NameKind)) (l : Loc) (x : Str) (v : AV) : Loc := fun y => if y = x then some v else if N.lookup y = some .cell then l y else none

noncomputable def compL (r : Ev) (N : List (Str × NameKind)) (x : Str) (ifs : List Expr) (elt : Expr) (src : AV) (all : List AV) (l : Loc) : List AV → List AV → AH → (List AV → AH → Prop) → Prop
  | [], acc, σ, Q => items src σ = some all ∧ Q acc σ
  | v :: vs, acc, σ, Q => items src σ = some all ∧ (match ifs with
      | [] => r.E N elt (locC N l x v) σ fun u σ => acc.length ≤ 100000 ∧ compL r N x ifs elt src all l vs (acc ++ [u]) σ Q
      | [c] => r.T N c (locC N l x v) σ fun b σ => Br b (r.E N elt (locC N l x v) σ fun u σ => acc.length ≤ 100000 ∧ compL r N x ifs elt src all l vs (acc ++ [u]) σ Q) (compL r N x ifs elt src all l vs acc σ Q)
      | _ => False)

noncomputable def wpComp (r : Ev) (N : List (Str × NameKind)) (elt : Expr) (gens : List Comprehension) (sc : Scope) (l : Loc) (σ : AH) (Q : AV → AH → Prop) : Prop :=
  match gens with
  | [g] => (match asName g.target with
      | some x => gd (g.is_async == 0 && sc.kind == .function && !isSetE g.iter && compOK sc.names N x.1) (r.E N g.iter l σ fun v σ =>
        (match items v σ with
        | some xs => compL r (relN sc.names N) x.1 g.ifs elt v xs l xs [] σ fun out σ => ∀ c, σ c = none → Q (.ref c) (upd σ c (.list out))
        | none => False))
      | none => False)
  | _ => False

noncomputable def wpNeg (v : AV) (σ : AH) (Q : AV → AH → Prop) : Prop := match v with | .int i => Q (.int (-i)) σ | _ => False

noncomputable def wpCall (r : Ev) (N : List (Str × NameKind)) (f : Expr) (args : List Expr) (p : Pos) (l : Loc) (σ : AH) (Q : AV → AH → Prop) : Prop :=
  match f with
  | .Name f _ => gd (noStars args && N.lookup f == some .globalImplicit) (match L.glo f with
      | some (.bi b) => wpEs (r.E N) args l σ fun vs σ => wpBi b vs σ Q
      | some (.fn a) => wpEs (r.E N) args l σ fun vs σ => CallS prog w L n a vs σ Q
      | _ => False)
  | .Attribute o x ap => gd (!isCallE o && ap.endLine == p.line && Nat.blt args.length 30 && noStars args) (r.E N o l σ fun ov σ =>
      wpMeth prog w L n x ov σ (fun σ Q => wpEs (r.E N) args l σ Q) Q)
  | .Tuple .. => False
  | .Subscript .. => False
  | _ => False
noncomputable def evE (r : Ev) (N : List (Str × NameKind)) (e : Expr) (l : Loc) (σ : AH) (Q : AV → AH → Prop) : Prop :=
  match e with
  | .Constant (.int i) _ _ => Q (.int i) σ
  | .Constant (.str x) _ _ => gd (Nat.ble x.length 10000) (Q (.str x) σ)
  | .Constant (.bool b) _ _ => Q (.bool b) σ
  | .Constant .none _ _ => Q .none σ
  | .Name x _ => wpName L N x l σ Q
  | .BinOp a op b _ => r.E N a l σ fun u σ => r.E N b l σ fun v σ => wpBin op u v σ Q
  | .Compare a [op] [b] _ => gd (!behindInMarks op b) (r.E N a l σ fun u σ => r.E N b l σ fun v σ => wpCmp op u v σ fun b σ => Q (.bool b) σ)
  | .UnaryOp .USub a _ => r.E N a l σ fun v σ => wpNeg v σ Q
  | .BoolOp .Or [a, b] _ => r.E N a l σ fun v σ => (match v with | .bool t => Br t (Q (.bool true) σ) (r.E N b l σ Q) | _ => False)
  | .BoolOp .And [a, b] _ => r.E N a l σ fun v σ => (match v with | .bool t => Br t (r.E N b l σ Q) (Q (.bool false) σ) | _ => False)
  | .IfExp t a b _ => r.T N t l σ fun c σ => Br c (r.E N a l σ Q) (r.E N b l σ Q)
  | .Subscript a i _ => r.E N a l σ fun u σ => r.E N i l σ fun v σ => wpItem u v σ Q
  | .Attribute a x _ => gd (!isCallE a) (r.E N a l σ fun v σ => wpAttr L x v σ Q)
  | .List es _ => wpEs (r.E N) es l σ fun vs σ => gd (Nat.ble vs.length 100000) (∀ c, σ c = none → Q (.ref c) (upd σ c (.list vs)))
  | .Tuple es _ _ => wpEs (r.E N) es l σ fun vs σ => gd (Nat.ble vs.length 100000) (Q (.tup vs) σ)
  | .Dict [] [] _ => ∀ c, σ c = none → Q (.ref c) (upd σ c .dict0)
  | .Dict (k :: ks) vs _ => gd (Nat.ble (k :: ks).length 15 && (k :: ks).all (·.isSome) && (k :: ks).length == vs.length) (wpKVs (r.E N) (k :: ks) vs l σ fun kvs σ => gd (Nat.ble kvs.length 15) (wpDict kvs σ Q))
  | .JoinedStr (a :: b :: rest) _ => wpParts (r.E N) (a :: b :: rest) Str.empty l σ Q
  | .Call f args [] p => wpCall prog w L n r N f args p l σ Q
  | .ListComp elt gens sc _ => wpComp r N elt gens sc l σ Q
  | _ => False

noncomputable def allT (op : BoolOp) (T : Expr → AH → (Bool → AH → Prop) → Prop) : List Expr → AH → (Bool → AH → Prop) → Prop
  | [], σ, Q => Q (op == .And) σ
  | e :: es, σ, Q => T e σ fun b σ => (match op with
      | .And => Br b (allT op T es σ Q) (Q false σ)
      | .Or => Br b (Q true σ) (allT op T es σ Q))

noncomputable def isTestE (e : Expr) : Bool := Nat.beq e.ctorIdx 0 || Nat.beq e.ctorIdx 3 || Nat.beq e.ctorIdx 5 || Nat.beq e.ctorIdx 15
noncomputable def evT (r : Ev) (N : List (Str × NameKind)) (e : Expr) (l : Loc) (σ : AH) (Q : Bool → AH → Prop) : Prop :=
  match e with
  | .UnaryOp .Not a _ => r.T N a l σ fun b σ => Q (!b) σ
  | .BoolOp op es _ => allT op (fun e σ Q => r.T N e l σ Q) es σ Q
  | .Compare a [op] [b] _ => gd (!behindInMarks op b) (r.E N a l σ fun u σ => r.E N b l σ fun v σ => wpCmp op u v σ Q)
  | e => gd (!isTestE e) (r.E N e l σ fun v σ => (match truthV v σ with | some b => Q b σ | none => False))

@[reducible] noncomputable def evZ : Ev := ⟨fun _ _ _ _ _ => False, fun _ _ _ _ _ => False⟩
@[reducible] noncomputable def evC (_ : Nat) (r : Ev) : Ev := ⟨evE prog w L n r, evT r⟩
noncomputable def ev (m : Nat) : Ev := Nat.rec evZ (evC prog w L n) m
end
end Mine.Internal


namespace Mine.Internal

section
variable {prog : Program} {w : World} {L : Lib} {n : Nat}

theorem CxOK.hr {C : Cx} (c : CxOK w L n C) {l σ h} (i : Inv prog C l σ h) : HRel prog w σ h := c.weq ▸ i.hrel
theorem CxOK.step {C : Cx} (c : CxOK w L n C) {l σ h σ' h'} (i : Inv prog C l σ h) (st : Step C.lo NoX σ h σ' h') (r : HRel prog w σ' h') : Inv prog C l σ' h' := i.step st (c.weq.symm ▸ r)
theorem CxOK.cline {C : Cx} (c : CxOK w L n C) : C.A.units + 1 < cLine := Nat.lt_trans (Nat.succ_lt_succ (Nat.lt_of_le_of_lt (Nat.le_add_right _ _) c.units)) (by decide)

noncomputable abbrev SndE (prog : Program) (w : World) (L : Lib) (n : Nat) (r : Ev) : Prop := ∀ (C : Cx) (N : List (Str × NameKind)) (l : Loc) (σ : AH) (s : Shared) (e : Expr) (Q : AV → AH → Prop), CxOK w L n C → C.env.scope.names = N → Inv prog C l σ s.heap → r.E N e l σ Q →
  wpAny (model prog w) C.A (eval e C.env) (PV prog w C.lo σ s Q) NoE s
noncomputable abbrev SndT (prog : Program) (w : World) (L : Lib) (n : Nat) (r : Ev) : Prop := ∀ (C : Cx) (N : List (Str × NameKind)) (l : Loc) (σ : AH) (s : Shared) (e : Expr) (Q : Bool → AH → Prop), CxOK w L n C → C.env.scope.names = N → Inv prog C l σ s.heap → r.T N e l σ Q →
  wpAny (model prog w) C.A (isTrue e C.env (eval e C.env)) (PB prog w C.lo σ s Q) NoE s

variable {r : Ev} {C : Cx} {N : List (Str × NameKind)} {l : Loc} {σ : AH} {s : Shared} {Q : AV → AH → Prop}

theorem star_eq {e : Expr} (h : isStar e = false) (rest : List Expr) (env : Env) : starEach (e :: rest) env = (false, eval e env) :: starEach rest env := by
  cases e <;> first | rfl | cases h

theorem snd_es (ih : SndE prog w L n r) (c : CxOK w L n C) (hN : C.env.scope.names = N) (pos : Pos) : ∀ (es : List Expr) (σ : AH) (s : Shared) (Q : List AV → AH → Prop), Inv prog C l σ s.heap → wpEs (r.E N) es l σ Q →
    wpAny (model prog w) C.A (spliced (backTo pos (starEach es C.env))) (PVs prog w C.lo σ s Q) NoE s
  | [], σ, s, Q, i, h => wpAny_items_nil (Post.here (a := []) (c.hr i) .nil h)
  | e :: es, σ, s, Q, i, h => by
    obtain ⟨h1, h2⟩ := gd.f h
    refine wpAny_items_cons ?_ (star_eq h1 _ _)
    refine seqP (ih C N l σ s e _ c hN i h2) fun h₁ tk₁ σ₁ a v st hr rv q => ?_
    refine seqP (snd_es ih c hN pos es σ₁ _ _ (c.step i st hr) q) fun h₂ tk₂ σ₂ as vs st₂ hr₂ rvs q₂ => ?_
    exact ⟨h₂, tk₂, σ₂, a :: as, rfl, st.trans st₂, hr₂, .cons (rv.mono (st₂.imm0 hr)) rvs, q₂⟩

theorem plain_args (pos : Pos) (env : Env) : ∀ es : List Expr, noStars es = true → (backTo pos (starEach es env)).any (·.1) = false
  | [], _ => rfl
  | e :: es, h => by
    rw [noStars, List.all_cons, Bool.and_eq_true, Bool.not_eq_true'] at h
    rw [star_eq h.1]
    show (false || (backTo pos (starEach es env)).any (·.1)) = false
    rw [plain_args pos env es h.2]; rfl

theorem args_eval (ih : SndE prog w L n r) (c : CxOK w L n C) (hN : C.env.scope.names = N) {pos : Pos} {f : Value} {es : List Expr} {Q : List AV → AH → Prop} {P : Args → Shared → Prop} (i : Inv prog C l σ s.heap) (h : wpEs (r.E N) es l σ Q)
    (k : ∀ h₁ tk₁ σ₁ as vs, Step C.lo NoX σ s.heap σ₁ h₁ → HRel prog w σ₁ h₁ → All2 (VRel h₁) as vs → Q as σ₁ → P ⟨vs, []⟩ { s with heap := h₁, toks := tk₁ }) :
    wpAny (model prog w) C.A (evalArgs f true (backTo pos (starEach es C.env)) []) P NoE s := by
  cases es with
  | nil => exact evalArgs_nil3 (k _ _ _ [] [] Step.refl (c.hr i) .nil h)
  | cons e es =>
    have e1 := star_eq (gd.f h).1 es C.env
    have := snd_es ih c hN pos (e :: es) σ s Q i h
    rw [e1] at this ⊢
    exact Calls.evalArgs_plain (seqP this fun h₁ tk₁ σ₁ as vs st hr rv q => k h₁ tk₁ σ₁ as vs st hr rv q)

theorem name_local {x : Str} {p : Pos} (c : CxOK w L n C) (i : Inv prog C l σ s.heap) (hd : (x == ("__debug__" : Str)) = false) (hk : C.env.kindOf x = some .local ∨ C.env.kindOf x = some .cell) {v : AV} (hv : l x = some v) (q : Q v σ) :
    wpAny (model prog w) C.A (eval (.Name x p) C.env) (PV prog w C.lo σ s Q) NoE s := by
  refine wpAny_Name ?_ hd
  rcases hk with hk | hk
  · obtain ⟨m, hn, f⟩ := i.lrel.loc
    obtain ⟨u, e1, e2⟩ := f x v hv hk
    exact wpAny_loadName_local c.kind hk hn e1 (Post.here (c.hr i) e2 q)
  · obtain ⟨a, u, e1, e2, e3⟩ := i.lrel.cel x v hv (.inl hk)
    exact wpAny_loadName_cell c.kind hk e1 e2 (Post.here (c.hr i) e3 q)

theorem global_ok {x : Str} {p : Pos} {u : Value} {P : Value → Shared → Prop} (c : CxOK w L n C) (i : Inv prog C l σ s.heap) (hd : (x == ("__debug__" : Str)) = false) (hk : C.env.kindOf x = some .globalImplicit) (e : nsIn L.K mainGlobals x = some (some u)) (q : P u s) :
    wpAny (model prog w) C.A (eval (.Name x p) C.env) P NoE s := by
  obtain ⟨pr, lo, mg, mb, T⟩ := c.T
  obtain ⟨m, F⟩ := i.fr
  refine Calls.Name_function_global c.kind hk (Calls.loadGlobal_global (mg := mg) ?_ (mg_of c.X T.g e) q) hd
  rw [c.glob]; exact T.g.keeps F.keep
theorem builtin_ok {x : Str} {p : Pos} {u : Value} {P : Value → Shared → Prop} (c : CxOK w L n C) (i : Inv prog C l σ s.heap) (hd : (x == ("__debug__" : Str)) = false) (hk : C.env.kindOf x = some .globalImplicit) (e : nsIn L.K mainGlobals x = some none)
    (hv : bootBuiltins x = some u) (hn : x ≠ "__name__") (q : P u s) :
    wpAny (model prog w) C.A (eval (.Name x p) C.env) P NoE s := by
  obtain ⟨pr, lo, mg, mb, T⟩ := c.T
  obtain ⟨m, F⟩ := i.fr
  refine Calls.Name_function_global c.kind hk (Calls.loadGlobal_builtin (mg := mg) (mb := mb) ?_ (mg_none_of c.X T.g e) ?_ ((T.builtins x hn).trans hv) q) hd
  · rw [c.glob]; exact T.g.keeps F.keep
  · rw [c.bins]; exact T.b.keeps F.keep

section
variable {G P1 P2 P3 : Prop} {o : Option NameKind} {g : Option GV}
theorem iNm (h : match o with | some .local => P1 | some .cell => P2 | some .globalImplicit => P3 | _ => False) (k1 : o = some .local → P1 → G) (k2 : o = some .cell → P2 → G) (k3 : o = some .globalImplicit → P3 → G) : G := by
  cases o with
  | none => exact h.elim
  | some o => cases o with
    | «local» => exact k1 rfl h
    | cell => exact k2 rfl h
    | globalImplicit => exact k3 rfl h
    | _ => exact h.elim
theorem iGV {P : AV → Prop} (h : match g with | some (.val v) => P v | _ => False) (k : ∀ v, g = some (.val v) → P v → G) : G := by
  cases g with
  | none => exact h.elim
  | some g => cases g with
    | val v => exact k v rfl h
    | _ => exact h.elim
theorem iGF {P : Bi → Prop} {R : Addr → Prop} (h : match g with | some (.bi b) => P b | some (.fn a) => R a | _ => False) (k : ∀ b, g = some (.bi b) → P b → G) (r : ∀ a, g = some (.fn a) → R a → G) : G := by
  cases g with
  | none => exact h.elim
  | some g => cases g with
    | bi b => exact k b rfl h
    | fn a => exact r a rfl h
    | _ => exact h.elim
theorem iSA {o : Option Addr} {P : Addr → Prop} (h : match o with | some v => P v | none => False) (k : ∀ v, o = some v → P v → G) : G := by
  cases o with
  | none => exact h.elim
  | some v => exact k v rfl h
theorem iSM {o : Option Bm} {P : Bm → Prop} (h : match o with | some v => P v | none => False) (k : ∀ v, o = some v → P v → G) : G := by
  cases o with
  | none => exact h.elim
  | some v => exact k v rfl h
theorem iElse {α : Type} {c : Prop} [Decidable c] {x y : α} {r : Option α} (e : (if c then some x else r) = some y) (k : c → x = y → G) (z : r = some y → G) : G := by
  by_cases q : c
  · rw [if_pos q] at e; exact k q (Option.some.inj e)
  · rw [if_neg q] at e; exact z e
end
theorem name_ok (LK : LibOK L) {x : Str} {p : Pos} (c : CxOK w L n C) (hN : C.env.scope.names = N) (i : Inv prog C l σ s.heap) (h : wpName L N x l σ Q) :
    wpAny (model prog w) C.A (eval (.Name x p) C.env) (PV prog w C.lo σ s Q) NoE s := by
  obtain ⟨hd, h⟩ := gd.f h
  have hk : C.env.kindOf x = N.lookup x := by rw [← hN]; rfl
  refine iNm h (fun e h => iSV h fun v hv h => name_local c i hd (.inl (hk.trans e)) hv h) (fun e h => iSV h fun v hv h => name_local c i hd (.inr (hk.trans e)) hv h) fun e h => iGV h fun v hv h => ?_
  obtain ⟨_, u, e1, e2⟩ := LK.val x v hv
  exact global_ok c i hd (hk.trans e) e1 (Post.here (c.hr i) (e2 _) h)

theorem keeps_val (M : Model) (b : Bi) (h : Heap) : ∃ k, (k = Keeper.frame ∨ k = Keeper.machine ∨ k = Keeper.boundFrame) ∧ Looks M h (keeperOf b.val) k :=
  ⟨.machine, .inr (.inl rfl), by cases b <;> exact Looks.of_pure rfl⟩

theorem callName_ok (LK : LibOK L) (ih : SndE prog w L n r) (c : CxOK w L n C) (hN : C.env.scope.names = N) (i : Inv prog C l σ s.heap) {f : Str} {np pos : Pos} {args : List Expr} (h : evE prog w L n r N (.Call (.Name f np) args [] pos) l σ Q) :
    wpAny (model prog w) C.A (eval (.Call (.Name f np) args [] pos) C.env) (PV prog w C.lo σ s Q) NoE s := by
  obtain ⟨hh, h⟩ := gd.t h
  rw [Bool.and_eq_true, beq_iff_eq] at hh
  obtain ⟨hs, hk⟩ := hh
  have hk' : C.env.kindOf f = some .globalImplicit := by rw [← hk, ← hN]; rfl
  have hp : ((backTo pos (starEach args C.env)).any (·.1) || ([] : List (Option Str × Sem Value)).any (·.1.isNone)) = false := by rw [plain_args pos C.env args hs]; rfl
  refine wpAny_Call_NameR ?_
  refine iGF h (fun b hb h => ?_) fun a ha h => ?_
  · obtain ⟨e1, e2, e3, e4⟩ := LK.bi f b hb
    refine builtin_ok c i e4 hk' e1 e2 e3 ?_
    refine callWith_of (P := fun _ => True) hp (fun h _ => keeps_val _ b h) (args_eval ih c hN i h fun h₁ tk₁ σ₁ as vs st hr rv q => ⟨trivial, ?_⟩)
    have i₁ := c.step i st hr
    exact Post.lifts st (bi_ok (s := { s with heap := h₁, toks := tk₁ }) hr (c.size i₁) (c.noSys i₁) c.hh rv q)
  · obtain ⟨e1, e2, e3⟩ := LK.fn f a ha
    refine global_ok c i e3 hk' e1 ?_
    refine callWith_of (P := L.K.In) hp (keeps_K e2) (args_eval ih c hN i h fun h₁ tk₁ σ₁ as vs st hr rv q => ?_)
    have i₁ := c.step i st hr
    exact ⟨c.libIn i₁, Post.lifts st (q.run C { s with heap := h₁, toks := tk₁ } vs c (i₁.base c.weq) rv)⟩

theorem attributeBase_plain {o : Expr} {x : Str} {env : Env} {whole : Sem Value} (h : isCallE o = false) : attributeBase o x env whole = whole := by
  cases o <;> first | rfl | cases h

theorem method_eq {o : Expr} {name : Str} {apos pos : Pos} {args : List Expr} {env : Env} (ho : isCallE o = false) (hl : (apos.endLine == pos.line) = true) (h30 : args.length < 30) (hs : noStars args = true) :
    eval (.Call (.Attribute o name apos) args [] pos) env = (do
      let ov ← eval o env
      standAt apos.atName
      let (f, first) ← holding [ov] (getMethod ov name (do return (← importBound o env).getD true))
      callWith pos f first (backTo pos (starEach args env)) []) := by
  have hf : methodCallForm (args.length + ([] : List Keyword).length) (backTo pos (starEach args env)) [] = true := by
    have h1 := plain_args pos env args hs
    have h2 : (backTo pos (starEach args env)).all (fun x => !x.1) = true := by
      rw [List.all_eq_not_any_not]; simpa using h1
    unfold methodCallForm
    rw [h2]
    simp; (first | lia | omega)
  show (do
    let ov ← attributeBase o name env (eval o env)
    standAt apos.atName
    methodCall o name apos pos env ov (args.length + ([] : List Keyword).length) (backTo pos (starEach args env)) []) = _
  rw [attributeBase_plain ho]
  have e : ∀ ov, methodCall o name apos pos env ov (args.length + ([] : List Keyword).length) (backTo pos (starEach args env)) [] = (do
      let (f, first) ← holding [ov] (getMethod ov name (do return (← importBound o env).getD true))
      callWith pos f first (backTo pos (starEach args env)) []) := fun ov => by
    unfold methodCall
    rw [hf]
    unfold methodCallPos calleeOf
    rw [hl]
    rfl
  simp only [e]

section
variable {a : Addr} {A : Around} {E : Value → Shared → Prop}
theorem lst_ty (hr : HRel prog w σ s.heap) (h : isLst (σ a) = true) : s.TypeIs (.ref a) "list" ∧ ∀ b, Value.ref a = .ref b → ∃ o, s.heap.get? b = some o ∧ o.dict = none := by
  cases q : σ a with
  | none => rw [q] at h; exact Bool.noConfusion h
  | some o => cases o with
    | list xs =>
      obtain ⟨us, n, g, _⟩ := hr _ _ q
      exact ⟨⟨_, g, rfl⟩, fun b e => by cases e; exact ⟨_, g, rfl⟩⟩
    | _ => rw [q] at h; exact Bool.noConfusion h
theorem dct_ty (hr : HRel prog w σ s.heap) (h : isDct (σ a) = true) : s.TypeIs (.ref a) "dict" ∧ ∀ b, Value.ref a = .ref b → ∃ o, s.heap.get? b = some o ∧ o.dict = none := by
  have dI : ∀ {es : List (Int × AV)} {o : AO}, asI o = some es → σ a = some o → s.TypeIs (.ref a) "dict" ∧ ∀ b, Value.ref a = .ref b → ∃ o, s.heap.get? b = some o ∧ o.dict = none := fun e q => by
    obtain ⟨kvs, D, _⟩ := asI_ok (hr _ _ q) e; exact ⟨D.typeIs, D.mapOf.noDict⟩
  cases q : σ a with
  | none => rw [q] at h; exact Bool.noConfusion h
  | some o => cases o with
    | dict0 => exact dI (es := []) rfl q
    | dictI es => exact dI (es := es) rfl q
    | dictS es => obtain ⟨kvs, D, _⟩ := asS_ok (es := es) (hr _ _ q) rfl; exact ⟨D.typeIs, D.mapOf.noDict⟩
    | dictP es => obtain ⟨kvs, D, _⟩ := asP_ok (es := es) (hr _ _ q) rfl; exact ⟨D.typeIs, dictOfH_noDict D⟩
    | _ => rw [q] at h; exact Bool.noConfusion h
theorem bm_get' {m : Bm} {pl : Sem Bool} {P : Value × List Value → Shared → Prop} (hr : HRel prog w σ s.heap) (h : bmTy m (σ a) = true) (k : P (.builtin m.id, [.ref a]) s) : wpAny (model prog w) A (getMethod (.ref a) m.name pl) P E s := by
  cases m with
  | append => exact getMethod_builtin (lst_ty hr h).1 PySem.F.plainAttrs_list PySem.F.slot_list_append PySem.F.type_list_append (lst_ty hr h).2 k
  | pop => exact getMethod_builtin (lst_ty hr h).1 PySem.F.plainAttrs_list PySem.F.slot_list_pop PySem.F.type_list_pop (lst_ty hr h).2 k
  | extend => exact getMethod_builtin (lst_ty hr h).1 PySem.F.plainAttrs_list PySem.F.slot_list_extend PySem.F.type_list_extend (lst_ty hr h).2 k
  | index => exact getMethod_builtin (lst_ty hr h).1 PySem.F.plainAttrs_list PySem.F.slot_list_index PySem.F.type_list_index (lst_ty hr h).2 k
  | get => exact getMethod_builtin (dct_ty hr h).1 PySem.F.plainAttrs_dict PySem.F.slot_dict_get PySem.F.type_dict_get (dct_ty hr h).2 k
end

theorem bmOf_name {x : Str} {m : Bm} (h : bmOf x = some m) : x = m.name :=
  iElse h (fun z e => e ▸ z) fun h => iElse h (fun z e => e ▸ z) fun h => iElse h (fun z e => e ▸ z) fun h => iElse h (fun z e => e ▸ z) fun h => iIf h (fun z e => e ▸ z)

theorem keeps_id (M : Model) (m : Bm) (h : Heap) : ∃ k, (k = Keeper.frame ∨ k = Keeper.machine ∨ k = Keeper.boundFrame) ∧ Looks M h (keeperOf (.builtin m.id)) k :=
  ⟨.machine, .inr (.inl rfl), Looks.of_pure rfl⟩

theorem callMeth_ok (LK : LibOK L) (ih : SndE prog w L n r) (c : CxOK w L n C) (hN : C.env.scope.names = N) (i : Inv prog C l σ s.heap) {o : Expr} {x : Str} {ap pos : Pos} {args : List Expr} (h : evE prog w L n r N (.Call (.Attribute o x ap) args [] pos) l σ Q) :
    wpAny (model prog w) C.A (eval (.Call (.Attribute o x ap) args [] pos) C.env) (PV prog w C.lo σ s Q) NoE s := by
  obtain ⟨hh, h5⟩ := gd.t h
  rw [Bool.and_eq_true, Bool.and_eq_true, Bool.and_eq_true, Bool.not_eq_true'] at hh
  obtain ⟨⟨⟨h1, h2⟩, h3⟩, h4⟩ := hh
  have h3 : args.length < 30 := Nat.le_of_ble_eq_true h3
  have hp : ((backTo pos (starEach args C.env)).any (·.1) || ([] : List (Option Str × Sem Value)).any (·.1.isNone)) = false := by rw [plain_args pos C.env args h4]; rfl
  refine MethodCall_ (seqP (ih C N l σ s o _ c hN i h5) fun h₁ tk₁ σ₁ ov u st hr rv q => ?_) (method_eq h1 h2 h3 h4)
  have i₁ := c.step i st hr
  refine iR q fun a e q => ?_
  subst e
  cases rv
  refine iN q (fun cl d fs e q => iSA q fun f hf q => ?_) fun e q => iSM q fun m hm q => ?_
  · obtain ⟨e1, e2, e3, e4⟩ := LK.met _ _ _ hf
    refine metA_ok (s := { s with heap := h₁, toks := tk₁ }) hr (c.libIn i₁) e e1 e2 e3 q.1 ?_
    refine callWith_of (P := L.K.In) hp (keeps_K e4) (args_eval ih c hN i₁ q.2 fun h₂ tk₂ σ₂ as vs st₂ hr₂ rv₂ q₂ => ?_)
    have i₂ := c.step i₁ st₂ hr₂
    exact ⟨c.libIn i₂, Post.lifts (st.trans st₂) (q₂.run C { s with heap := h₂, toks := tk₂ } (.ref a :: vs) c (i₂.base c.weq) (.cons rfl rv₂))⟩
  · rw [bmOf_name hm]
    refine bm_get' (s := { s with heap := h₁, toks := tk₁ }) hr q.1 ?_
    refine callWith_of (P := fun _ => True) hp (fun h _ => keeps_id _ m h) (args_eval ih c hN i₁ q.2 fun h₂ tk₂ σ₂ as vs st₂ hr₂ rv₂ q₂ => ⟨trivial, ?_⟩)
    have i₂ := c.step i₁ st₂ hr₂
    exact Post.lifts (st.trans st₂) (bm_call (s := { s with heap := h₂, toks := tk₂ }) hr₂ (c.noSys i₂) c.cline rv₂ q₂)
end
end Mine.Internal


namespace Mine.Internal

/-- one object outside σ, none of the frame's, is changed -/
theorem Inv.change {prog C l σ h h'} (i : Inv prog C l σ h) {a : Addr} {oa : Obj} (e : ∀ b o, b ≠ a → h.get? b = some o → h'.get? b = some o) (ha : h.get? a = some oa) (ni : ¬ isImm oa) (nc : ∀ v, oa.data ≠ .cell v)
    (hs : σ a = none) (h1 : C.hf.get? a = none) (h2 : a ≠ C.Lf) (h3 : a ≠ C.env.locals) : Inv prog C l σ h' := by
  have k : Imm h h' := fun b o q im => e b o (by rintro rfl; rw [ha] at q; cases q; exact ni im) q
  obtain ⟨m, F⟩ := i.fr
  refine ⟨⟨m, Fr.step F (fun b o q q' => e b o (by rintro rfl; rw [h1] at q; cases q) q') fun o q => e _ o h2.symm q⟩, i.own, i.hrel.step k fun b ob q q' => e b ob (by rintro rfl; exact q hs) q',
    i.lrel.step k (fun o q => e _ o h3.symm q) fun b o v q d => e b o (by rintro rfl; rw [ha] at q; cases q; exact nc v d) q⟩
theorem Inv.grow {prog C l σ h h'} (i : Inv prog C l σ h) (e : ∀ b o, h.get? b = some o → h'.get? b = some o) : Inv prog C l σ h' :=
  i.step (Step.grow e) (i.hrel.grow e)
theorem Inv.side {prog C l σ h} (i : Inv prog C l σ h) {a : Addr} (e : h.get? a = none) : C.hf.get? a = none ∧ a ≠ C.Lf ∧ a ≠ C.env.locals ∧ σ a = none := by
  obtain ⟨m, F⟩ := i.fr
  refine ⟨?_, ?_, ?_, i.hrel.free e⟩
  · cases q : C.hf.get? a with
    | none => rfl
    | some o => have := F.keep a o q; rw [e] at this; cases this
  · rintro rfl; obtain ⟨o, _, _, g, _⟩ := F.ns; rw [e] at g; cases g
  · rintro rfl; obtain ⟨_, ⟨o, _, _, g, _⟩, _⟩ := i.lrel.loc; rw [e] at g; cases g
theorem Step.noX {lo σ h σ' h'} (st : Step lo (fun b => h.get? b = none) σ h σ' h') : Step lo NoX σ h σ' h' :=
  ⟨fun b o e q _ => st.keep b o e q (by show ¬ h.get? b = none; rw [e]; simp), fun a q q' => ⟨.inl ((st.fresh a q q').1.elim id id), (st.fresh a q q').2⟩, fun a z _ => st.alive a z z⟩
theorem Step.but {lo σ h h'} {X : Addr → Prop} {a : Addr} (e : ∀ b o, b ≠ a → h.get? b = some o → h'.get? b = some o) (x : X a) : Step lo X σ h σ h' :=
  ⟨fun b o q _ n => e b o (by rintro rfl; exact n x) q, fun _ x y => absurd x y, fun b q n => by
    cases y : h.get? b with
    | none => exact absurd y q
    | some o => rw [e b o (by rintro rfl; exact n x) y]; simp⟩
theorem Step.stays {lo σ h σ' h'} (st : Step lo NoX σ h σ' h') {a : Addr} {o : Obj} (e : h.get? a = some o) (q : σ a = none) : σ' a = none := by
  cases z : σ' a with
  | none => rfl
  | some _ => have := (st.fresh a q (by rw [z]; simp)).1.resolve_right id; rw [e] at this; cases this

/-! ### displays of dicts -/
section
variable {prog : Program} {w : World} {L : Lib} {n : Nat} {r : Ev} {C : Cx} {N : List (Str × NameKind)} {l : Loc} {σ : AH} {s : Shared} {Q : AV → AH → Prop}

noncomputable abbrev PRel (h : Heap) (a : AV × AV) (v : Value × Value) : Prop := VRel h a.1 v.1 ∧ VRel h a.2 v.2
theorem snd_kvs (ih : SndE prog w L n r) (c : CxOK w L n C) (hN : C.env.scope.names = N) (pos : Pos) : ∀ (ks : List (Option Expr)) (vs : List Expr) (σ : AH) (s : Shared) (Q : List (AV × AV) → AH → Prop), Inv prog C l σ s.heap → wpKVs (r.E N) ks vs l σ Q →
    wpAny (model prog w) C.A (evalPairs (pairTrees ks vs C.env pos)) (Post prog w C.lo (fun h a v => All2 (PRel h) a v) σ s Q) NoE s
  | [], [], σ, s, Q, i, h => pairTrees_nil_walk (Post.here (a := []) (c.hr i) .nil h)
  | some k :: ks, v :: vs, σ, s, Q, i, h => by
    refine pairTrees_cons_walk (seqP (ih C N l σ s k _ c hN i h) fun h₁ tk₁ σ₁ a u st hr rv q => ?_)
    have i₁ := c.step i st hr
    refine seqP (ih C N l σ₁ _ v _ c hN i₁ q) fun h₂ tk₂ σ₂ b u₂ st₂ hr₂ rv₂ q₂ => ?_
    have i₂ := c.step i₁ st₂ hr₂
    refine seqP (snd_kvs ih c hN pos ks vs σ₂ _ _ i₂ q₂) fun h₃ tk₃ σ₃ as us st₃ hr₃ rvs q₃ => ?_
    exact ⟨h₃, tk₃, σ₃, (a, b) :: as, rfl, (st.trans st₂).trans st₃, hr₃, .cons ⟨(rv.mono (st₂.imm0 hr)).mono (st₃.imm0 hr₂), rv₂.mono (st₃.imm0 hr₂)⟩ rvs, q₃⟩
  | [], _ :: _, _, _, _, _, h => h.elim
  | none :: _, _, _, _, _, _, h => h.elim
  | some _ :: _, [], _, _, _, _, h => h.elim

theorem keysI_ok {h : Heap} {kvs : List (AV × AV)} : ∀ {es : List (Int × AV)} {vs : List (Value × Value)}, keysI kvs = some es → All2 (PRel h) kvs vs → ∃ kv, Carries (intKind prog w) vs kv ∧ All2 (EK h) es kv := by
  induction kvs with
  | nil => intro es vs e r; cases r; cases e; exact ⟨[], trivial, .nil⟩
  | cons p r ih =>
    intro es vs e a
    cases a with
    | @cons _ u _ us x y =>
    obtain ⟨k, v⟩ := p
    cases k with
    | int k =>
      obtain ⟨es', e1, rfl⟩ := Option.map_eq_some_iff.mp (show (keysI r).map ((k, v) :: ·) = some es from e)
      obtain ⟨kv, a, b⟩ := ih e1 y
      obtain ⟨uk, uv⟩ := u
      obtain ⟨⟨t, ht⟩, x2⟩ := x
      dsimp only at ht x2
      subst ht
      exact ⟨(_, uv) :: kv, ⟨int_is, rfl, a⟩, .cons ⟨rfl, x2⟩ b⟩
    | _ => exact nS e
theorem keysS_ok {h : Heap} {kvs : List (AV × AV)} : ∀ {es : List (Str × AV)} {vs : List (Value × Value)}, keysS kvs = some es → All2 (PRel h) kvs vs → ∃ kv, Carries (PySem.strKind prog w) vs kv ∧ All2 (EK h) es kv := by
  induction kvs with
  | nil => intro es vs e r; cases r; cases e; exact ⟨[], trivial, .nil⟩
  | cons p r ih =>
    intro es vs e a
    cases a with
    | @cons _ u _ us x y =>
    obtain ⟨k, v⟩ := p
    cases k with
    | str k =>
      obtain ⟨es', e1, rfl⟩ := Option.map_eq_some_iff.mp (show (keysS r).map ((k, v) :: ·) = some es from e)
      obtain ⟨kv, a, b⟩ := ih e1 y
      obtain ⟨uk, uv⟩ := u
      obtain ⟨⟨t, ht⟩, x2⟩ := x
      dsimp only at ht x2
      subst ht
      exact ⟨(_, uv) :: kv, ⟨str_is, rfl, a⟩, .cons ⟨rfl, x2⟩ b⟩
    | _ => exact nS e
theorem putAll_ok {K : Type} [DecidableEq K] {h : Heap} {es : List (K × AV)} : ∀ {kv : List (K × Value)} {acc : List (K × AV)} {accv : List (K × Value)}, All2 (EK h) acc accv → All2 (EK h) es kv → All2 (EK h) (putAll acc es) (merged accv kv) := by
  induction es with
  | nil => intro kv acc accv a r; cases r; exact a
  | cons p es ih =>
    intro kv acc accv a r
    cases r with
    | @cons _ b _ bs x y =>
    obtain ⟨k, v⟩ := p
    obtain ⟨k', v'⟩ := b
    obtain ⟨e, rv⟩ := x
    dsimp only at e rv
    subst e
    exact ih (acc := putK acc k' v) (accv := stored accv k' v') (EK.put a k' rv) y

theorem PV.dictNew {ao : AO} {h' : Heap} {tk : Nat} {a : Addr} (hr : HRel prog w σ s.heap) (hl : C.lo ≤ a) (hn : s.heap.get? a = none)
    (k : ∀ b o, s.heap.get? b = some o → h'.get? b = some o) (o : ORel prog w h' a ao) (q : ∀ a, σ a = none → Q (.ref a) (upd σ a ao)) :
    PV prog w C.lo σ s Q (.ref a) { s with heap := h', toks := tk } := by
  have sn := hr.free hn
  refine ⟨h', tk, upd σ a ao, .ref a, rfl, ⟨fun b o e _ _ => k b o e, fun b x y => ?_, fun b z _ => ?_⟩, ?_, rfl, q a sn⟩
  · by_cases z : b = a
    · subst z; exact ⟨.inl hn, hl⟩
    · rw [upd_ne z] at y; exact absurd x y
  · cases x : s.heap.get? b with
    | none => exact absurd x z
    | some o => rw [k b o x]; simp
  · intro b o' z
    by_cases x : b = a
    · subst x; rw [upd_self] at z; cases z; exact o
    · rw [upd_ne x] at z; exact (hr b o' z).mono (fun c o' e' _ => k c o' e') fun ob e' => k b ob e'

/-- a new object at a, σ₁ at h₁ has grown out of σ with the object there but unborne -/
theorem PV.dictLate {ao : AO} {σ₁ : AH} {h₁ h' : Heap} {tk tk₁ : Nat} {a : Addr} {ob : Obj} (hl : C.lo ≤ a) (hn : s.heap.get? a = none) (st : Step C.lo NoX σ s.heap σ₁ h₁) (hr : HRel prog w σ₁ h₁) (hs : σ₁ a = none) (g : h₁.get? a = some ob) (ni : ¬ isImm ob)
    (sb : Heap.SameBut a h₁ h') (o : ORel prog w h' a ao) (hσ : σ a = none) (q : ∀ a, σ₁ a = none → Q (.ref a) (upd σ₁ a ao)) :
    PV prog w C.lo σ s Q (.ref a) { s with heap := h', toks := tk } := by
  have k : Imm h₁ h' := fun b ob' e im => (sb.2 b (by rintro rfl; rw [g] at e; cases e; exact ni im)).trans e
  refine ⟨h', tk, upd σ₁ a ao, .ref a, rfl, ⟨fun b o' e z _ => (sb.2 b (by rintro rfl; rw [hn] at e; cases e)).trans (st.keep b o' e z id), fun b x y => ?_, fun b z _ => ?_⟩, ?_, rfl, q a hs⟩
  · by_cases z : b = a
    · subst z; exact ⟨.inl hn, hl⟩
    · rw [upd_ne z] at y; exact st.fresh b x y
  · by_cases x : b = a
    · subst x; obtain ⟨o', e, _⟩ := o.has; rw [e]; simp
    · rw [sb.2 b x]; exact st.alive b z id
  · intro b o' z
    by_cases x : b = a
    · subst x; rw [upd_self] at z; cases z; exact o
    · rw [upd_ne x] at z; exact (hr b o' z).mono k fun ob e' => (sb.2 b x).trans e'

theorem iDict {kvs : List (AV × AV)} {G : Prop} (h : wpDict kvs σ Q) (k1 : ∀ es, keysI kvs = some es → (∀ c, σ c = none → Q (.ref c) (upd σ c (.dictI (putAll [] es)))) → G)
    (k2 : ∀ es, keysS kvs = some es → (∀ c, σ c = none → Q (.ref c) (upd σ c (.dictS (putAll [] es)))) → G) : G := by
  cases kvs with
  | nil => exact iSS h k2
  | cons p r =>
    obtain ⟨a, b⟩ := p
    cases a with
    | int x => exact iSI h k1
    | _ => exact iSS h k2
theorem dict_end {K : Type} [DecidableEq K] {knd : PySem.KeyKind prog w K} {f : List (K × AV) → AO} {h₁ : Heap} {tk₁ : Nat} {σ₁ : AH} {us : List (Value × Value)} {kv : List (K × Value)} {es : List (K × AV)}
    (hf : ∀ h a es, (∃ kvs, h.DictOf knd a kvs ∧ All2 (EK h) es kvs) → ORel prog w h a (f es)) (c : CxOK w L n C) (i : Inv prog C l σ s.heap) (st : Step C.lo NoX σ (s.heap.push { cls := .type "dict", data := .dict #[] }) σ₁ h₁) (hr : HRel prog w σ₁ h₁)
    (cr : Carries knd us kv) (b : All2 (EK h₁) es kv) (hl : us.length ≤ 15) (q : ∀ c, σ₁ c = none → Q (.ref c) (upd σ₁ c (f (putAll [] es)))) :
    wpAny (model prog w) C.A (storeAll s.heap.objs.size us) (fun _ s₂ => PV prog w C.lo σ s Q (.ref s.heap.objs.size) s₂) NoE { s with heap := h₁, toks := tk₁ } := by
  have g0 : (s.heap.push { cls := .type "dict", data := .dict #[] }).get? s.heap.objs.size = some (dictOf [] 0) := Heap.get?_push_size _ rfl
  have n0 := fresh_none (h := s.heap)
  have s0 := (c.hr i).free n0
  have g1 : h₁.get? s.heap.objs.size = some (dictOf [] 0) := st.keep _ _ g0 s0 id
  have ni : ¬ isImm (dictOf [] 0) := by rintro ⟨z | z, _⟩ <;> simp at z
  refine wpAny_storeAll us kv [] { s with heap := h₁, toks := tk₁ } _ cr (dictOf_nil g1) (by have e := cr.length; rw [sizeLine_eq, List.length_nil]; (first | lia | omega)) fun h' D sb => ?_
  have im : Imm h₁ h' := fun b ob' e im => (sb.2 b (by rintro rfl; rw [g1] at e; cases e; exact ni im)).trans e
  exact PV.dictLate (tk₁ := tk₁) (c.size i) n0 ((Step.grow fun b o e => Heap.get?_push_of_some _ e).trans st) hr (st.stays g0 s0) g1 ni sb (hf _ _ _ ⟨_, D, (putAll_ok .nil b).mono fun _ _ z => z.mono im⟩) s0 q
theorem dict_ok (ih : SndE prog w L n r) (c : CxOK w L n C) (hN : C.env.scope.names = N) (i : Inv prog C l σ s.heap) {k : Option Expr} {ks : List (Option Expr)} {vs : List Expr} {pos : Pos} (h : evE prog w L n r N (.Dict (k :: ks) vs pos) l σ Q) :
    wpAny (model prog w) C.A (eval (.Dict (k :: ks) vs pos) C.env) (PV prog w C.lo σ s Q) NoE s := by
  obtain ⟨hh, h⟩ := gd.t h
  rw [Bool.and_eq_true, Bool.and_eq_true, beq_iff_eq] at hh
  refine wpAny_Dict_any hh.1.2 hh.2 (fun e => by cases e) (Nat.le_of_ble_eq_true hh.1.1) (seqP (snd_kvs ih c hN pos (k :: ks) vs σ { s with heap := s.heap.push { cls := .type "dict", data := .dict #[] } } _ (i.grow fun b o e => Heap.get?_push_of_some _ e) h) fun h₁ tk₁ σ₁ kvs us st hr rv q => ?_)
  have hl : us.length ≤ 15 := by rw [← rv.length]; exact Nat.le_of_ble_eq_true (gd.t q).1
  refine iDict (gd.t q).2 (fun es ee q => ?_) fun es ee q => ?_
  · obtain ⟨kv, a, b⟩ := keysI_ok (prog := prog) (w := w) ee rv
    exact dict_end (f := .dictI) (fun _ _ _ r => r) c i st hr a b hl q
  · obtain ⟨kv, a, b⟩ := keysS_ok (prog := prog) (w := w) ee rv
    exact dict_end (f := .dictS) (fun _ _ _ r => r) c i st hr a b hl q

/-! ### joined texts -/
theorem len10 {x : Str} (h : x.length ≤ 10000) : x.length ≤ sizeLine := Nat.le_trans h (by decide)
theorem snd_parts (ih : SndE prog w L n r) (c : CxOK w L n C) (hN : C.env.scope.names = N) (es : List Expr) : ∀ (acc : Str) (σ : AH) (s : Shared) (P : Str → Shared → Prop), Inv prog C l σ s.heap → wpParts (r.E N) es acc l σ Q →
    (∀ h₁ tk₁ σ₁ x, Step C.lo NoX σ s.heap σ₁ h₁ → HRel prog w σ₁ h₁ → x.length ≤ 10000 → Q (.str x) σ₁ → P x { s with heap := h₁, toks := tk₁ }) →
    Joins (model prog w) C.A NoE (evalEach es C.env) acc P s := by
  induction es with
  | nil => intro acc σ s P i h k; exact k s.heap s.toks σ acc Step.refl (c.hr i) h.1 h.2
  | cons e es ihs =>
    intro acc σ s P i h k
    show wpAny _ _ (eval e C.env) _ _ _
    cases e with
    | FormattedValue e' cv sp p =>
      obtain ⟨rfl, rfl, h⟩ := h
      refine wpAny_FormattedValue_plain (seqP (ih C N l σ s e' _ c hN i h) fun h₁ tk₁ σ₁ v u st hr rv q => ?_)
      have rest : ∀ tk x, wpParts (r.E N) es (acc ++ x) l σ₁ Q → Joins (model prog w) C.A NoE (evalEach es C.env) (acc ++ x) P { s with heap := h₁, toks := tk } := fun tk x q => ihs _ σ₁ { s with heap := h₁, toks := tk } P (c.step i st hr) q fun h₂ tk₂ σ₂ x st₂ hr₂ hx qx => k h₂ tk₂ σ₂ x (st.trans st₂) hr₂ hx qx
      cases v with
      | str x =>
        obtain ⟨t, rfl⟩ := rv
        exact wpAny_formatField_str ⟨_, _, rfl, len10 q.1, rest _ _ q.2.2⟩ ⟨_, _, rfl, len10 q.1, rest _ _ q.2.2⟩ (len10 q.2.1)
      | int z =>
        obtain ⟨t, rfl⟩ := rv
        refine wpAny_formatField_int ?_ ⟨_, _, rfl, len10 q.2.1, rest _ _ q.2.2⟩
        have hz : z.natAbs < 1000000000 := q.1
        by_cases h0 : z.natAbs = 0
        · rw [h0]; decide +kernel
        · have h30 : z.natAbs.log2 < 30 := (Nat.log2_lt h0).mpr (Nat.lt_trans hz (by decide))
          (first | lia | omega)
      | _ => exact q.elim
    | Constant cv k' p =>
      cases cv with
      | str x => exact Calls.Constant_str ⟨x, _, rfl, len10 h.1, ihs _ σ _ P i h.2 k⟩
      | _ => exact h.elim
    | _ => exact h.elim
end
end Mine.Internal


namespace Mine.Internal

/-! ### comprehensions -/
noncomputable def closeS (cells : List (Str × Addr)) (cs : List (Str × Addr)) (p : Str × NameKind) : List (Str × Addr) := if p.2 == .free then (match cells.lookup p.1 with | some a => (p.1, a) :: cs | none => cs) else cs
noncomputable def closeL (names : List (Str × NameKind)) (cells : List (Str × Addr)) (acc : List (Str × Addr)) : List (Str × Addr) := names.foldl (closeS cells) acc
theorem closeS_free {cells acc : List (Str × Addr)} {nm : Str} {a : Addr} (h : cells.lookup nm = some a) : closeS cells acc (nm, .free) = (nm, a) :: acc := by
  unfold closeS
  rw [if_pos (show ((nm, NameKind.free).2 == NameKind.free) = true from rfl), h]
theorem closeS_ind {cells acc : List (Str × Addr)} {p : Str × NameKind} {M : List (Str × Addr) → Prop} (h : M acc) (k : ∀ a, cells.lookup p.1 = some a → M ((p.1, a) :: acc)) : M (closeS cells acc p) := by
  unfold closeS
  by_cases z : (p.2 == .free) = true
  · rw [if_pos z]
    cases q : cells.lookup p.1 with
    | none => exact h
    | some a => exact k a q
  · rw [if_neg z]; exact h

theorem closure_ok {sc : Scope} {env : Env} (h : ∀ p ∈ sc.names, p.2 = .free → ∃ a, env.cells.lookup p.1 = some a) : closureFor sc env = pure (closeL sc.names env.cells []) := by
  have key : ∀ (names : List (Str × NameKind)) (acc : List (Str × Addr)), (∀ p ∈ names, p.2 = .free → ∃ a, env.cells.lookup p.1 = some a) →
      (forIn names acc fun p cs => (match p with | (name, kind) => if (kind == .free) = true then do let a ← cellOf env name; pure (ForInStep.yield ((name, a) :: cs)) else pure (ForInStep.yield cs) : Sem (ForInStep (List (Str × Addr))))) = pure (closeL names env.cells acc) := by
    intro names
    induction names with
    | nil => intro acc _; rfl
    | cons p r ih =>
      intro acc f
      obtain ⟨nm, k⟩ := p
      rw [List.forIn_cons]
      have f' : ∀ p ∈ r, p.2 = .free → ∃ a, env.cells.lookup p.1 = some a := fun p hp => f p (List.mem_cons_of_mem _ hp)
      show _ = pure (closeL r env.cells (closeS env.cells acc (nm, k)))
      by_cases hk : k = .free
      · subst hk
        obtain ⟨a, ha⟩ := f _ (List.mem_cons_self ..) rfl
        have e1 : cellOf env nm = pure a := by unfold cellOf; rw [show env.cells.lookup nm = some a from ha]
        rw [closeS_free ha]
        dsimp only
        rw [if_pos (show (NameKind.free == NameKind.free) = true from rfl), e1, pure_bind, pure_bind]
        exact ih _ f'
      · have e : (k == NameKind.free) = false := by simpa using hk
        have e2 : closeS env.cells acc (nm, k) = acc := by unfold closeS; exact if_neg (by rw [e]; decide)
        rw [e2]
        dsimp only
        rw [if_neg (by rw [e]; decide), pure_bind]
        exact ih _ f'
  unfold closureFor
  have := key sc.names [] h
  simpa using this

theorem closeL_sub {cells : List (Str × Addr)} (names : List (Str × NameKind)) : ∀ (acc : List (Str × Addr)), (∀ y c, acc.lookup y = some c → cells.lookup y = some c) → ∀ y c, (closeL names cells acc).lookup y = some c → cells.lookup y = some c := by
  induction names with
  | nil => exact fun acc f => f
  | cons p r ih =>
    intro acc f
    refine ih (closeS cells acc p) (closeS_ind (M := fun acc => ∀ y c, acc.lookup y = some c → cells.lookup y = some c) f fun a ha y c e => ?_)
    by_cases z : y = p.1
    · subst z; simp at e; subst e; exact ha
    · rw [List.lookup_cons, show (y == p.1) = false from by simpa using z] at e; exact f y c e
theorem closeL_keep {cells : List (Str × Addr)} {y : Str} (names : List (Str × NameKind)) : ∀ (acc : List (Str × Addr)), (acc.lookup y).isSome = true → ((closeL names cells acc).lookup y).isSome = true := by
  induction names with
  | nil => exact fun acc f => f
  | cons p r ih =>
    intro acc f
    refine ih (closeS cells acc p) (closeS_ind (M := fun acc => (acc.lookup y).isSome = true) f fun a ha => ?_)
    rw [List.lookup_cons]
    cases y == p.1 with
    | true => rfl
    | false => exact f
theorem closeL_has {cells : List (Str × Addr)} {y : Str} {c : Addr} (h : cells.lookup y = some c) (names : List (Str × NameKind)) : ∀ (acc : List (Str × Addr)), (y, NameKind.free) ∈ names → ((closeL names cells acc).lookup y).isSome = true := by
  induction names with
  | nil => intro _ m; cases m
  | cons p r ih =>
    intro acc m
    show ((closeL r cells (closeS cells acc p)).lookup y).isSome = true
    rcases List.mem_cons.mp m with q | q
    · subst q
      refine closeL_keep r _ ?_
      rw [closeS_free h]
      simp
    · exact ih _ q

theorem relN_eq {sc : Scope} {env : Env} (hk : env.scope.kind = .function) : (relabel sc env).names = relN sc.names env.scope.names := by
  unfold relabel relN
  dsimp only
  refine List.map_congr_left fun p _ => ?_
  obtain ⟨nm, k⟩ := p
  simp only [hk, beq_self_eq_true, Bool.and_true, Env.kindOf]

theorem relN_cell {N : List (Str × NameKind)} {y : Str} {sc : List (Str × NameKind)} (h : ∀ p ∈ sc, p.2 ≠ .cell) (e : (relN sc N).lookup y = some .cell) : (y, NameKind.free) ∈ sc ∧ N.lookup y = some .cell := by
  induction sc with
  | nil => exact nS e
  | cons p r ih =>
    obtain ⟨nm, k⟩ := p
    have hk : k ≠ .cell := h (nm, k) (List.mem_cons_self ..)
    unfold relN at e
    rw [List.map_cons] at e
    dsimp only at e
    by_cases z : y = nm
    · subst z
      by_cases q : (k == .free && N.lookup y == some .cell) = true
      · rw [Bool.and_eq_true, beq_iff_eq, beq_iff_eq] at q
        obtain ⟨rfl, q2⟩ := q
        exact ⟨List.mem_cons_self .., q2⟩
      · rw [if_neg q, List.lookup_cons, show (y == y) = true from by simp] at e
        exact absurd (Option.some.inj e) hk
    · have e' : (relN r N).lookup y = some .cell := by
        have hb : (y == nm) = false := by simpa using z
        by_cases q : (k == .free && N.lookup nm == some .cell) = true
        · rw [if_pos q, List.lookup_cons, hb] at e; exact e
        · rw [if_neg q, List.lookup_cons, hb] at e; exact e
      obtain ⟨a, b⟩ := ih (fun p hp => h p (List.mem_cons_of_mem _ hp)) e'
      exact ⟨List.mem_cons_of_mem _ a, b⟩
theorem relN_free {N : List (Str × NameKind)} {y : Str} {sc : List (Str × NameKind)} (h : ∀ p ∈ sc, p.2 = .free → N.lookup p.1 = some .cell) : (relN sc N).lookup y ≠ some .free := by
  induction sc with
  | nil => exact fun e => nS e
  | cons p r ih =>
    obtain ⟨nm, k⟩ := p
    intro e
    unfold relN at e
    rw [List.map_cons] at e
    dsimp only at e
    by_cases z : y = nm
    · subst z
      by_cases q : (k == .free && N.lookup y == some .cell) = true
      · rw [if_pos q, List.lookup_cons, show (y == y) = true from by simp] at e; cases e
      · rw [if_neg q, List.lookup_cons, show (y == y) = true from by simp] at e
        have hk := Option.some.inj e
        refine q ?_
        rw [hk, h (y, k) (List.mem_cons_self ..) hk]; decide
    · have hb : (y == nm) = false := by simpa using z
      refine ih (fun p hp => h p (List.mem_cons_of_mem _ hp)) ?_
      by_cases q : (k == .free && N.lookup nm == some .cell) = true
      · rw [if_pos q, List.lookup_cons, hb] at e; exact e
      · rw [if_neg q, List.lookup_cons, hb] at e; exact e
theorem compOK_of {sc N : List (Str × NameKind)} {x : Str} (h : compOK sc N x = true) : sc.lookup x = some .local ∧ (∀ p ∈ sc, p.2 ≠ .cell) ∧ (∀ p ∈ sc, p.2 = .local → sc.lookup p.1 = some .local) ∧ (∀ p ∈ sc, p.2 = .free → N.lookup p.1 = some .cell) := by
  unfold compOK at h
  rw [Bool.and_eq_true, beq_iff_eq, List.all_eq_true] at h
  refine ⟨h.1, fun p hp e => ?_, fun p hp e => ?_, fun p hp e => ?_⟩
  · have := h.2 p hp; rw [e] at this; simp at this
  · have := h.2 p hp; rw [e] at this; simpa using this
  · have := h.2 p hp; rw [e] at this; simpa using this

section
variable {prog : Program} {w : World} {L : Lib} {n : Nat} {r : Ev} {C : Cx} {N : List (Str × NameKind)} {l : Loc} {σ : AH} {s : Shared}

/-- the comprehension's own context -/
noncomputable abbrev compCx (C : Cx) (sc : Scope) (cl : List (Str × Addr)) (Cl : Addr) : Cx := { C with env := compEnvC sc cl Cl C.env }
theorem compCx_ok (c : CxOK w L n C) {sc : Scope} (hk : sc.kind = .function) (cl : List (Str × Addr)) (hcl : ∀ y a, cl.lookup y = some a → C.env.cells.lookup y = some a) (Cl : Addr) : CxOK w L n (compCx C sc cl Cl) :=
  { weq := c.weq, below := c.below, frames := c.frames, frame := c.frame, fkind := c.fkind, X := c.X, T := c.T, hh := c.hh, lolf := c.lolf, sys := c.sys, depth := c.depth, units := c.units,
    kind := hk, glob := c.glob, bins := c.bins, frm := c.frm, cells := fun x a e => c.cells x a (hcl x a e) }

theorem compInv (c : CxOK w L n C) (hN : C.env.scope.names = N) {sc : Scope} {x : Str} (hok : compOK sc.names N x = true) {h : Heap} (i : Inv prog C l σ h) {Cl : Addr} {m : Str → Option Value} (hn : h.Ns Cl m) (hs : σ Cl = none) {v : AV} {u : Value} (hm : m x = some u) (rv : VRel h v u) :
    Inv prog (compCx C sc (closeL sc.names C.env.cells []) Cl) (locC (relN sc.names N) l x v) σ h := by
  obtain ⟨h1, h2, h3, h4⟩ := compOK_of hok
  have hnm : (relabel sc C.env).names = relN sc.names N := by rw [relN_eq c.kind, hN]
  have sub := closeL_sub (cells := C.env.cells) sc.names [] (fun y c e => by cases e)
  refine ⟨i.fr, fun a q => ⟨(i.own a q).1, (i.own a q).2.1, (i.own a q).2.2.1, ?_⟩, i.hrel, ?_⟩
  · rintro rfl; exact q hs
  · have hcell : ∀ y, (relN sc.names N).lookup y = some .cell → ∃ a, (closeL sc.names C.env.cells []).lookup y = some a ∧ C.env.cells.lookup y = some a := fun y e => by
      obtain ⟨a, b⟩ := relN_cell h2 e
      obtain ⟨ca, _, e1, _⟩ := i.lrel.has y (by show C.env.scope.names.lookup y = _; rw [hN]; exact b)
      have := closeL_has e1 sc.names [] a
      obtain ⟨a', ha'⟩ := Option.isSome_iff_exists.mp this
      exact ⟨a', ha', sub y a' ha'⟩
    refine ⟨⟨m, hn, fun y v' e q => ?_⟩, fun y v' e q => ?_, fun y e => ?_, fun y z a e1 e2 => i.lrel.apart y z a (sub y a e1) (sub z a e2), fun y a e => i.lrel.all y a (sub y a e)⟩
    · have q' : (relN sc.names N).lookup y = some .local := by rw [← hnm]; exact q
      unfold locC at e
      split at e
      · rename_i z; cases z; cases e; exact ⟨u, hm, rv⟩
      · rw [q'] at e; simp at e
    · have q' : (relN sc.names N).lookup y = some .cell := by
        rw [← hnm]
        rcases q with q | q
        · exact q
        · exact absurd (by rw [← hnm]; exact q) (relN_free h4 (N := N) (y := y))
      obtain ⟨a, e1, e2⟩ := hcell y q'
      have nx : y ≠ x := by
        rintro rfl
        have := lookup_relabel_local (env := C.env) h1
        have q2 : (relabel sc C.env).names.lookup y = some .local := this
        rw [hnm, q'] at q2; cases q2
      unfold locC at e
      rw [if_neg nx, if_pos q'] at e
      obtain ⟨cA, u', e3, e4, e5⟩ := i.lrel.cel y v' e (.inl (by show C.env.scope.names.lookup y = _; rw [hN]; exact (relN_cell h2 q').2))
      rw [e2] at e3; cases e3
      exact ⟨a, u', e1, e4, e5⟩
    · have q' : (relN sc.names N).lookup y = some .cell := by rw [← hnm]; exact e
      obtain ⟨a, e1, e2⟩ := hcell y q'
      obtain ⟨cA, v₀, e3, e4⟩ := i.lrel.has y (by show C.env.scope.names.lookup y = _; rw [hN]; exact (relN_cell h2 q').2)
      rw [e2] at e3; cases e3
      exact ⟨a, v₀, e1, e4⟩
end
end Mine.Internal


namespace Mine.Internal
section
variable {prog : Program} {w : World} {L : Lib} {n : Nat} {r : Ev} {C : Cx} {N : List (Str × NameKind)} {l : Loc} {σ : AH} {s : Shared} {A : Around} {E : Value → Shared → Prop}

theorem iter_self {v : AV} {I : Addr} {i : Nat} {xs : List AV} {Q : Value → Shared → Prop} (hh : A.handled = none) (hr : HRel prog w σ s.heap) (st : ItSt s.heap v I i) (e : items v σ = some xs) (q : Q (.ref I) s) :
    wpAny (model prog w) A (pyIter (.ref I)) Q E s := by
  refine iItems e (fun a e1 ex => ?_) (fun e1 => ?_) fun a b c e1 za zb zc e9 => ?_
  · subst e1
    obtain ⟨us, n, ga, y⟩ := hr _ _ ex
    have ne : a ≠ I := by rintro rfl; obtain ⟨o', g', c', d'⟩ := st; rw [ga] at g'; cases g'; simp at c'
    exact (Walks.list (prog := prog) (w := w) (A := A) hh I a ne us.toArray).self i s Q E ⟨st, listIs ga⟩ q
  · subst e1
    obtain ⟨a, us, n, ga, y, z⟩ := st
    have ne : a ≠ I := by rintro rfl; obtain ⟨o', g', c', d'⟩ := z; rw [ga] at g'; cases g'; simp at c'
    exact (Walks.tuple (prog := prog) (w := w) (A := A) hh I a ne us.toArray).self i s Q E ⟨z, tupIs ga⟩ q
  · subst e1
    have h0 := rangeSize_nonneg (a := a) (b := b) zc
    refine (Walks.range (prog := prog) (w := w) (A := A) hh I a c (Builtin.Range.rangeSize a b c).toNat).self i s Q E ?_ q
    have : (((Builtin.Range.rangeSize a b c).toNat : Nat) : Int) = Builtin.Range.rangeSize a b c := Int.toNat_of_nonneg h0
    show IsRangeIter _ _ _ _ _
    rw [this]; exact st

theorem append_raw {a : Addr} {us : List Value} {m : Nat} {v : Value} {Q : Value → Shared → Prop} (g : s.heap.get? a = some (listOf us.toArray m)) (hl : us.length ≤ 1000000)
    (h : ∀ h' m', Heap.SameBut a s.heap h' → h'.get? a = some (listOf (us ++ [v]).toArray m') → Q .none { s with heap := h' }) :
    wpAny (model prog w) A (call (.builtin "list.append") [.ref a, v]) Q E s := by
  refine call_meets PySem.F.slot_list_append ⟨_, g, rfl⟩ PySem.F.entry_list_append (PySem.F.args_list_append_2 _ _) (list_append a us.toArray m v (by rw [sizeLine_eq]; simp; (first | lia | omega))) ⟨g, ?_⟩
  obtain ⟨n', g'⟩ := listUpdate g (fun z => z.push v) (ws := us ++ [v]) (by simp)
  exact h _ n' (Heap.SameBut.update ..) g'

theorem tick {i k n : Nat} (h : i + k = n) (hlt : i < n) : k - 1 < k ∧ i + 1 + (k - 1) = n := by (first | lia | omega)
theorem ne_isImm_list {us : List Value} {m : Nat} : ¬ isImm (listOf us.toArray m) := by rintro ⟨z | z, _⟩ <;> simp at z

theorem objNs {h : Heap} {a : Addr} {m : Str → Option Value} (x : h.Ns a m) : ∃ o, h.get? a = some o ∧ ¬ isImm o ∧ ∀ v, o.data ≠ .cell v := by
  obtain ⟨o, es, ep, g, d, k, f⟩ := x
  exact ⟨o, g, fun z => z.2.1 es ep d, fun v => by rw [d]; simp⟩
theorem objIt {h : Heap} {v : AV} {I : Addr} {i : Nat} (x : ItSt h v I i) : ∃ o, h.get? I = some o ∧ ¬ isImm o ∧ ∀ v, o.data ≠ .cell v := by
  obtain ⟨o, n, vs, g, c, d, e⟩ := x.obj
  refine ⟨o, g, ?_, fun v => by rw [d]; simp⟩
  rintro ⟨z | z, _⟩ <;> rw [c] at z <;> cases z <;> rcases e with e | e | e <;> simp at e
theorem objList {us : List Value} {m : Nat} : ¬ isImm (listOf us.toArray m) ∧ ∀ v, (listOf us.toArray m).data ≠ .cell v := ⟨ne_isImm_list, fun v => by simp⟩
end
end Mine.Internal


namespace Mine.Internal
section
variable {prog : Program} {w : World} {L : Lib} {n : Nat} {r : Ev} {C : Cx} {N : List (Str × NameKind)} {l : Loc} {σ σ₀ : AH} {h h' h₁ : Heap} {s : Shared}

theorem side_change {a : Addr} {oa : Obj} (i₁ : Inv prog C l σ₀ h₁) (st : Step C.lo (fun b => h₁.get? b = none) σ₀ h₁ σ h) (inv : Inv prog C l σ h) (ha : h.get? a = some oa) (ni : ¬ isImm oa) (nc : ∀ v, oa.data ≠ .cell v) (ho : h₁.get? a = none) (sa : σ a = none)
    (e : ∀ b o, b ≠ a → h.get? b = some o → h'.get? b = some o) :
    Step C.lo (fun b => h₁.get? b = none) σ₀ h₁ σ h' ∧ Inv prog C l σ h' ∧ Imm h h' := by
  obtain ⟨z1, z2, z3, _⟩ := i₁.side ho
  exact ⟨st.trans (Step.but e ho), inv.change e ha ni nc sa z1 z2 z3, fun b o q im => e b o (by rintro rfl; rw [ha] at q; cases q; exact ni im) q⟩
theorem side_step {σ' : AH} (st : Step C.lo (fun b => h₁.get? b = none) σ₀ h₁ σ h) (inv : Inv prog C l σ h) (s2 : Step C.lo NoX σ h σ' h') (hr : HRel prog C.w σ' h') :
    Step C.lo (fun b => h₁.get? b = none) σ₀ h₁ σ' h' ∧ Inv prog C l σ' h' ∧ Imm h h' :=
  ⟨st.trans (s2.weaken fun _ z => z.elim), inv.step s2 hr, s2.imm0 inv.hrel⟩

theorem comp_core (ihE : SndE prog w L n r) (ihT : SndT prog w L n r) (c : CxOK w L n C) (hN : C.env.scope.names = N) {sc : Scope} {x : Str} {px : Pos} {iter elt : Expr} {ifs : List Expr} {pos : Pos} (hk : sc.kind = .function) (hok : compOK sc.names N x = true)
    (i₁ : Inv prog C l σ₀ h₁) {v : AV} {xs : List AV} {I : Addr} (k12 : ∀ b o, h₁.get? b = some o → s.heap.get? b = some o) (hI : h₁.get? I = none) (it : ItSt s.heap v I 0) {Qc : List AV → AH → Prop}
    (hq : compL r (relN sc.names N) x ifs elt v xs l xs [] σ₀ Qc) {RR : Value → Addr → Result → Shared → Prop}
    (hRR : ∀ D Cl h' tk σ' out m' vs nD, h₁.get? D = none → h₁.get? Cl = none → C.lo ≤ D → D ≠ Cl → h'.Ns Cl m' → Step C.lo (fun b => h₁.get? b = none) σ₀ h₁ σ' h' → Inv prog C l σ' h' → σ' D = none → σ' Cl = none → h'.get? D = some (listOf vs.toArray nD) → All2 (VRel h') out vs →
      Qc out σ' → RR (.ref D) Cl (.ok .next) { s with heap := h', toks := tk }) :
    wpAny (model prog w) C.A (newList []) (fun acc s₃ => wpAny (model prog w) C.A (newFunctionEnv sc C.env.globals (closeL sc.names C.env.cells []) [] C.env.qual none .none (some C.env)) (fun cenv s₄ =>
      codeAny (model prog w) C.A (.compStart (.ListComp elt [⟨.Name x px, iter, ifs, 0⟩] sc pos) 0 (.ref I) acc { cenv with scope := relabel sc C.env }) (RR acc cenv.locals) s₄) NoE s₃) NoE s := by
  obtain ⟨hx, hnc, hloc, hfr⟩ := compOK_of hok
  have weq := c.weq
  refine wpAny_newObj_type (wpAny_newFunctionEnv hnc (by intro y hy; simp at hy) (fun h₃ hns₃ hsb₃ => ?_) hk)
  dsimp only at hns₃ hsb₃ ⊢
  generalize hH2 : s.heap.push { cls := .type "list", dict := none, data := .seq ([] : List Value).toArray } = H2 at hns₃ hsb₃ ⊢
  have hC : H2.objs.size = s.heap.objs.size + 1 := by rw [← hH2, Heap.size_push]
  generalize hD : s.heap.objs.size = D at hC ⊢
  generalize hCl : H2.objs.size = Cl at hC hns₃ hsb₃ ⊢
  have hDC : D ≠ Cl := by (first | lia | omega)
  have hlo : C.lo ≤ D := by rw [← hD]; exact c.size (i₁.grow k12)
  have lt2 : ∀ {b : Addr} {o : Obj}, s.heap.get? b = some o → @LT.lt Nat _ b D := fun e => by have := Heap.lt_size e; rw [hD] at this; exact this
  have nD : h₁.get? D = none := by
    cases q : h₁.get? D with
    | none => rfl
    | some o => exact absurd (lt2 (k12 _ _ q)) (Nat.lt_irrefl D)
  have nC : h₁.get? Cl = none := by
    cases q : h₁.get? Cl with
    | none => rfl
    | some o => have := lt2 (k12 _ _ q); (first | lia | omega)
  have old : ∀ b o, s.heap.get? b = some o → h₃.get? b = some o := fun b o e => by
    exact hsb₃.extBut b o (Nat.ne_of_lt (Nat.lt_trans (lt2 e) (by (first | lia | omega)))) (Heap.get?_push_of_some _ (hH2 ▸ Heap.get?_push_of_some _ e))
  have gD : h₃.get? D = some (listOf ([] : List Value).toArray 0) := hsb₃.extBut _ _ hDC (Heap.get?_push_of_some _ (by rw [← hH2, ← hD]; exact Heap.get?_push_size _ rfl))
  have hIlt : I ≠ D ∧ I ≠ Cl := by
    obtain ⟨o, g, _⟩ := objIt it
    exact ⟨Nat.ne_of_lt (lt2 g), Nat.ne_of_lt (Nat.lt_trans (lt2 g) (by (first | lia | omega)))⟩
  have k13 : ∀ b o, h₁.get? b = some o → h₃.get? b = some o := fun b o e => old b o (k12 b o e)
  have it₃ : ItSt h₃ v I 0 := it.step (immOld old) (old I)
  have i₃ : Inv prog C l σ₀ h₃ := i₁.grow k13
  -- the turns
  let cl := closeL sc.names C.env.cells []
  let env' := compEnvC sc cl Cl C.env
  let J : Nat → Shared → Prop := fun k s' => X8 fun acc σ' h tk i vs nD' m => A12 (s' = { s with heap := h, toks := tk }) (i + k = xs.length) (compL r (relN sc.names N) x ifs elt v xs l (xs.drop i) acc σ' Qc) (Step C.lo (fun b => h₁.get? b = none) σ₀ h₁ σ' h) (Inv prog C l σ' h) (σ' D = none) (σ' Cl = none) (σ' I = none)
    (h.get? D = some (listOf vs.toArray nD')) (All2 (VRel h) acc vs) (h.Ns Cl m) (ItSt h v I i)
  have start : J xs.length { s with heap := h₃, toks := s.toks + ([] : List (Str × Value)).length } := by
    refine ⟨[], σ₀, h₃, _, 0, [], 0, _, rfl, Nat.zero_add _, by simpa using hq, Step.grow k13, i₃, i₁.hrel.free nD, i₁.hrel.free nC, i₁.hrel.free hI, gD, .nil, hns₃, it₃⟩
  have loop : codeAny (model prog w) C.A (.compLoop (.ListComp elt [⟨.Name x px, iter, ifs, 0⟩] sc pos) 0 (.ref I) (.ref D) env') (RR (.ref D) Cl) { s with heap := h₃, toks := s.toks + ([] : List (Str × Value)).length } := by
    refine codeAny_compLoop_tests J (fun k s' hJ => ?_) xs.length start
    obtain ⟨acc, σ', h, tk, i, vs, nD', m, rfl, hik, hcl, st, inv, sD, sC, sI, gD', rl, ns, its⟩ := hJ
    have hrel : HRel prog w σ' h := weq ▸ inv.hrel
    obtain ⟨oI, gI, niI, ncI⟩ := objIt its
    cases hdrop : xs.drop i with
    | nil =>
      rw [hdrop] at hcl
      have hnone : xs[i]? = none := by
        rw [List.drop_eq_nil_iff] at hdrop
        exact List.getElem?_eq_none hdrop
      refine wpAny_noRaise (iter_end (s := { s with heap := h, toks := tk }) c.hh hrel its hcl.1 hnone fun h' tk' eb => ?_)
      obtain ⟨st', inv', im⟩ := side_change i₁ st inv gI niI ncI hI sI eb
      exact hRR D Cl h' tk' σ' acc m vs nD' nD nC hlo hDC (ns.extBut eb (Ne.symm hIlt.2)) st' inv' sD sC (eb _ _ (Ne.symm hIlt.1) gD') (rl.mono fun _ _ z => z.mono im) hcl.2
    | cons y rest =>
      rw [hdrop] at hcl
      have hget : xs[i]? = some y := by
        have := congrArg List.head? hdrop
        rw [List.head?_drop] at this
        exact this
      have hrest : xs.drop (i + 1) = rest := by
        rw [← List.drop_drop, hdrop]; rfl
      have hlt : i < xs.length := (List.getElem?_eq_some_iff.mp hget).1
      obtain ⟨hit, hcl⟩ := hcl
      refine wpAny_noRaise (iter_item (s := { s with heap := h, toks := tk }) hrel its hit hget fun u hA tkA sb ru it' => ?_)
      have imA0 : Imm h hA := fun b o q im => (sb.2 b (by rintro rfl; rw [gI] at q; cases q; exact niI im)).trans q
      have itA := it' imA0
      obtain ⟨oA, gA, _, _⟩ := objIt itA
      obtain ⟨stA, invA, imA⟩ := side_change i₁ st inv gI niI ncI hI sI (fun b o ne q => (sb.2 b ne).trans q)
      have nsA : hA.Ns Cl m := ns.sameBut sb (Ne.symm hIlt.2)
      have gDA : hA.get? D = some (listOf vs.toArray nD') := (sb.2 D (Ne.symm hIlt.1)).trans gD'
      have ruA := ru.mono imA
      have rlA := rl.mono fun _ _ z => z.mono imA
      -- the variable
      refine wpAny_assign_Name (wpAny_noRaise (wpAny_storeName_local (env := env') (lookup_relabel_local hx) nsA (fun hB nsB sbB => ?_) (by show (sc.kind == .class || (sc.kind == .module && _)) = false; rw [hk]; rfl)))
      obtain ⟨oC, gC, niC, ncC⟩ := objNs nsA
      obtain ⟨oC', gC', _, _⟩ := objNs nsB
      obtain ⟨stB, invB, imB⟩ := side_change i₁ stA invA gC niC ncC nC sC (fun b o ne q => (sbB.2 b ne).trans q)
      have itB : ItSt hB v I (i + 1) := itA.step imB fun o q => (sbB.2 I hIlt.2).trans q
      have gDB : hB.get? D = some (listOf vs.toArray nD') := (sbB.2 D hDC).trans gDA
      have rlB := rlA.mono fun _ _ z => z.mono imB
      have iC : Inv prog (compCx C sc cl Cl) (locC (relN sc.names N) l x y) σ' hB := compInv c hN hok invB nsB sC (by simp) (ruA.mono imB)
      have cC := compCx_ok c hk cl (closeL_sub sc.names [] (fun y c e => by cases e)) Cl
      have hN' : (compCx C sc cl Cl).env.scope.names = relN sc.names N := by show (relabel sc C.env).names = _; rw [relN_eq c.kind, hN]
      -- the element, and what comes after
      have fin : ∀ σ₂ h₂ tk₂ (acc₂ : List AV) vs₂ n₂ m₂, compL r (relN sc.names N) x ifs elt v xs l rest acc₂ σ₂ Qc → Step C.lo (fun b => h₁.get? b = none) σ₀ h₁ σ₂ h₂ → Inv prog C l σ₂ h₂ → σ₂ D = none → σ₂ Cl = none → σ₂ I = none → h₂.get? D = some (listOf vs₂.toArray n₂) → All2 (VRel h₂) acc₂ vs₂ → h₂.Ns Cl m₂ → ItSt h₂ v I (i + 1) →
          ∃ k', k' < k ∧ J k' { s with heap := h₂, toks := tk₂ } := fun σ₂ h₂ tk₂ acc₂ vs₂ n₂ m₂ q1 q2 q3 q4 q5 q6 q7 q8 q9 q10 => by
        refine ⟨k - 1, (tick hik hlt).1, acc₂, σ₂, h₂, tk₂, i + 1, vs₂, n₂, m₂, rfl, (tick hik hlt).2, ?_, q2, q3, q4, q5, q6, q7, q8, q9, q10⟩
        rw [hrest]; exact q1
      have elem : ∀ σ₂ h₂ tk₂ E', r.E (relN sc.names N) elt (locC (relN sc.names N) l x y) σ₂ (fun u σ => acc.length ≤ 100000 ∧ compL r (relN sc.names N) x ifs elt v xs l rest (acc ++ [u]) σ Qc) → Step C.lo NoX σ' hB σ₂ h₂ → Inv prog (compCx C sc cl Cl) (locC (relN sc.names N) l x y) σ₂ h₂ →
          wpAny (model prog w) C.A (eval elt env') (fun x s₄ => wpAny (model prog w) C.A (call (.builtin "list.append") [.ref D, x]) (fun _ s₅ => ∃ m, m < k ∧ J m s₅) E' s₄) E' { s with heap := h₂, toks := tk₂ } := by
        intro σ₂ h₂ tk₂ E' hq₂ st₂ iC₂
        refine wpAny_noRaise (seqP (ihE (compCx C sc cl Cl) _ _ σ₂ { s with heap := h₂, toks := tk₂ } elt _ cC hN' iC₂ hq₂) fun h₃ tk₃ σ₃ a u₃ st₃ hr₃ rv₃ q₃ => wpAny_noRaise ?_)
        have s23 := st₂.trans st₃
        obtain ⟨stE, invE, imE⟩ := side_step stB invB s23 (weq.symm ▸ hr₃)
        have sD3 := s23.stays gDB sD
        have sC3 := s23.stays gC' sC
        obtain ⟨oI', gI', _, _⟩ := objIt itB
        have sI3 := s23.stays gI' sI
        have gD3 : h₃.get? D = some (listOf vs.toArray nD') := s23.keep _ _ gDB sD id
        have rl3 := rlB.mono fun _ _ z => z.mono imE
        have ns3 : h₃.Ns Cl _ := nsB.at' fun o q => s23.keep _ _ q sC id
        have it3 : ItSt h₃ v I (i + 1) := itB.step imE fun o q => s23.keep _ _ q sI id
        refine append_raw (s := { s with heap := h₃, toks := tk₃ }) gD3 (rl3.length ▸ Nat.le_trans q₃.1 (by decide)) fun h₄ n₄ sb₄ g₄ => ?_
        obtain ⟨stF, invF, imF⟩ := side_change i₁ stE invE gD3 objList.1 objList.2 nD sD3 (fun b o ne q => (sb₄.2 b ne).trans q)
        exact fin σ₃ h₄ tk₃ (acc ++ [a]) (vs ++ [u₃]) n₄ _ q₃.2 stF invF sD3 sC3 sI3 g₄ ((rl3.mono fun _ _ z => z.mono imF).append (.cons (rv₃.mono imF) .nil)) (ns3.sameBut sb₄ (Ne.symm hDC)) (it3.step imF fun o q => (sb₄.2 I hIlt.1).trans q)
      cases ifs with
      | nil =>
        refine wpAny_tests_nil ?_
        rw [if_pos rfl]
        exact elem σ' hB _ _ hcl Step.refl iC
      | cons t ts =>
        cases ts with
        | nil =>
          refine wpAny_tests_one (wpAny_noRaise (seqP (ihT (compCx C sc cl Cl) _ _ σ' { s with heap := hB, toks := tkA + 1 } t _ cC hN' iC hcl) fun h₂ tk₂ σ₂ b bv st₂ hr₂ rb q₂ => ?_))
          subst rb
          have iC₂ : Inv prog (compCx C sc cl Cl) (locC (relN sc.names N) l x y) σ₂ h₂ := iC.step st₂ (weq.symm ▸ hr₂)
          cases bv with
          | true => have q₂ := q₂.t rfl; rw [if_pos rfl]; exact elem σ₂ h₂ tk₂ _ q₂ st₂ iC₂
          | false =>
            have q₂ := q₂.f rfl
            rw [if_neg (by decide)]
            obtain ⟨stE, invE, imE⟩ := side_step stB invB st₂ (weq.symm ▸ hr₂)
            obtain ⟨oI', gI', _, _⟩ := objIt itB
            exact fin σ₂ h₂ tk₂ acc vs nD' _ q₂ stE invE (st₂.stays gDB sD) (st₂.stays gC' sC) (st₂.stays gI' sI) (st₂.keep _ _ gDB sD id) (rlB.mono fun _ _ z => z.mono imE) (nsB.at' fun o q => st₂.keep _ _ q sC id) (itB.step imE fun o q => st₂.keep _ _ q sI id)
        | cons _ _ => exact hcl.elim
  obtain ⟨hitems, _⟩ : items v σ₀ = some xs ∧ True := by
    cases xs with
    | nil => exact ⟨hq.1, trivial⟩
    | cons _ _ => exact ⟨hq.1, trivial⟩
  exact codeAny_compStart_list loop (wpAny_noRaise (iter_self (s := { s with heap := h₃, toks := s.toks + ([] : List (Str × Value)).length }) c.hh (weq ▸ i₃.hrel) it₃ hitems loop))
end
end Mine.Internal


namespace Mine.Internal
section
variable {prog : Program} {w : World} {L : Lib} {n : Nat} {r : Ev} {C : Cx} {N : List (Str × NameKind)} {l : Loc} {σ : AH} {s : Shared} {Q : AV → AH → Prop}

theorem cells_all (i : Inv prog C l σ s.heap) (hN : C.env.scope.names = N) {sc : List (Str × NameKind)} {x : Str} (hok : compOK sc N x = true) : ∀ p ∈ sc, p.2 = .free → ∃ a, C.env.cells.lookup p.1 = some a := fun p hp e => by
  have := (compOK_of hok).2.2.2 p hp e
  obtain ⟨a, _, h, _⟩ := i.lrel.has p.1 (by show C.env.scope.names.lookup p.1 = _; rw [hN]; exact this)
  exact ⟨a, h⟩

theorem folded_ok {e : Expr} (h : isSetE e = false) (env : Env) (x : Value) : foldedSetIterable e env x = pure x := by
  cases e <;> first | rfl | cases h

/-- the comprehension up to its end, whatever is done with the list -/
theorem comp_pre (ihE : SndE prog w L n r) (ihT : SndT prog w L n r) (c : CxOK w L n C) (hN : C.env.scope.names = N) (i : Inv prog C l σ s.heap) {sc : Scope} {x : Str} {px : Pos} {iter elt : Expr} {ifs : List Expr} {pos : Pos}
    (hk : sc.kind = .function) (hok : compOK sc.names N x = true) (hset : isSetE iter = false) {Q : List AV → AH → Prop} {use : Option (Value → Sem Unit)} {P : Value → Shared → Prop} {p0 : Pos}
    (h : r.E N iter l σ fun v σ => (match items v σ with | some xs => compL r (relN sc.names N) x ifs elt v xs l xs [] σ Q | none => False))
    (fin : ∀ D Cl h' tk σ' out m' vs nD, s.heap.get? D = none → s.heap.get? Cl = none → C.lo ≤ D → D ≠ Cl → h'.Ns Cl m' → Step C.lo NoX σ s.heap σ' h' → Inv prog C l σ' h' → σ' D = none → σ' Cl = none → h'.get? D = some (listOf vs.toArray nD) → All2 (VRel h') out vs →
      Q out σ' → compPost (model prog w) C.A NoE use P (.ref D) Cl (.ok .next) { s with heap := h', toks := tk }) :
    wpAny (model prog w) C.A (comprehension (.ListComp elt [⟨.Name x px, iter, ifs, 0⟩] sc pos) sc C.env p0 (newList []) false (eval iter C.env) use) P NoE s := by
  refine wpAny_comprehension_free rfl (folded_ok hset C.env) (closure_ok (cells_all i hN hok)) hk (compOK_of hok).2.2.1 ?_
  refine seqP (ihE C N l σ s iter _ c hN i h) fun h₁ tk₁ σ₁ v u st hr rv q => ?_
  have i₁ := c.step i st hr
  refine iSL q fun xs hx q => ?_
  refine iter_open (s := { s with heap := h₁, toks := tk₁ }) hr rv hx fun I h₂ tk₂ k12 hI hI2 it => ?_
  have nI : h₁.get? I = none := by
    cases q : h₁.get? I with
    | none => rfl
    | some o => exact absurd (Heap.lt_size q) (Nat.not_lt.mpr hI)
  refine comp_core (s := { s with heap := h₂, toks := tk₂ }) ihE ihT c hN hk hok i₁ k12 nI it q fun D Cl h' tk σ' out m' vs nD z1 z2 z0 z3 z4 z5 z6 z7 z8 z9 z10 z11 => ?_
  have back : ∀ {a}, h₁.get? a = none → s.heap.get? a = none := fun {a} e => by
    cases q : s.heap.get? a with
    | none => rfl
    | some o => exact absurd e (st.alive a (by rw [q]; simp) id)
  exact fin D Cl h' tk σ' out m' vs nD (back z1) (back z2) z0 z3 z4 (st.trans z5.noX) z6 z7 z8 z9 z10 z11

theorem i1G {gens : List Comprehension} {P : Comprehension → Prop} {G : Prop} (h : match gens with | [g] => P g | _ => False) (k : ∀ g, gens = [g] → P g → G) : G := by
  cases gens with
  | nil => exact h.elim
  | cons v r => cases r with
    | nil => exact k v rfl h
    | cons _ _ => exact h.elim
theorem iSNm {o : Option (Str × Pos)} {P : Str × Pos → Prop} {G : Prop} (h : match o with | some v => P v | none => False) (k : ∀ v, o = some v → P v → G) : G := by
  cases o with
  | none => exact h.elim
  | some v => exact k v rfl h
theorem comp_gens {elt : Expr} {gens : List Comprehension} {sc : Scope} {G : Prop} (h : wpComp r N elt gens sc l σ Q) (K : ∀ x px iter ifs, gens = [⟨.Name x px, iter, ifs, 0⟩] → sc.kind = .function → isSetE iter = false → compOK sc.names N x = true →
    (r.E N iter l σ fun v σ => (match items v σ with
      | some xs => compL r (relN sc.names N) x ifs elt v xs l xs [] σ fun out σ => ∀ c, σ c = none → Q (.ref c) (upd σ c (.list out))
      | none => False)) → G) : G := by
  refine i1G h fun g e h => iSNm h fun x ex h => ?_
  obtain ⟨t, iter, ifs, a⟩ := g
  obtain ⟨hh, h2⟩ := gd.t h
  rw [Bool.and_eq_true, Bool.and_eq_true, Bool.and_eq_true, beq_iff_eq, beq_iff_eq, Bool.not_eq_true'] at hh
  obtain ⟨⟨⟨h0, hk⟩, hset⟩, hok⟩ := hh
  cases asName_eq ex
  cases h0
  exact K x.1 x.2 iter ifs e hk hset hok h2

theorem comp_ok (ihE : SndE prog w L n r) (ihT : SndT prog w L n r) (c : CxOK w L n C) (hN : C.env.scope.names = N) (i : Inv prog C l σ s.heap) {elt : Expr} {gens : List Comprehension} {sc : Scope} {pos : Pos} (h : wpComp r N elt gens sc l σ Q) :
    wpAny (model prog w) C.A (eval (.ListComp elt gens sc pos) C.env) (PV prog w C.lo σ s Q) NoE s := by
  refine comp_gens h fun x px iter ifs e hk hset hok h2 => ?_
  subst e
  rw [eval_ListComp]
  refine comp_pre (use := none) ihE ihT c hN i hk hok hset h2 fun D Cl h' tk σ' out m' vs nD z1 z2 z0 z3 z4 z5 z6 z7 z8 z9 z10 z11 => ⟨m', z4, fun h'' sb => ?_⟩
  obtain ⟨oC, gC, niC, ncC⟩ := objNs z4
  have im : Imm h' h'' := fun b o q im => (sb.2 b (by rintro rfl; rw [gC] at q; cases q; exact niC im)).trans q
  refine ⟨h'', tk, upd σ' D (.list out), .ref D, rfl, ⟨fun b o e q _ => (sb.2 b (by rintro rfl; rw [z2] at e; cases e)).trans (z5.keep b o e q id), fun b q q' => ?_, fun b q _ => ?_⟩, ?_, rfl, z11 D z7⟩
  · by_cases y : b = D
    · subst y; exact ⟨.inl z1, z0⟩
    · rw [upd_ne y] at q'; exact z5.fresh b q q'
  · rw [sb.2 b (by rintro rfl; exact q z2)]; exact z5.alive b q id
  · intro b o q
    by_cases y : b = D
    · subst y; rw [upd_self] at q; cases q
      exact ⟨vs, nD, (sb.2 b z3).trans z9, z10.mono fun _ _ z => z.mono im⟩
    · rw [upd_ne y] at q
      exact ((c.hr z6) b o q).mono im fun ob e => (sb.2 b (by rintro rfl; rw [z8] at q; cases q)).trans e

theorem boolV {h : Heap} {t : Bool} {u : Value} (r : VRel h (.bool t) u) : u = .bool t := r

theorem iB {v : AV} {P : Bool → Prop} {G : Prop} (h : match v with | .bool t => P t | _ => False) (k : ∀ t, v = .bool t → P t → G) : G := by
  cases v with
  | bool t => exact k t rfl h
  | _ => exact h.elim
theorem attr_ok (LK : LibOK L) (c : CxOK w L n C) (i : Inv prog C l σ s.heap) {ov : AV} {u : Value} {x : Str} {ex : Bool} {Q : AV → AH → Prop} (ru : VRel s.heap ov u) (q : wpAttr L x ov σ Q) :
    wpAny (model prog w) C.A (getAttr u x ex) (PV prog w C.lo σ s Q) NoE s := by
  refine iR q fun a e q => ?_
  subst e
  cases ru
  refine iN q (fun cl d fs e q => ?_) fun _ q => q.elim
  refine iSV (gd.t q).2 fun v hv q2 => ?_
  obtain ⟨e1, e2⟩ := LK.att _ _ (gd.t q).1
  exact getA_ok (c.hr i) (c.libIn i) e e1 e2 hv (gd.f q2).1 (gd.f q2).2
theorem evE_ok (LK : LibOK L) (ihE : SndE prog w L n r) (ihT : SndT prog w L n r) : SndE prog w L n ⟨evE prog w L n r, evT r⟩ := by
  intro C N l σ s e Q c hN i h
  have h : evE prog w L n r N e l σ Q := h
  have hr0 := c.hr i
  cases e with
  | Constant cv k p =>
    cases cv with
    | int z => exact wpAny_Constant_int (Post.same hr0 vint h)
    | str x => exact Calls.Constant_str (Post.same hr0 vstr (gd.t h).2)
    | bool b => exact (fun _ _ _ => Post.here (a := AV.bool b) hr0 rfl h)
    | none => exact (fun _ _ _ => Post.here (a := AV.none) hr0 rfl h)
    | _ => exact h.elim
  | Name x p => exact name_ok LK c hN i h
  | BinOp a op b p =>
    refine wpAny_BinOp (seqP (ihE C N l σ s a _ c hN i h) fun h₁ tk₁ σ₁ u uv st hr ru q => ?_)
    have i₁ := c.step i st hr
    refine seqP (ihE C N l σ₁ { s with heap := h₁, toks := tk₁ } b _ c hN i₁ q) fun h₂ tk₂ σ₂ v vv st₂ hr₂ rv q₂ => ?_
    exact Post.lifts (st.trans st₂) (bin_ok (s := { s with heap := h₂, toks := tk₂ }) hr₂ (c.size (c.step i₁ st₂ hr₂)) (ru.mono (st₂.imm0 hr)) rv q₂)
  | Compare a ops bs p =>
    cases ops with
    | nil => exact h.elim
    | cons op ops =>
    cases ops with
    | cons _ _ => exact h.elim
    | nil =>
    cases bs with
    | nil => exact h.elim
    | cons b bs =>
    cases bs with
    | cons _ _ => exact h.elim
    | nil =>
      obtain ⟨hm, h⟩ := gd.f h
      refine wpAny_Compare1 (seqP (ihE C N l σ s a _ c hN i h) fun h₁ tk₁ σ₁ u uv st hr ru q => ?_) hm
      have i₁ := c.step i st hr
      refine seqP (ihE C N l σ₁ { s with heap := h₁, toks := tk₁ } b _ c hN i₁ q) fun h₂ tk₂ σ₂ v vv st₂ hr₂ rv q₂ => ?_
      have i₂ := c.step i₁ st₂ hr₂
      exact Post.lifts (st.trans st₂) (seqP (cmp_ok (lo := C.lo) (s := { s with heap := h₂, toks := tk₂ }) hr₂ (c.noSys i₂) (Nat.lt_of_succ_lt c.cline) (ru.mono (st₂.imm0 hr)) rv q₂) fun h₃ tk₃ σ₃ b bv st₃ hr₃ rb q₃ => ⟨h₃, tk₃, σ₃, .bool b, rfl, st₃, hr₃, rb, q₃⟩)
  | UnaryOp op a p =>
    cases op with
    | USub =>
      refine wpAny_UnaryOp (seqP (ihE C N l σ s a _ c hN i h) fun h₁ tk₁ σ₁ u uv st hr ru q => ?_)
      refine iI q fun j e q => ?_
      subst e
      obtain ⟨t, rfl⟩ := ru
      exact Post.lifts st (PyProof.Rows.neg_int (Post.same (s := { s with heap := h₁, toks := tk₁ }) hr vint q))
    | _ => exact h.elim
  | BoolOp op es p =>
    cases es with
    | nil => cases op <;> exact h.elim
    | cons a es =>
    cases es with
    | nil => cases op <;> exact h.elim
    | cons b es =>
    cases es with
    | cons _ _ => cases op <;> exact h.elim
    | nil =>
    cases op with
    | Or =>
      refine wpAny_Or2 (seqP (ihE C N l σ s a _ c hN i h) fun h₁ tk₁ σ₁ u uv st hr ru q => ?_)
      have i₁ := c.step i st hr
      refine iB q fun t e q => ?_
      subst e
      cases boolV ru
      refine wpAny_truthy_bool ?_
      cases t
      · have q := q.f rfl; rw [if_neg (by decide)]; exact Post.lifts st (ihE C N l σ₁ { s with heap := h₁, toks := tk₁ } b _ c hN i₁ q)
      · have q := q.t rfl; rw [if_pos rfl]; exact ⟨h₁, tk₁, σ₁, .bool true, rfl, st, hr, rfl, q⟩
    | And =>
      refine wpAny_And2 (seqP (ihE C N l σ s a _ c hN i h) fun h₁ tk₁ σ₁ u uv st hr ru q => ?_)
      have i₁ := c.step i st hr
      refine iB q fun t e q => ?_
      subst e
      cases boolV ru
      refine wpAny_truthy_bool ?_
      cases t
      · have q := q.f rfl; rw [if_neg (by decide)]; exact ⟨h₁, tk₁, σ₁, .bool false, rfl, st, hr, rfl, q⟩
      · have q := q.t rfl; rw [if_pos rfl]; exact Post.lifts st (ihE C N l σ₁ { s with heap := h₁, toks := tk₁ } b _ c hN i₁ q)
  | IfExp t a b p =>
    refine wpAny_IfExp (seqP (ihT C N l σ s t _ c hN i h) fun h₁ tk₁ σ₁ u uv st hr ru q => ?_)
    have i₁ := c.step i st hr
    subst ru
    cases uv
    · have q := q.f rfl; rw [if_neg (by decide)]; exact Post.lifts st (ihE C N l σ₁ { s with heap := h₁, toks := tk₁ } b _ c hN i₁ q)
    · have q := q.t rfl; rw [if_pos rfl]; exact Post.lifts st (ihE C N l σ₁ { s with heap := h₁, toks := tk₁ } a _ c hN i₁ q)
  | Subscript a b p =>
    refine PyProof.Rows.Subscript_ (seqP (ihE C N l σ s a _ c hN i h) fun h₁ tk₁ σ₁ u uv st hr ru q => ?_)
    have i₁ := c.step i st hr
    refine seqP (ihE C N l σ₁ { s with heap := h₁, toks := tk₁ } b _ c hN i₁ q) fun h₂ tk₂ σ₂ v vv st₂ hr₂ rv q₂ => ?_
    exact Post.lifts (st.trans st₂) (sub_ok (s := { s with heap := h₂, toks := tk₂ }) hr₂ (ru.mono (st₂.imm0 hr)) rv q₂)
  | Attribute a x p =>
    obtain ⟨hc, h⟩ := gd.f h
    refine PyProof.Rows.Attribute_any_ (seqP (ihE C N l σ s a _ c hN i h) fun h₁ tk₁ σ₁ u uv st hr ru q => ?_) (by
      show (do
        let o ← attributeBase a x C.env (eval a C.env)
        standAt p.atName
        let r ← holding [o] (getAttr o x true)
        letTemporaryGo a o r
        pure r) = _
      rw [attributeBase_plain hc])
    have i₁ := c.step i st hr
    exact Post.lifts st (attr_ok (s := { s with heap := h₁, toks := tk₁ }) LK c i₁ ru q)
  | List es p =>
    refine wpAny_List (seqP (snd_es ihE c hN p es σ s _ i h) fun h₁ tk₁ σ₁ as vs st hr rv q => ?_)
    obtain ⟨q1, q⟩ := gd.t q
    have q1 := Nat.le_of_ble_eq_true q1
    have l1 := rv.length
    refine ⟨by rw [sizeLine_eq]; (first | lia | omega), Post.lift (tk₁ := tk₁) st ?_⟩
    have k : ∀ b o, h₁.get? b = some o → (h₁.push (listOf vs.toArray 0)).get? b = some o := fun b o e => Heap.get?_push_of_some _ e
    exact PV.newList (s := { s with heap := h₁, toks := tk₁ }) (vs := vs) (n := 0) hr (c.size (c.step i st hr)) k (Nat.le_refl _) (Heap.get?_push_size _ rfl) (rv.mono fun _ _ z => z.mono (immOld k)) q
  | Tuple es kk p =>
    refine wpAny_Tuple (seqP (snd_es ihE c hN p es σ s _ i h) fun h₁ tk₁ σ₁ as vs st hr rv q => ?_)
    obtain ⟨q1, q⟩ := gd.t q
    have q1 := Nat.le_of_ble_eq_true q1
    have l1 := rv.length
    refine ⟨by rw [sizeLine_eq]; (first | lia | omega), Post.lift (tk₁ := tk₁) st ?_⟩
    have k : ∀ b o, h₁.get? b = some o → (h₁.push (tupObj vs 0)).get? b = some o := fun b o e => Heap.get?_push_of_some _ e
    exact PV.tupNew (s := { s with heap := h₁, toks := tk₁ }) (us := vs) (n := 0) hr k (Heap.get?_push_size _ rfl) (rv.mono fun _ _ z => z.mono (immOld k)) q
  | Dict ks vs p =>
    cases ks with
    | cons k ks => exact dict_ok ihE c hN i h
    | nil =>
    cases vs with
    | cons _ _ => exact h.elim
    | nil =>
      refine wpAny_Dict_empty ?_
      exact PV.dictNew (ao := .dict0) (tk := s.toks) hr0 (c.size i) fresh_none (fun b o e => Heap.get?_push_of_some _ e) ⟨0, Heap.get?_push_size _ rfl⟩ h
  | JoinedStr es p =>
    cases es with
    | nil => exact h.elim
    | cons a es =>
    cases es with
    | nil => exact h.elim
    | cons b rest =>
      exact wpAny_JoinedStr (snd_parts ihE c hN (a :: b :: rest) Str.empty σ s _ i h fun h₁ tk₁ σ₁ x st hr hx q => ⟨by rw [sizeLine_eq]; (first | lia | omega), ⟨h₁, _, σ₁, .str x, rfl, st, hr, ⟨_, rfl⟩, q⟩⟩)
  | Call f args kws p =>
    cases kws with
    | cons _ _ => exact h.elim
    | nil =>
    cases f with
    | Name f np => exact callName_ok LK ihE c hN i h
    | Attribute o x ap => exact callMeth_ok LK ihE c hN i h
    | _ => exact h.elim
  | ListComp elt gens sc p => exact comp_ok ihE ihT c hN i h
  | _ => exact h.elim

theorem allT_ok (op : BoolOp) (ihT : SndT prog w L n r) : ∀ (es : List Expr) (C : Cx) (N : List (Str × NameKind)) (l : Loc) (σ : AH) (s : Shared) (Q : Bool → AH → Prop), CxOK w L n C → C.env.scope.names = N → Inv prog C l σ s.heap → allT op (fun e σ Q => r.T N e l σ Q) es σ Q →
    wpAny (model prog w) C.A (allTrue op es C.env) (PB prog w C.lo σ s Q) NoE s
  | [], C, N, l, σ, s, Q, c, hN, i, h => wpAny_pure (Post.here (a := (op == .And)) (c.hr i) rfl h)
  | e :: es, C, N, l, σ, s, Q, c, hN, i, h => by
    cases op with
    | And =>
      refine wpAny_allTrue_And_cons (seqP (ihT C N l σ s e _ c hN i h) fun h₁ tk₁ σ₁ u uv st hr ru q => ?_)
      subst ru
      cases uv
      · have q := q.f rfl; rw [if_neg (by decide)]; exact ⟨h₁, tk₁, σ₁, false, rfl, st, hr, rfl, q⟩
      · have q := q.t rfl; rw [if_pos rfl]; exact Post.lifts st (allT_ok .And ihT es C N l σ₁ _ _ c hN (c.step i st hr) q)
    | Or =>
      refine wpAny_allTrue_Or_cons (seqP (ihT C N l σ s e _ c hN i h) fun h₁ tk₁ σ₁ u uv st hr ru q => ?_)
      subst ru
      cases uv
      · have q := q.f rfl; rw [if_neg (by decide)]; exact Post.lifts st (allT_ok .Or ihT es C N l σ₁ _ _ c hN (c.step i st hr) q)
      · have q := q.t rfl; rw [if_pos rfl]; exact ⟨h₁, tk₁, σ₁, true, rfl, st, hr, rfl, q⟩

theorem isTrue_plain {e : Expr} (ht : isTestE e = false) (env : Env) (whole : Sem Value) : isTrue e env whole = (do let v ← whole; standAt e.pos; holding [v] (truthy v)) := by
  cases e with
  | UnaryOp => exact Bool.noConfusion ht
  | BoolOp => exact Bool.noConfusion ht
  | IfExp => exact Bool.noConfusion ht
  | Compare => exact Bool.noConfusion ht
  | _ => rfl
theorem evT_ok (ihE : SndE prog w L n r) (ihT : SndT prog w L n r) : SndT prog w L n ⟨evE prog w L n r, evT r⟩ := by
  intro C N l σ s e Q c hN i h
  have h : evT r N e l σ Q := h
  have base : gd (!isTestE e) (r.E N e l σ fun v σ => (match truthV v σ with | some b => Q b σ | none => False)) → wpAny (model prog w) C.A (isTrue e C.env (eval e C.env)) (PB prog w C.lo σ s Q) NoE s := fun h => by
    obtain ⟨ht, h⟩ := gd.f h
    refine wpAny_isTrue_value (seqP (ihE C N l σ s e _ c hN i h) fun h₁ tk₁ σ₁ u uv st hr ru q => ?_) (isTrue_plain ht _ _)
    exact iSB q fun b hb q => Post.lifts st (truth_ok (s := { s with heap := h₁, toks := tk₁ }) hr ru hb q)
  cases e with
  | UnaryOp op a p =>
    cases op with
    | Not =>
      refine wpAny_isTrue_Not (seqP (ihT C N l σ s a _ c hN i h) fun h₁ tk₁ σ₁ u uv st hr ru q => ?_)
      subst ru
      exact ⟨h₁, tk₁, σ₁, !uv, rfl, st, hr, rfl, q⟩
    | _ => exact base h
  | BoolOp op es p => exact wpAny_isTrue_BoolOp (allT_ok op ihT es C N l σ s Q c hN i h)
  | Compare a ops bs p =>
    cases ops with
    | nil => exact h.elim
    | cons op ops =>
    cases ops with
    | cons _ _ => exact h.elim
    | nil =>
    cases bs with
    | nil => exact h.elim
    | cons b bs =>
    cases bs with
    | cons _ _ => exact h.elim
    | nil =>
      obtain ⟨hm, h⟩ := gd.f h
      refine wpAny_isTrue_Compare1 (seqP (ihE C N l σ s a _ c hN i h) fun h₁ tk₁ σ₁ u uv st hr ru q => ?_) hm
      have i₁ := c.step i st hr
      refine seqP (ihE C N l σ₁ { s with heap := h₁, toks := tk₁ } b _ c hN i₁ q) fun h₂ tk₂ σ₂ v vv st₂ hr₂ rv q₂ => ?_
      have i₂ := c.step i₁ st₂ hr₂
      refine seqP (cmp_ok (lo := C.lo) (s := { s with heap := h₂, toks := tk₂ }) hr₂ (c.noSys i₂) (Nat.lt_of_succ_lt c.cline) (ru.mono (st₂.imm0 hr)) rv q₂) fun h₃ tk₃ σ₃ b bv st₃ hr₃ rb q₃ => ?_
      subst rb
      exact wpAny_truthy_bool ⟨h₃, tk₃, σ₃, b, rfl, (st.trans st₂).trans st₃, hr₃, rfl, q₃⟩
  | _ => exact base h

theorem ev_ok (LK : LibOK L) : ∀ m, SndE prog w L n (ev prog w L n m) ∧ SndT prog w L n (ev prog w L n m)
  | 0 => ⟨fun _ _ _ _ _ _ _ _ _ _ h => h.elim, fun _ _ _ _ _ _ _ _ _ _ h => h.elim⟩
  | m + 1 => ⟨evE_ok LK (ev_ok LK m).1 (ev_ok LK m).2, evT_ok (ev_ok LK m).1 (ev_ok LK m).2⟩
end
end Mine.Internal


namespace Mine.Internal

/-! ### statements -/
structure Kont where
  next : Loc → AH → Prop
  ret : AV → AH → Prop
  cont : Loc → AH → Prop

noncomputable def okN (N : List (Str × NameKind)) (x : Str) : Bool := N.lookup x == some .local || N.lookup x == some .cell
noncomputable def bindTs (N : List (Str × NameKind)) : List Expr → List AV → Loc → Option Loc
  | [], vs, l => (match vs with | [] => some l | _ => none)
  | t :: ts, vs, l => (match vs with
    | [] => none
    | v :: vs => (match asName t with
      | some x => if okN N x.1 then bindTs N ts vs (updL l x.1 v) else none
      | none => none))
noncomputable def bindT (N : List (Str × NameKind)) (t : Expr) (v : AV) (l : Loc) : Option Loc :=
  match t with
  | .Name x _ => if okN N x then some (updL l x v) else none
  | .Tuple ts _ _ => (match v with | .tup vs => bindTs N ts vs l | _ => none)
  | .Subscript .. => none
  | .Attribute .. => none
  | _ => none

noncomputable def isSliceE (e : Expr) : Bool := Nat.beq e.ctorIdx 26
noncomputable def noRef : AV → Bool | .none => true | .bool _ => true | .int _ => true | .str _ => true | _ => false

noncomputable abbrev StE := Stmt → Loc → AH → Kont → Prop
noncomputable def blkR (S : StE) (as : List Stmt) : Loc → AH → Kont → Prop := List.rec (fun l σ K => K.next l σ) (fun st _ ih l σ K => S st l σ ⟨fun l σ => ih l σ K, K.ret, K.cont⟩) as
/-- a block; a structure, so that nothing runs it unasked -/
structure blk (S : StE) (as : List Stmt) (l : Loc) (σ : AH) (K : Kont) : Prop where
  run : blkR S as l σ K
theorem blk_eq {S : StE} {as : List Stmt} {K : Kont} : (fun l σ => blk S as l σ K) = fun l σ => blkR S as l σ K := funext fun _ => funext fun _ => propext ⟨fun h => h.run, fun h => ⟨h⟩⟩
theorem blk.nil {S : StE} {l : Loc} {σ : AH} {K : Kont} (h : K.next l σ) : blk S [] l σ K := ⟨h⟩
/-- what follows a statement of a block -/
@[reducible] noncomputable def kn (S : StE) (rest : List Stmt) (K : Kont) : Kont := ⟨fun l σ => blk S rest l σ K, K.ret, K.cont⟩
theorem blk.cons {S : StE} {st : Stmt} {rest : List Stmt} {l : Loc} {σ : AH} {K : Kont} (h : S st l σ (kn S rest K)) : blk S (st :: rest) l σ K := ⟨by unfold kn at h; rw [blk_eq] at h; exact h⟩
theorem blk.uncons {S : StE} {st : Stmt} {rest : List Stmt} {l : Loc} {σ : AH} {K : Kont} (h : blk S (st :: rest) l σ K) : S st l σ ⟨fun l σ => blk S rest l σ K, K.ret, K.cont⟩ := by rw [blk_eq]; exact h.run

noncomputable def forL (body : Loc → AH → Kont → Prop) (bind : AV → Loc → Option Loc) (src : AV) (all : List AV) : List AV → Loc → AH → Kont → Prop
  | [], l, σ, K => items src σ = some all ∧ K.next l σ
  | v :: vs, l, σ, K => items src σ = some all ∧ (match bind v l with
      | some l' => body l' σ ⟨fun l σ => forL body bind src all vs l σ K, K.ret, fun l σ => forL body bind src all vs l σ K⟩
      | none => False)

noncomputable def isDict0 (v : AV) (σ : AH) : Bool := match v with | .ref a => (match σ a with | some .dict0 => true | _ => false) | _ => false
noncomputable def wpFor (body : Loc → AH → Kont → Prop) (bind : AV → Loc → Option Loc) (v : AV) (l : Loc) (σ : AH) (K : Kont) : Prop :=
  (isDict0 v σ = true ∧ K.next l σ) ∨ ∃ xs, items v σ = some xs ∧ forL body bind v xs xs l σ K

noncomputable def whileN (test : Loc → AH → (Bool → AH → Prop) → Prop) (body : Loc → AH → Kont → Prop) : Nat → Loc → AH → Kont → Prop
  | 0, _, _, _ => False
  | n + 1, l, σ, K => test l σ fun b σ => Br b (body l σ ⟨fun l σ => whileN test body n l σ K, K.ret, fun l σ => whileN test body n l σ K⟩) (K.next l σ)

noncomputable def swapOK (N : List (Str × NameKind)) (x : Str) (pl vl : Nat) (sc : Scope) : Bool := N.lookup x == some .local && pl == vl && !(sc.names.any fun q => q.1 == x && (q.2 == .local || q.2 == .cell))

noncomputable def swapNext (K : Kont) (l : Loc) (x y : Str) (v : AV) (σ : AH) : Prop := match v with | .tup [u, v] => K.next (updL (updL l y v) x u) σ | _ => False

noncomputable def nodupK : List (Str × AV) → Bool
  | [] => true
  | p :: r => !(r.any fun q => q.1 == p.1) && nodupK r
theorem nodupK_ok : ∀ {fs : List (Str × AV)}, nodupK fs = true → (fs.map (·.1)).Nodup
  | [], _ => List.nodup_nil
  | p :: r, h => by
    have h : (!(r.any fun q => q.1 == p.1) && nodupK r) = true := h
    rw [Bool.and_eq_true, Bool.not_eq_true', List.any_eq_false] at h
    rw [List.map_cons, List.nodup_cons]
    refine ⟨fun m => ?_, nodupK_ok h.2⟩
    obtain ⟨q, hq, e⟩ := List.mem_map.mp m
    exact h.1 q hq (beq_iff_eq.mpr e)
section
variable (L : Lib)
noncomputable def wpSetA (o : AV) (x : Str) (v : AV) (σ : AH) (Q : AH → Prop) : Prop :=
  match o with
  | .ref a => (match nsAt σ a with
      | some (c, d, fs) => gd (L.att c x && nodupK fs && Nat.blt fs.length 100) (Q (upd σ d (.ns (putK fs x v))))
      | none => False)
  | _ => False

section
variable (r : Ev) (N : List (Str × NameKind)) (l : Loc) (σ : AH) (K : Kont)
noncomputable def wpAsgN (x : Str) (p : Pos) (e : Expr) : Prop :=
  match e with
  | .ListComp elt gens sc sp => gd (swapOK N x p.line sp.line sc) (wpComp r N elt gens sc l σ fun v σ => K.next (updL l x v) σ)
  | e => gd (!isCompE e && okN N x) (r.E N e l σ fun v σ => K.next (updL l x v) σ)
noncomputable def wpSwap (ts es : List Expr) (k : Nat) (tp : Pos) : Prop :=
  match ts with
  | [t1, t2] => (match es with
    | [e1, e2] => (match asName t1 with
      | some x => (match asName t2 with
        | some y => (match asName e1 with
          | some a => (match asName e2 with
            | some b => gd (N.lookup x.1 == some .local && N.lookup y.1 == some .local && !(x.1 == y.1) && x.2.line == y.2.line && !(a.1 == ("__debug__" : Str)) && !(b.1 == ("__debug__" : Str))) (r.E N (.Tuple [e1, e2] k tp) l σ fun v σ => swapNext K l x.1 y.1 v σ)
            | none => False)
          | none => False)
        | none => False)
      | none => False)
    | _ => False)
  | _ => False
noncomputable def wpAsgT (ts : List Expr) (k : Nat) (tp : Pos) (e : Expr) : Prop :=
  match e with
  | .Tuple es k2 tp2 => wpSwap r N l σ K ts es k2 tp2
  | e => gd (!isCompE e && !isTupE e) (r.E N e l σ fun v σ => (match bindT N (.Tuple ts k tp) v l with | some l' => K.next l' σ | none => False))
noncomputable def wpAsg (t e : Expr) : Prop :=
  match t with
  | .Name x p => wpAsgN r N l σ K x p e
  | .Tuple ts k tp => wpAsgT r N l σ K ts k tp e
  | .Subscript o i _ => gd (!isCompE e) (r.E N e l σ fun v σ => r.E N o l σ fun ov σ => r.E N i l σ fun iv σ => wpSet ov iv v σ fun σ => K.next l σ)
  | .Attribute o x _ => gd (!isCompE e) (r.E N e l σ fun v σ => r.E N o l σ fun ov σ => wpSetA L ov x v σ fun σ => K.next l σ)
  | _ => False
noncomputable def wpAug (t : Expr) (op : Operator) (e : Expr) : Prop :=
  match t with
  | .Name x _ => gd (okN N x) (match l x with | some a => r.E N e l σ fun b σ => wpInplace op a b σ fun v σ => K.next (updL l x v) σ | none => False)
  | .Attribute o x _ => r.E N o l σ fun ov σ => wpAttr L x ov σ fun a σ => r.E N e l σ fun b σ => wpInplace op a b σ fun v σ => wpSetA L ov x v σ fun σ => K.next l σ
  | .Subscript o i _ => gd (!isSliceE i) (r.E N o l σ fun ov σ => r.E N i l σ fun iv σ => wpItem ov iv σ fun a σ => r.E N e l σ fun b σ => wpInplace op a b σ fun v σ => wpSet ov iv v σ fun σ => K.next l σ)
  | .Tuple .. => False
  | _ => False
end

noncomputable def stS (r : Ev) (S : StE) (N : List (Str × NameKind)) (st : Stmt) (l : Loc) (σ : AH) (K : Kont) : Prop :=
  match st with
  | .Pass _ => K.next l σ
  | .Continue _ => K.cont l σ
  | .Return o _ => (match o with | none => K.ret .none σ | some e => r.E N e l σ K.ret)
  | .Expr e _ => gd (!isCompE e) (r.E N e l σ fun v σ => gd (noRef v) (K.next l σ))
  | .If t a b _ => r.T N t l σ fun c σ => Br c (blk S a l σ K) (blk S b l σ K)
  | .While t a els _ => (match els with | [] => ∃ m, whileN (r.T N t) (blk S a) m l σ K | _ => False)
  | .For t it a els _ => (match els with | [] => gd (!isSetE it) (r.E N it l σ fun v σ => wpFor (blk S a) (bindT N t) v l σ K) | _ => False)
  | .Assign ts e _ => (match ts with | [t] => wpAsg L r N l σ K t e | _ => False)
  | .AugAssign t op e _ => wpAug L r N l σ K t op e
  | _ => False
end

@[reducible] noncomputable def stZ : StE := fun _ _ _ _ => False
@[reducible] noncomputable def stC (L : Lib) (r : Ev) (N : List (Str × NameKind)) (_ : Nat) (S : StE) : StE := stS L r S N
noncomputable def stN (L : Lib) (r : Ev) (N : List (Str × NameKind)) (m : Nat) : StE := Nat.rec stZ (stC L r N) m

theorem iLoc {o : Option Loc} {P : Loc → Prop} {G : Prop} (h : match o with | some v => P v | none => False) (k : ∀ v, o = some v → P v → G) : G := by
  cases o with
  | none => exact h.elim
  | some v => exact k v rfl h
theorem iDict0 {v : AV} {σ : AH} {G : Prop} (h : isDict0 v σ = true) (k : ∀ d, v = .ref d → σ d = some .dict0 → G) : G := by
  cases v with
  | ref d =>
    cases ed : σ d with
    | none => unfold isDict0 at h; dsimp only at h; rw [ed] at h; exact Bool.noConfusion h
    | some o => cases o with
      | dict0 => exact k d rfl ed
      | _ => unfold isDict0 at h; dsimp only at h; rw [ed] at h; exact Bool.noConfusion h
  | _ => exact Bool.noConfusion h
theorem iSwap {K : Kont} {l : Loc} {x y : Str} {v : AV} {σ : AH} {G : Prop} (h : swapNext K l x y v σ) (k : ∀ a b, v = .tup [a, b] → K.next (updL (updL l y b) x a) σ → G) : G := by
  cases v with
  | tup xs =>
    cases xs with
    | nil => exact h.elim
    | cons a r => cases r with
      | nil => exact h.elim
      | cons b r => cases r with
        | nil => exact k a b rfl h
        | cons _ _ => exact h.elim
  | _ => exact h.elim
/-! ### what is stored in a frame -/
noncomputable def XC (C : Cx) : Addr → Prop := fun b => b = C.env.locals ∨ ∃ x, C.env.cells.lookup x = some b

inductive PS (prog : Program) (C : Cx) (σ : AH) (s : Shared) (K : Kont) (f : Flow) (s' : Shared) : Prop
  | mk (h' : Heap) (tk' : Nat) (σ' : AH) (l' : Loc) (e : s' = { s with heap := h', toks := tk' }) (st : Step C.lo (XC C) σ s.heap σ' h') (i : Inv prog C l' σ' h')
    (q : match f with
    | .next => K.next l' σ'
    | .cont => K.cont l' σ'
    | .ret v => ∃ a, VRel h' a v ∧ K.ret a σ'
    | .brk => False) : PS prog C σ s K f s'

section
variable {prog : Program} {w : World} {L : Lib} {n : Nat} {C : Cx} {N : List (Str × NameKind)} {l : Loc} {σ : AH} {s : Shared} {K : Kont}

theorem PS.lift {h₁ : Heap} {tk₁ : Nat} {σ₁ : AH} {f : Flow} {s' : Shared} (st : Step C.lo (XC C) σ s.heap σ₁ h₁) (p : PS prog C σ₁ { s with heap := h₁, toks := tk₁ } K f s') : PS prog C σ s K f s' :=
  let ⟨h', tk', σ', l', e, st', i, q⟩ := p; ⟨h', tk', σ', l', e, st.trans st', i, q⟩
theorem PS.lifts {t : Sem Flow} {h₁ : Heap} {tk₁ : Nat} {σ₁ : AH} (st : Step C.lo (XC C) σ s.heap σ₁ h₁) (h : wpAny (model prog w) C.A t (PS prog C σ₁ { s with heap := h₁, toks := tk₁ } K) NoE { s with heap := h₁, toks := tk₁ }) :
    wpAny (model prog w) C.A t (PS prog C σ s K) NoE { s with heap := h₁, toks := tk₁ } := wpAny_mono h (fun _ _ p => p.lift st) fun _ _ e => e
theorem Step.toX (st : Step C.lo NoX σ s.heap σ' h') : Step C.lo (XC C) σ s.heap σ' h' := st.weaken fun _ z => z.elim

theorem noRef_val {h : Heap} {v : AV} {u : Value} (r : VRel h v u) (e : noRef v = true) : ∀ a, u ≠ .ref a := by
  intro a
  cases v with
  | none => cases r; simp
  | bool b => cases r; simp
  | int i => obtain ⟨t, rfl⟩ := r; simp
  | str i => obtain ⟨t, rfl⟩ := r; simp
  | _ => cases e

theorem store_local (c : CxOK w L n C) (hL : C.env.locals = C.Lf) (i : Inv prog C l σ s.heap) {x : Str} {v : AV} {u : Value} (hk : C.env.kindOf x = some .local) (rv : VRel s.heap v u) {P : Unit → Shared → Prop}
    (k : ∀ h' tk, Step C.lo (XC C) σ s.heap σ h' → Inv prog C (updL l x v) σ h' → Imm s.heap h' → P () { s with heap := h', toks := tk }) : wpAny (model prog w) C.A (storeName C.env x u) P NoE s := by
  obtain ⟨m, hn, f⟩ := i.lrel.loc
  refine wpAny_storeName_local hk hn (fun h' hn' sb => ?_) (by rw [c.kind]; rfl)
  obtain ⟨o, g, ni, nc⟩ := objNs hn
  have im : Imm s.heap h' := fun b o' q im => (sb.2 b (by rintro rfl; rw [g] at q; cases q; exact ni im)).trans q
  have nl := i.noLoc
  obtain ⟨m₀, F⟩ := i.fr
  refine k h' _ (Step.but (fun b o ne q => (sb.2 b ne).trans q) (.inl rfl)) ⟨⟨_, F.set (hL ▸ hn') (hL ▸ sb)⟩, i.own, i.hrel.step im fun a ob q e => (sb.2 a (by rintro rfl; exact q nl)).trans e, ?_⟩ im
  refine ⟨⟨_, hn', fun y v' e q => ?_⟩, fun y v' e q => ?_, fun y e => ?_, i.lrel.apart, fun y a e => by
    obtain ⟨v₀, oc, e2, e4⟩ := i.lrel.all y a e
    exact ⟨v₀, oc, (sb.2 a (by rintro rfl; rw [g] at e2; cases e2; exact nc _ e4)).trans e2, e4⟩⟩
  · by_cases z : y = x
    · subst z; unfold updL at e; rw [if_pos rfl] at e; cases e; exact ⟨u, if_pos rfl, rv.mono im⟩
    · unfold updL at e; rw [if_neg z] at e
      obtain ⟨u', e1, e2⟩ := f y v' e q
      exact ⟨u', (if_neg z).trans e1, e2.mono im⟩
  · have z : y ≠ x := by rintro rfl; rw [hk] at q; rcases q with q | q <;> cases q
    unfold updL at e; rw [if_neg z] at e
    obtain ⟨a, u', e1, ⟨oc, e2, e4⟩, e3⟩ := i.lrel.cel y v' e q
    exact ⟨a, u', e1, ⟨oc, (sb.2 a (by rintro rfl; rw [g] at e2; cases e2; exact nc _ e4)).trans e2, e4⟩, e3.mono im⟩
  · obtain ⟨a, v₀, e1, ⟨oc, e2, e4⟩⟩ := i.lrel.has y e
    exact ⟨a, v₀, e1, ⟨oc, (sb.2 a (by rintro rfl; rw [g] at e2; cases e2; exact nc _ e4)).trans e2, e4⟩⟩

theorem store_cell (c : CxOK w L n C) (i : Inv prog C l σ s.heap) {x : Str} {v : AV} {u : Value} (hk : C.env.kindOf x = some .cell) (rv : VRel s.heap v u) {P : Unit → Shared → Prop}
    (k : ∀ h' tk, Step C.lo (XC C) σ s.heap σ h' → Inv prog C (updL l x v) σ h' → Imm s.heap h' → P () { s with heap := h', toks := tk }) : wpAny (model prog w) C.A (storeName C.env x u) P NoE s := by
  obtain ⟨ca, v₀, hc, hcell⟩ := i.lrel.has x hk
  refine wpAny_storeName_cell c.kind hk hc hcell fun h' hv sb => ?_
  obtain ⟨o, g, d⟩ := hcell
  have im : Imm s.heap h' := fun b o' q im => (sb.2 b (by
    rintro rfl
    rw [g] at q; cases q
    exact im.2.2 _ d)).trans q
  have ns : σ ca = none := i.noCell g d
  obtain ⟨hca, hne⟩ := c.cells x ca hc
  obtain ⟨m₀, F⟩ := i.fr
  have notLoc : ∀ o', s.heap.get? C.env.locals = some o' → C.env.locals ≠ ca := fun o' e z => by
    obtain ⟨m, ⟨o₂, es, ep, g₂, d₂, _⟩, _⟩ := i.lrel.loc
    rw [z, g] at g₂; cases g₂; rw [d] at d₂; cases d₂
  refine k h' _ (Step.but (fun b o ne q => (sb.2 b ne).trans q) (.inr ⟨x, hc⟩)) ⟨⟨m₀, Fr.step F (fun b o q q' => (sb.2 b (by rintro rfl; rw [hca] at q; cases q)).trans q') fun o q => (sb.2 _ (Ne.symm hne)).trans q⟩, i.own, i.hrel.step im fun a ob q e => (sb.2 a (by rintro rfl; exact q ns)).trans e, ?_⟩ im
  refine ⟨?_, fun y v' e q => ?_, fun y e => ?_, i.lrel.apart, fun y a e => by
    by_cases z : a = ca
    · subst z; exact ⟨_, hv⟩
    · obtain ⟨v₀, oc, e2, e4⟩ := i.lrel.all y a e
      exact ⟨v₀, oc, (sb.2 a z).trans e2, e4⟩⟩
  · obtain ⟨m, ⟨o₂, es, ep, g₂, r₂⟩, f⟩ := i.lrel.loc
    refine ⟨m, ⟨o₂, es, ep, (sb.2 _ (notLoc o₂ g₂)).trans g₂, r₂⟩, fun y v' e q => ?_⟩
    have z : y ≠ x := by rintro rfl; rw [hk] at q; cases q
    unfold updL at e; rw [if_neg z] at e
    obtain ⟨u', e1, e2⟩ := f y v' e q
    exact ⟨u', e1, e2.mono im⟩
  · by_cases z : y = x
    · subst z; unfold updL at e; rw [if_pos rfl] at e; cases e; exact ⟨ca, u, hc, hv, rv.mono im⟩
    · unfold updL at e; rw [if_neg z] at e
      obtain ⟨a, u', e1, ⟨oc, e2, e4⟩, e3⟩ := i.lrel.cel y v' e q
      exact ⟨a, u', e1, ⟨oc, (sb.2 a (by rintro rfl; exact z (i.lrel.apart y x a e1 hc))).trans e2, e4⟩, e3.mono im⟩
  · by_cases z : y = x
    · subst z; exact ⟨ca, some u, hc, hv⟩
    · obtain ⟨a, v₀', e1, ⟨oc, e2, e4⟩⟩ := i.lrel.has y e
      exact ⟨a, v₀', e1, ⟨oc, (sb.2 a (by rintro rfl; exact z (i.lrel.apart y x a e1 hc))).trans e2, e4⟩⟩

theorem store_ok (c : CxOK w L n C) (hN : C.env.scope.names = N) (hL : C.env.locals = C.Lf) (i : Inv prog C l σ s.heap) {x : Str} {v : AV} {u : Value} (hk : okN N x = true) (rv : VRel s.heap v u) {P : Unit → Shared → Prop}
    (k : ∀ h' tk, Step C.lo (XC C) σ s.heap σ h' → Inv prog C (updL l x v) σ h' → Imm s.heap h' → P () { s with heap := h', toks := tk }) : wpAny (model prog w) C.A (storeName C.env x u) P NoE s := by
  unfold okN at hk
  rw [Bool.or_eq_true, beq_iff_eq, beq_iff_eq] at hk
  rcases hk with e | e
  · exact store_local c hL i (by show C.env.scope.names.lookup x = _; rw [hN]; exact e) rv k
  · exact store_cell c i (by show C.env.scope.names.lookup x = _; rw [hN]; exact e) rv k

theorem bindTs_cons {t : Expr} {ts : List Expr} {vs : List AV} {l l' : Loc} (e : bindTs N (t :: ts) vs l = some l') : ∃ x p v vs', t = .Name x p ∧ vs = v :: vs' ∧ okN N x = true ∧ bindTs N ts vs' (updL l x v) = some l' := by
  cases vs with
  | nil => exact nS e
  | cons v vs =>
    have e : (match asName t with | some x => if okN N x.1 then bindTs N ts vs (updL l x.1 v) else none | none => none) = some l' := e
    cases q : asName t with
    | none => rw [q] at e; exact nS e
    | some x =>
      rw [q] at e
      have e : (if okN N x.1 = true then bindTs N ts vs (updL l x.1 v) else none) = some l' := e
      cases k : okN N x.1 with
      | false => rw [if_neg (by rw [k]; decide)] at e; exact nS e
      | true => rw [if_pos k] at e; exact ⟨_, _, v, vs, asName_eq q, rfl, k, e⟩
theorem bindTs_len (ts : List Expr) : ∀ (vs : List AV) (us : List Value) (l l' : Loc), bindTs N ts vs l = some l' → vs.length = us.length → ts.length = us.length ∧ (assignEach ts C.env).length = ts.length ∧ (assignEach ts C.env).findIdx? (·.1) = none := by
  induction ts with
  | nil =>
    intro vs us l l' e h
    cases vs with
    | cons _ _ => exact nS e
    | nil => cases us with
      | cons _ _ => cases h
      | nil => exact ⟨rfl, rfl, rfl⟩
  | cons t ts ih =>
    intro vs us l l' e h
    obtain ⟨x, p, v, vs, rfl, rfl, _, e⟩ := bindTs_cons e
    cases us with
    | nil => cases h
    | cons u us =>
      obtain ⟨a, b, d⟩ := ih vs us _ _ e (Nat.succ.inj h)
      refine ⟨congrArg (· + 1) a, congrArg (· + 1) b, ?_⟩
      show ((false, assign (.Name x p) C.env) :: assignEach ts C.env).findIdx? (·.1) = none
      rw [List.findIdx?_cons, d]; rfl
theorem bindTs_ok (c : CxOK w L n C) (hN : C.env.scope.names = N) (hL : C.env.locals = C.Lf) (ts : List Expr) : ∀ (vs : List AV) (us : List Value) (l l' : Loc) (s : Shared) (P : Unit → Shared → Prop), Inv prog C l σ s.heap → bindTs N ts vs l = some l' → All2 (VRel s.heap) vs us →
    (∀ h' tk, Step C.lo (XC C) σ s.heap σ h' → Inv prog C l' σ h' → P () { s with heap := h', toks := tk }) →
    wpAny (model prog w) C.A (assignInOrder ((assignEach ts C.env).map (·.2)) us) P NoE s := by
  induction ts with
  | nil =>
    intro vs us l l' s P i e r k
    cases vs with
    | nil => cases r; cases e; exact wpAny_pure (k s.heap s.toks Step.refl i)
    | cons _ _ => exact nS e
  | cons t ts ih =>
    intro vs us l l' s P i e r k
    obtain ⟨x, p, v, vs, rfl, rfl, hk, e⟩ := bindTs_cons e
    cases r with
    | @cons _ u _ us ru r =>
      show wpAny _ _ (do holding us (assign (.Name x p) C.env u); assignInOrder ((assignEach ts C.env).map (·.2)) us) _ _ _
      exact wpAny_bind (wpAny_holding (wpAny_assign_Name (store_ok c hN hL i hk ru fun h₁ tk₁ st₁ i₁ im₁ =>
        ih vs us (updL l x v) l' { s with heap := h₁, toks := tk₁ } P i₁ e (r.mono fun _ _ z => z.mono im₁) fun h' tk st i' => k h' tk (st₁.trans st) i')))

theorem bindT_ok (c : CxOK w L n C) (hN : C.env.scope.names = N) (hL : C.env.locals = C.Lf) (i : Inv prog C l σ s.heap) {t : Expr} {v : AV} {u : Value} {l' : Loc} (e : bindT N t v l = some l') (rv : VRel s.heap v u) {P : Unit → Shared → Prop}
    (k : ∀ h' tk, Step C.lo (XC C) σ s.heap σ h' → Inv prog C l' σ h' → P () { s with heap := h', toks := tk }) : wpAny (model prog w) C.A (assign t C.env u) P NoE s := by
  cases t with
  | Name x p =>
    cases hk : okN N x with
    | false =>
      have e : (if okN N x = true then some (updL l x v) else none) = some l' := e
      rw [if_neg (by rw [hk]; decide)] at e; exact nS e
    | true =>
      have e : (if okN N x = true then some (updL l x v) else none) = some l' := e
      rw [if_pos hk] at e; cases e
      exact wpAny_assign_Name (store_ok c hN hL i hk rv fun h' tk st i' _ => k h' tk st i')
  | Tuple ts kk p =>
    cases v with
    | tup vs =>
      have e : bindTs N ts vs l = some l' := e
      obtain ⟨a, us, m, rfl, g, r⟩ := rv
      obtain ⟨h1, h2, h3⟩ := bindTs_len (C := C) ts vs us l l' e r.all2.length
      refine wpAny_assign_Tuple c.hh (tupIs g) (by simp [h1, h2]) h3 fun h' eb => ?_
      have gr : ∀ b o, s.heap.get? b = some o → h'.get? b = some o := fun b o q => eb b o (Nat.ne_of_lt (Heap.lt_size q)) q
      exact bindTs_ok c hN hL ts vs us l l' { s with heap := h' } P (i.grow gr) e (r.all2.mono fun _ _ z => z.mono (immOld gr)) fun h'' tk st i' => k h'' tk ((Step.grow gr).trans st) i'
    | _ => exact nS e
  | _ => exact nS e
end
end Mine.Internal


namespace Mine.Internal

noncomputable abbrev SndS (prog : Program) (w : World) (L : Lib) (n : Nat) (N : List (Str × NameKind)) (S : StE) : Prop := ∀ (C : Cx) (l : Loc) (σ : AH) (s : Shared) (st : Stmt) (K : Kont), CxOK w L n C → C.env.scope.names = N → C.env.locals = C.Lf → Inv prog C l σ s.heap → S st l σ K →
  wpAny (model prog w) C.A (exec st C.env) (PS prog C σ s K) NoE s

section
variable {prog : Program} {w : World} {L : Lib} {n : Nat} {r : Ev} {S : StE} {C : Cx} {N : List (Str × NameKind)} {l : Loc} {σ σ₀ : AH} {s : Shared} {K : Kont} {h h' h₁ : Heap}

theorem blk_ok (ihS : SndS prog w L n N S) (c : CxOK w L n C) (hN : C.env.scope.names = N) (hL : C.env.locals = C.Lf) : ∀ (b : List Stmt) (l : Loc) (σ : AH) (s : Shared) (K : Kont), Inv prog C l σ s.heap → blk S b l σ K →
    wpAny (model prog w) C.A (execs b C.env) (PS prog C σ s K) NoE s
  | [], l, σ, s, K, i, q => wpAny_execs_nil ⟨s.heap, s.toks, σ, l, rfl, Step.refl, i, q.run⟩
  | st :: rest, l, σ, s, K, i, q => by
    refine wpAny_execs_cons (wpAny_mono (ihS C l σ s st _ c hN hL i q.uncons) (fun f s' p => ?_) fun _ _ e => e)
    obtain ⟨h', tk', σ', l', rfl, st', i', p⟩ := p
    cases f with
    | next => exact PS.lifts st' (blk_ok ihS c hN hL rest l' σ' { s with heap := h', toks := tk' } K i' p)
    | cont => exact ⟨h', tk', σ', l', rfl, st', i', p⟩
    | ret v => exact ⟨h', tk', σ', l', rfl, st', i', p⟩
    | brk => exact p.elim

noncomputable abbrev XI (C : Cx) (h₁ : Heap) : Addr → Prop := fun b => XC C b ∨ h₁.get? b = none
theorem Step.unI (st : Step C.lo (XI C h) σ h σ' h') : Step C.lo (XC C) σ h σ' h' :=
  ⟨fun b o e q n => st.keep b o e q fun z => z.elim n (fun z => by rw [e] at z; cases z), fun a q q' => ⟨(st.fresh a q q').1.elim .inl fun z => z.symm, (st.fresh a q q').2⟩, fun a z n => st.alive a z fun y => y.elim n z⟩
theorem Step.toI {X : Addr → Prop} (st : Step C.lo X σ h σ' h') (f : ∀ b, X b → XC C b) : Step C.lo (XI C h₁) σ h σ' h' := st.weaken fun b z => .inl (f b z)

theorem notXC (i₁ : Inv prog C l σ₀ h₁) {I : Addr} (hI : h₁.get? I = none) : ¬ XC C I := by
  rintro (z | ⟨x, z⟩)
  · exact (i₁.side hI).2.2.1 z
  · obtain ⟨_, o, g, _⟩ := i₁.lrel.all x I z
    rw [hI] at g; cases g

theorem Step.immX (st : Step C.lo (XC C) σ h σ' h') (i : Inv prog C l σ h) : Imm h h' := fun b o q im => by
  refine st.keep b o q ?_ ?_
  · cases z : σ b with
    | none => rfl
    | some ao => obtain ⟨ob, e', ni, _⟩ := (i.hrel b ao z).has; rw [q] at e'; cases e'; exact absurd im ni
  · rintro (z | ⟨x, z⟩)
    · obtain ⟨_, hn, _⟩ := i.lrel.loc
      obtain ⟨o', g', ni, _⟩ := objNs hn
      rw [← z, q] at g'; cases g'; exact ni im
    · obtain ⟨v₀, o', g', d⟩ := i.lrel.all x b z
      rw [q] at g'; cases g'; exact im.2.2 _ d
theorem for_ok (ihS : SndS prog w L n N S) (c : CxOK w L n C) (hN : C.env.scope.names = N) (hL : C.env.locals = C.Lf) {t : Expr} {a : List Stmt} {v : AV} {xs : List AV} {l₁ : Loc} (i₁ : Inv prog C l₁ σ₀ h₁) (e₁ : s.heap = h₁) {u : Value} (rv : VRel s.heap v u) (hx : items v σ₀ = some xs)
    (hq : forL (fun l σ K => blk S a l σ K) (bindT N t) v xs xs l₁ σ₀ K) :
    wpAny (model prog w) C.A (pyIter u) (fun it s₂ => codeAny (model prog w) C.A (.forLoop t it a [] C.env) (fun r s' => match r with | .ok f => PS prog C σ₀ s K f s' | .error e => cameBackBy (model prog w) C.A C.env NoE e s') s₂) NoE s := by
  subst e₁
  have weq := c.weq
  refine iter_open (weq ▸ i₁.hrel) rv hx fun I h₂ tk₂ k12 hI hI2 it => ?_
  have nI : s.heap.get? I = none := by
    cases q : s.heap.get? I with
    | none => rfl
    | some o => exact absurd (Heap.lt_size q) (Nat.not_lt.mpr hI)
  have nX := notXC i₁ nI
  let J : Nat → Shared → Prop := fun k s' => X5 fun l σ' h tk i => A7 (s' = { s with heap := h, toks := tk }) (i + k = xs.length) (forL (fun l σ K => blk S a l σ K) (bindT N t) v xs (xs.drop i) l σ' K) (Step C.lo (XI C s.heap) σ₀ s.heap σ' h) (Inv prog C l σ' h) (σ' I = none) (ItSt h v I i)
  refine codeAny_forLoopT J (fun k s' hJ => ?_) xs.length ⟨l₁, σ₀, h₂, tk₂, 0, rfl, Nat.zero_add _, by simpa using hq, Step.grow k12, i₁.grow k12, i₁.hrel.free nI, it⟩
  obtain ⟨l, σ', h, tk, i, rfl, hik, hf, st, inv, sI, its⟩ := hJ
  have hrel : HRel prog w σ' h := weq ▸ inv.hrel
  obtain ⟨oI, gI, niI, ncI⟩ := objIt its
  obtain ⟨z1, z2, z3, _⟩ := i₁.side nI
  have chg : ∀ {h'}, (∀ b o, b ≠ I → h.get? b = some o → h'.get? b = some o) → Step C.lo (XI C s.heap) σ₀ s.heap σ' h' ∧ Inv prog C l σ' h' ∧ Imm h h' := fun {h'} e =>
    ⟨st.trans (Step.but e (.inr nI)), inv.change e gI niI ncI sI z1 z2 z3, fun b o q im => e b o (by rintro rfl; rw [gI] at q; cases q; exact niI im) q⟩
  cases hdrop : xs.drop i with
  | nil =>
    rw [hdrop] at hf
    have hnone : xs[i]? = none := by
      rw [List.drop_eq_nil_iff] at hdrop
      exact List.getElem?_eq_none hdrop
    refine wpAny_noRaise (iter_end (s := { s with heap := h, toks := tk }) c.hh hrel its hf.1 hnone fun h' tk' eb => ?_)
    obtain ⟨st', inv', _⟩ := chg eb
    exact wpAny_execs_nil ⟨h', tk', σ', l, rfl, st'.unI, inv', hf.2⟩
  | cons y rest =>
    rw [hdrop] at hf
    have hget : xs[i]? = some y := by
      have := congrArg List.head? hdrop
      rw [List.head?_drop] at this
      exact this
    have hrest : xs.drop (i + 1) = rest := by rw [← List.drop_drop, hdrop]; rfl
    have hlt : i < xs.length := (List.getElem?_eq_some_iff.mp hget).1
    obtain ⟨hit, hf⟩ := hf
    refine wpAny_noRaise (iter_item (s := { s with heap := h, toks := tk }) hrel its hit hget fun u hA tkA sb ru it' => ?_)
    have imA0 : Imm h hA := fun b o q im => (sb.2 b (by rintro rfl; rw [gI] at q; cases q; exact niI im)).trans q
    have itA := it' imA0
    obtain ⟨stA, invA, imA⟩ := chg (fun b o ne q => (sb.2 b ne).trans q)
    refine letGo_ok (s := { s with heap := hA, toks := tkA }) itA ?_
    dsimp only at hf
    refine iLoc hf fun l' hb hf => ?_
    · refine wpAny_noRaise (bindT_ok (s := { s with heap := hA, toks := tkA }) c hN hL invA hb (ru.mono imA) fun hB tkB stB invB => ?_)
      obtain ⟨oA, gA, _, _⟩ := objIt itA
      have itB : ItSt hB v I (i + 1) := itA.step (stB.immX invA) fun o q => stB.keep I o q sI nX
      refine wpAny_noRaise (wpAny_mono (blk_ok ihS c hN hL a l' σ' { s with heap := hB, toks := tkB } _ invB hf) (fun f s' p => ?_) fun _ _ e => e)
      obtain ⟨h', tk', σ₂, l₂, rfl, st₂, i₂, p⟩ := p
      have stF : Step C.lo (XI C s.heap) σ₀ s.heap σ₂ h' := (stA.trans (stB.toI fun _ z => z)).trans (st₂.toI fun _ z => z)
      have im2 : Imm hB h' := st₂.immX invB
      obtain ⟨oB, gB, _, _⟩ := objIt itB
      have sI2 : σ₂ I = none := by
        cases z : σ₂ I with
        | none => rfl
        | some _ => rcases (st₂.fresh I sI (by rw [z]; simp)).1 with q | q
                    · rw [gB] at q; cases q
                    · exact absurd q nX
      have it2 : ItSt h' v I (i + 1) := itB.step im2 fun o q => st₂.keep I o q sI nX
      have again : forL (fun l σ K => blk S a l σ K) (bindT N t) v xs rest l₂ σ₂ K → ∃ m, m < k ∧ J m { s with heap := h', toks := tk' } := fun q =>
        ⟨k - 1, (tick hik hlt).1, l₂, σ₂, h', tk', i + 1, rfl, (tick hik hlt).2, by rw [hrest]; exact q, stF, i₂, sI2, it2⟩
      cases f with
      | next => exact again p
      | cont => exact again p
      | ret v => exact ⟨h', tk', σ₂, l₂, rfl, stF.unI, i₂, p⟩
      | brk => exact p.elim

theorem while_ok (ihT : SndT prog w L n r) (ihS : SndS prog w L n N S) (c : CxOK w L n C) (hN : C.env.scope.names = N) (hL : C.env.locals = C.Lf) {t : Expr} {a : List Stmt} {m : Nat} (i : Inv prog C l σ s.heap)
    (hq : whileN (fun l σ Q => r.T N t l σ Q) (fun l σ K => blk S a l σ K) m l σ K) :
    codeAny (model prog w) C.A (.whileLoop t a [] C.env) (fun r s' => match r with | .ok f => PS prog C σ s K f s' | .error e => cameBackBy (model prog w) C.A C.env NoE e s') s := by
  let J : Nat → Shared → Prop := fun k s' => X4 fun l' σ' h tk => A4 (s' = { s with heap := h, toks := tk }) (whileN (fun l σ Q => r.T N t l σ Q) (fun l σ K => blk S a l σ K) k l' σ' K) (Step C.lo (XC C) σ s.heap σ' h) (Inv prog C l' σ' h)
  refine codeAny_whileLoop J (fun k s' hJ => ?_) m ⟨l, σ, s.heap, s.toks, rfl, hq, Step.refl, i⟩
  obtain ⟨l', σ', h, tk, rfl, hw, st, inv⟩ := hJ
  cases k with
  | zero => exact hw.elim
  | succ k =>
    refine wpAny_noRaise (seqP (ihT C N l' σ' { s with heap := h, toks := tk } t _ c hN inv hw) fun h₂ tk₂ σ₂ b bv st₂ hr₂ rb q => ?_)
    subst rb
    have i₂ := c.step inv st₂ hr₂
    have st2 : Step C.lo (XC C) σ s.heap σ₂ h₂ := st.trans st₂.toX
    cases bv with
    | false =>
      have q := q.f rfl
      rw [if_neg (by decide)]
      exact wpAny_execs_nil ⟨h₂, tk₂, σ₂, l', rfl, st2, i₂, q⟩
    | true =>
      have q := q.t rfl
      rw [if_pos rfl]
      refine wpAny_noRaise (wpAny_mono (blk_ok ihS c hN hL a l' σ₂ { s with heap := h₂, toks := tk₂ } _ i₂ q) (fun f s' p => ?_) fun _ _ e => e)
      obtain ⟨h₃, tk₃, σ₃, l₃, rfl, st₃, i₃, p⟩ := p
      have st3 := st2.trans st₃
      cases f with
      | next => exact ⟨k, Nat.lt_succ_self k, l₃, σ₃, h₃, tk₃, rfl, p, st3, i₃⟩
      | cont => exact ⟨k, Nat.lt_succ_self k, l₃, σ₃, h₃, tk₃, rfl, p, st3, i₃⟩
      | ret v => exact ⟨h₃, tk₃, σ₃, l₃, rfl, st3, i₃, p⟩
      | brk => exact p.elim
end
end Mine.Internal


namespace Mine.Internal
section
variable {prog : Program} {w : World} {L : Lib} {n : Nat} {r : Ev} {S : StE} {C : Cx} {N : List (Str × NameKind)} {l : Loc} {σ : AH} {s : Shared} {K : Kont}

theorem swapsWith_plain {e : Expr} (h : isCompE e = false) (t : Option Expr) (ln : Nat) (env : Env) : swapsWith e t ln env = pure false := by
  cases e <;> first | rfl | cases h
theorem inter_ok {env : Env} (h : env.scope.kind = .function) : interactive env = false := by unfold interactive; rw [h]; rfl

theorem setAttr_ok (LK : LibOK L) (c : CxOK w L n C) (i : Inv prog C l σ s.heap) {ov v : AV} {u y : Value} {x : Str} {Q : AH → Prop} (ru : VRel s.heap ov u) (rv : VRel s.heap v y) (q : wpSetA L ov x v σ Q) :
    wpAny (model prog w) C.A (setAttr u x y) (PU prog w C.lo σ s Q) NoE s := by
  refine iR q fun a e q => ?_
  subst e
  cases ru
  refine iN q (fun cl d fs e q => ?_) fun _ q => q.elim
  obtain ⟨hh, q⟩ := gd.t q
  rw [Bool.and_eq_true, Bool.and_eq_true] at hh
  obtain ⟨e1, e2⟩ := LK.att _ _ hh.1.1
  exact setA_ok (c.hr i) (c.libIn i) e e1 e2 rv (nodupK_ok hh.1.2) (Nat.le_of_ble_eq_true hh.2) q

theorem store_then (c : CxOK w L n C) (hN : C.env.scope.names = N) (hL : C.env.locals = C.Lf) {h₁ : Heap} {tk₁ : Nat} {σ₁ : AH} (st : Step C.lo NoX σ s.heap σ₁ h₁) (i₁ : Inv prog C l σ₁ h₁) {x : Str} {v : AV} {u : Value} (hk : okN N x = true) (rv : VRel h₁ v u) (q : K.next (updL l x v) σ₁) :
    wpAny (model prog w) C.A (storeName C.env x u) (fun _ => PS prog C σ s K .next) NoE { s with heap := h₁, toks := tk₁ } :=
  store_ok (s := { s with heap := h₁, toks := tk₁ }) c hN hL i₁ hk rv fun h' tk st' i' _ => ⟨h', tk, σ₁, updL l x v, rfl, st.toX.trans st', i', q⟩

theorem unit_then {h₁ : Heap} {tk₁ : Nat} {σ₁ : AH} (c : CxOK w L n C) (st : Step C.lo NoX σ s.heap σ₁ h₁) (i₁ : Inv prog C l σ₁ h₁) {t : Sem Unit} {Q : AH → Prop} (h : wpAny (model prog w) C.A t (PU prog w C.lo σ₁ { s with heap := h₁, toks := tk₁ } Q) NoE { s with heap := h₁, toks := tk₁ })
    (k : ∀ τ, Q τ → K.next l τ) : wpAny (model prog w) C.A t (fun _ => PS prog C σ s K .next) NoE { s with heap := h₁, toks := tk₁ } := by
  refine seqP h fun h₂ tk₂ σ₂ _ _ st₂ hr₂ _ q => ?_
  exact ⟨h₂, tk₂, σ₂, l, rfl, (st.trans st₂).toX, c.step i₁ st₂ hr₂, k _ q⟩

theorem assignComp_ok (ihE : SndE prog w L n r) (ihT : SndT prog w L n r) (c : CxOK w L n C) (hN : C.env.scope.names = N) (hL : C.env.locals = C.Lf) (i : Inv prog C l σ s.heap) {x : Str} {p sp sp' : Pos} {elt : Expr} {gens : List Comprehension} {sc : Scope}
    (h1 : swapOK N x p.line sp.line sc = true) (h : wpComp r N elt gens sc l σ fun v σ => K.next (updL l x v) σ) :
    wpAny (model prog w) C.A (exec (.Assign [.Name x p] (.ListComp elt gens sc sp) sp') C.env) (PS prog C σ s K) NoE s := by
  unfold swapOK at h1
  simp only [Bool.and_eq_true, beq_iff_eq, Bool.not_eq_true'] at h1
  obtain ⟨⟨hk, hp⟩, hno⟩ := h1
  have hk' : C.env.kindOf x = some .local := by show C.env.scope.names.lookup x = _; rw [hN]; exact hk
  have hsw : swapsWith (.ListComp elt gens sc sp) (some (.Name x p)) sp'.line C.env = pure true := by
    show (pure (C.env.blockKind == .function && C.env.kindOf x == some .local && p.line == sp.line && !(sc.names.any fun (n, k) => n == x && (k == .local || k == .cell))) : Sem Bool) = pure true
    have hb : C.env.blockKind = .function := by unfold Env.blockKind; rw [c.kind]; rfl
    rw [hb, hk', hp, hno]; simp
  rw [exec_Assign_Name_used _ _ _ _ hsw]
  refine comp_gens h fun y py iter ifs e hkk hset hok h2 => ?_
  subst e
  refine wpAny_bind (wpAny_standAt (wpAny_bind ?_))
  show wpAny _ _ (do let _ ← comprehension (.ListComp elt [⟨.Name y py, iter, ifs, 0⟩] sc sp) sc C.env _ (newList []) false (eval iter C.env) (some (assign (.Name x p) C.env))) _ _ s
  refine wpAny_bind (wpAny_mono (comp_pre (use := some (assign (.Name x p) C.env)) (P := fun _ s' => PS prog C σ s K .next s') ihE ihT c hN i hkk hok hset h2 fun D Cl h' tk σ' out m' vs nD z1 z2 z0 z3 z4 z5 z6 z7 z8 z9 z10 z11 => ?_) (fun _ s' hq => wpAny_pure (wpAny_pure hq)) fun _ _ e => e)
  -- the list is borne first, then stored, then the variables go
  have weq := c.weq
  have hrD : HRel prog w (upd σ' D (.list out)) h' := by
    intro b o q
    by_cases y : b = D
    · subst y; rw [upd_self] at q; cases q; exact ⟨vs, nD, z9, z10⟩
    · rw [upd_ne y] at q; exact (c.hr z6) b o q
  have stD : Step C.lo NoX σ s.heap (upd σ' D (.list out)) h' := ⟨fun b o e q n => z5.keep b o e q n, fun b q q' => by
    by_cases y : b = D
    · subst y; exact ⟨.inl z1, z0⟩
    · rw [upd_ne y] at q'; exact z5.fresh b q q', z5.alive⟩
  have iD := c.step i stD hrD
  obtain ⟨oC, gC, niC, ncC⟩ := objNs z4
  show wpAny _ _ (assign (.Name x p) C.env (.ref D)) _ _ _
  refine wpAny_assign_Name (store_local (s := { s with heap := h', toks := tk }) c hL iD hk' (v := .ref D) rfl fun h₂ tk₂ st₂ i₂ im₂ => ?_)
  have sC : (upd σ' D (.list out)) Cl = none := by rw [upd_ne (Ne.symm z3)]; exact z8
  have zC := i.side z2
  have nX := notXC i z2
  refine ⟨m', z4.at' fun o q => st₂.keep _ _ q sC nX, fun h₃ sb => ?_⟩
  have gC2 := st₂.keep _ _ gC sC nX
  refine ⟨h₃, tk₂, _, _, rfl, ?_, i₂.change (fun b o ne q => (sb.2 b ne).trans q) gC2 niC ncC sC zC.1 zC.2.1 zC.2.2.1, z11 D z7⟩
  exact Step.unI (((stD.toX).toI fun _ z => z).trans ((st₂.toI fun _ z => z).trans (Step.but (fun b o ne q => (sb.2 b ne).trans q) (.inr z2))))
end
end Mine.Internal


namespace Mine.Internal
section
variable {prog : Program} {w : World} {L : Lib} {n : Nat} {r : Ev} {S : StE} {C : Cx} {N : List (Str × NameKind)} {l : Loc} {σ : AH} {s : Shared} {K : Kont}

theorem sole_plain {e : Expr} (h : isCompE e = false) (t : Expr) (ln : Nat) (env : Env) : swapsWithSole [t] e ln env = pure false := by
  have : swapsWithSole [t] e ln env = swapsWith e (some t) ln env := rfl
  rw [this]; exact swapsWith_plain h _ _ _
theorem noSwap {ts : List Expr} {k : Nat} {p : Pos} {e : Expr} (h : isTupE e = false) (env : Env) : swappedStores [.Tuple ts k p] e env = pure none := by
  cases e <;> first | rfl | cases h
theorem doSwap {x y a b : Str} {px py pa pb p q : Pos} {k k' : Nat} {env : Env} (hb : env.scope.kind = .function) (hx : env.kindOf x = some .local) (hy : env.kindOf y = some .local) (ne : x ≠ y) (hl : px.line = py.line) (ha : (a == ("__debug__" : Str)) = false) (hb' : (b == ("__debug__" : Str)) = false) :
    swappedStores [.Tuple [.Name x px, .Name y py] k p] (.Tuple [.Name a pa, .Name b pb] k' q) env = pure (some [x, y]) := by
  have hk : env.blockKind = .function := by unfold Env.blockKind; rw [hb]; rfl
  unfold swappedStores
  have f8 : ∀ x p, foldedForSure 8 (.Name x p) = false := fun _ _ => rfl
  have c8 : ∀ (x : Str) p, constantsAlone 8 (.Name x p) = (x == ("__debug__" : Str)) := fun _ _ => rfl
  have nb : ([x, y] : List Str).eraseDups.length = 2 := by rw [List.eraseDups_cons]; simp [Ne.symm ne, List.eraseDups_cons]
  dsimp only
  rw [List.filterMap_cons_some (b := x), List.filterMap_cons_some (b := y), List.filterMap_nil]
  · rw [List.any_cons, List.any_cons, List.any_nil, List.all_cons, List.all_cons, List.all_cons, List.all_cons, List.all_nil, f8, f8, c8, c8, ha, hb', hk, nb]
    rfl
  · exact if_pos (by show (env.kindOf y == some .local && py.line == px.line) = true; rw [hy, hl]; simp)
  · exact if_pos (by show (env.kindOf x == some .local && px.line == px.line) = true; rw [hx]; simp)
theorem augStore_plain {i : Expr} (h : isSliceE i = false) (ov iv new : Value) : augStore i ov iv new = (do holding [new, ov, iv] (setItem ov iv new); release [new, ov, iv] []; pure .next) := by
  cases i <;> first | rfl | cases h

theorem expr_ok {e : Expr} {p : Pos} (ihE : SndE prog w L n r) (c : CxOK w L n C) (hN : C.env.scope.names = N) (i : Inv prog C l σ s.heap) (hc : isCompE e = false) (h : r.E N e l σ fun v σ => gd (noRef v) (K.next l σ)) :
    wpAny (model prog w) C.A (exec (.Expr e p) C.env) (PS prog C σ s K) NoE s := by
  refine wpAny_Expr (seqP (ihE C N l σ s e _ c hN i h) fun h₁ tk₁ σ₁ v u st hr rv q => ?_) (inter_ok c.kind) (swapsWith_plain hc _ _ _)
  obtain ⟨q1, q⟩ := gd.t q
  have hne := noRef_val rv q1
  cases u <;> first | exact absurd rfl (hne _) | exact ⟨h₁, tk₁, σ₁, l, rfl, st.toX, c.step i st hr, q⟩

theorem swap_ok (c : CxOK w L n C) (hL : C.env.locals = C.Lf) {x y : Str} {h₁ : Heap} {tk₁ : Nat} {σ₁ : AH} {v : AV} {u : Value} (st : Step C.lo NoX σ s.heap σ₁ h₁) (i₁ : Inv prog C l σ₁ h₁) (hx : C.env.kindOf x = some .local) (hy : C.env.kindOf y = some .local) (rv : VRel h₁ v u)
    (q : swapNext K l x y v σ₁) :
    wpAny (model prog w) C.A (unpackItems u ([x, y] : List Str).length none) (fun items s₂ => wpAny (model prog w) C.A (assignInOrder (([x, y] : List Str).reverse.map fun n => bindName C.env n) items.reverse) (fun _ => PS prog C σ s K .next) NoE s₂) NoE { s with heap := h₁, toks := tk₁ } := by
  refine iSwap q fun v1 v2 e q => ?_
  subst e
  · obtain ⟨a, us, m, rfl, g, r⟩ := rv
    obtain ⟨u1, u2, rfl, r1, r2⟩ := r.all2.two
    rw [show ([x, y] : List Str).length = ([u1, u2] : List Value).toArray.size from rfl]
    refine PyProof.Rows.unpackItems_tuple (items := ([u1, u2] : List Value).toArray) (s := { s with heap := h₁, toks := tk₁ }) c.hh (tupIs g) fun h₂ eb => ?_
    have gr : ∀ b o, h₁.get? b = some o → h₂.get? b = some o := fun b o q => eb b o (Nat.ne_of_lt (Heap.lt_size q)) q
    have i₂ := i₁.grow gr
    have q1 : Step C.lo (XC C) σ s.heap σ₁ h₂ := st.toX.trans (Step.grow gr)
    clear st i₁
    have e1 : (([x, y] : List Str).reverse.map fun n => bindName C.env n) = [bindName C.env y, bindName C.env x] := rfl
    have e2 : ([u1, u2].toArray.toList).reverse = [u2, u1] := rfl
    rw [e1, e2]
    refine assignInOrder_cons (wpAny_bindName ?_)
    refine store_local (s := { s with heap := h₂, toks := tk₁ }) c hL i₂ hy (r2.mono (immOld gr)) fun h₃ tk₃ st₃ i₃ im₃ => ?_
    refine assignInOrder_cons (wpAny_bindName ?_)
    refine store_local (s := { s with heap := h₃, toks := tk₃ }) c hL i₃ hx ((r1.mono (immOld gr)).mono im₃) fun h₄ tk₄ st₄ i₄ im₄ => ?_
    refine assignInOrder_nil ?_
    exact ⟨h₄, tk₄, σ₁, _, rfl, (q1.trans st₃).trans st₄, i₄, q⟩

theorem wpSwap_ok (ihE : SndE prog w L n r) (c : CxOK w L n C) (hN : C.env.scope.names = N) (hL : C.env.locals = C.Lf) (i : Inv prog C l σ s.heap) {ts es : List Expr} {k k' : Nat} {tp tp' p : Pos} (h : wpSwap r N l σ K ts es k tp) :
    wpAny (model prog w) C.A (exec (.Assign [.Tuple ts k' tp'] (.Tuple es k tp) p) C.env) (PS prog C σ s K) NoE s := by
  obtain ⟨t1, t2, rfl⟩ : ∃ t1 t2, ts = [t1, t2] := by
    cases ts with
    | nil => exact h.elim
    | cons t1 ts =>
    cases ts with
    | nil => exact h.elim
    | cons t2 ts =>
    cases ts with
    | nil => exact ⟨_, _, rfl⟩
    | cons _ _ => exact h.elim
  obtain ⟨e1, e2, rfl⟩ : ∃ e1 e2, es = [e1, e2] := by
    cases es with
    | nil => exact h.elim
    | cons t1 ts =>
    cases ts with
    | nil => exact h.elim
    | cons t2 ts =>
    cases ts with
    | nil => exact ⟨_, _, rfl⟩
    | cons _ _ => exact h.elim
  unfold wpSwap at h
  dsimp only at h
  cases x1 : asName t1 with
  | none => rw [x1] at h; exact h.elim
  | some x =>
  cases x2 : asName t2 with
  | none => rw [x1, x2] at h; exact h.elim
  | some y =>
  cases x3 : asName e1 with
  | none => rw [x1, x2, x3] at h; exact h.elim
  | some a =>
  cases x4 : asName e2 with
  | none => rw [x1, x2, x3, x4] at h; exact h.elim
  | some b =>
  rw [x1, x2, x3, x4] at h
  obtain ⟨hh, h⟩ := gd.t h
  rw [Bool.and_eq_true, Bool.and_eq_true, Bool.and_eq_true, Bool.and_eq_true, Bool.and_eq_true, beq_iff_eq, beq_iff_eq, beq_iff_eq, Bool.not_eq_true', Bool.not_eq_true', Bool.not_eq_true', beq_eq_false_iff_ne] at hh
  obtain ⟨⟨⟨⟨⟨hx, hy⟩, ne⟩, hl⟩, ha⟩, hb⟩ := hh
  rw [asName_eq x1, asName_eq x2, asName_eq x3, asName_eq x4] at *
  have hx' : C.env.kindOf x.1 = some .local := by show C.env.scope.names.lookup x.1 = _; rw [hN]; exact hx
  have hy' : C.env.kindOf y.1 = some .local := by show C.env.scope.names.lookup y.1 = _; rw [hN]; exact hy
  refine Assign_Tuple_swapped (names := [x.1, y.1]) (seqP (ihE C N l _ _ _ _ c hN i h) fun h₁ tk₁ σ₁ v u st hr rv q => ?_) rfl (doSwap c.kind hx' hy' ne hl ha hb)
  exact swap_ok c hL st (c.step i st hr) hx' hy' rv q

theorem for_dict0 {t : Expr} {a : List Stmt} {h₁ : Heap} {tk₁ : Nat} {σ₁ : AH} {v : AV} {u : Value} (c : CxOK w L n C) (i₁ : Inv prog C l σ₁ h₁) (st : Step C.lo NoX σ s.heap σ₁ h₁) (hr : HRel prog w σ₁ h₁) (rv : VRel h₁ v u) (hd : isDict0 v σ₁ = true) (q : K.next l σ₁) :
    wpAny (model prog w) C.A (pyIter u) (fun itv s' => codeAny (model prog w) C.A (.forLoop t itv a [] C.env) (fun r s' => match r with | .ok f => PS prog C σ s K f s' | .error e => cameBackBy (model prog w) C.A C.env NoE e s') s') NoE { s with heap := h₁, toks := tk₁ } := by
  refine iDict0 hd fun d e ed => ?_
  subst e
  cases rv
  obtain ⟨m, g⟩ := hr _ _ ed
  have D := dictOf_nil (prog := prog) (w := w) (knd := intKind prog w) g
  obtain ⟨ep, D'⟩ := D.dictAt
  refine wpAny_pyIter_dict (knd := intKind prog w) (c.noSys i₁ d (by rw [ed]; simp)) D' ?_
  have k1 : ∀ b o, h₁.get? b = some o → (h₁.push { cls := .type "dict_keyiterator", data := .fields #[.ref d, .int 0 0, .int ([] : List (Int × Value)).length 0, .int ep 0] }).get? b = some o := fun b o e => Heap.get?_push_of_some _ e
  refine codeAny_forLoopT (fun _ s' => s' = { s with heap := h₁.push { cls := .type "dict_keyiterator", data := .fields #[.ref d, .int 0 0, .int ([] : List (Int × Value)).length 0, .int ep 0] }, toks := tk₁ }) (fun k s' hJ => ?_) 0 rfl
  subst hJ
  refine wpAny_noRaise (wpAny_pyNext_dict_end (knd := intKind prog w) (kvs := []) (i := 0) (ep := ep) (d := d) c.hh ⟨_, Heap.get?_push_size _ rfl, rfl, rfl⟩ (D'.push _) rfl fun h' eb => ?_)
  have k2 : ∀ b o, h₁.get? b = some o → h'.get? b = some o := fun b o e => eb b o (Nat.ne_of_lt (Heap.lt_size e)) (k1 b o e)
  exact wpAny_execs_nil ⟨h', _, σ₁, l, rfl, st.toX.trans (Step.grow k2), i₁.grow k2, q⟩
theorem st_ok (LK : LibOK L) (ihE : SndE prog w L n r) (ihT : SndT prog w L n r) (ihS : SndS prog w L n N S) : SndS prog w L n N (stS L r S N) := by
  intro C l σ s st K c hN hL i h
  have e1 : ∀ {e : Expr} {Q : AV → AH → Prop} {P : Value → Shared → Prop} {σ : AH} {s : Shared}, Inv prog C l σ s.heap → r.E N e l σ Q → (∀ h₁ tk₁ σ₁ v u, Step C.lo NoX σ s.heap σ₁ h₁ → Inv prog C l σ₁ h₁ → HRel prog w σ₁ h₁ → Imm s.heap h₁ → VRel h₁ v u → Q v σ₁ → P u { s with heap := h₁, toks := tk₁ }) →
      wpAny (model prog w) C.A (eval e C.env) P NoE s := fun i q k =>
    seqP (ihE C N l _ _ _ _ c hN i q) fun h₁ tk₁ σ₁ v u st hr rv q => k h₁ tk₁ σ₁ v u st (c.step i st hr) hr (st.imm0 (c.hr i)) rv q
  cases st with
  | Pass p => exact wpAny_Pass ⟨s.heap, s.toks, σ, l, rfl, Step.refl, i, h⟩
  | Continue p => exact wpAny_Continue ⟨s.heap, s.toks, σ, l, rfl, Step.refl, i, h⟩
  | Return o p =>
    cases o with
    | none => exact wpAny_Return_none ⟨s.heap, s.toks, σ, l, rfl, Step.refl, i, .none, rfl, h⟩
    | some e => exact wpAny_Return_some (e1 i h fun h₁ tk₁ σ₁ v u st i₁ hr im rv q => ⟨h₁, tk₁, σ₁, l, rfl, st.toX, i₁, v, rv, q⟩)
  | Expr e p => exact expr_ok ihE c hN i (gd.f h).1 (gd.f h).2
  | If t a b p =>
    refine wpAny_If (seqP (ihT C N l σ s t _ c hN i h) fun h₁ tk₁ σ₁ u uv st hr ru q => ?_)
    subst ru
    cases uv
    · have q := q.f rfl; rw [if_neg (by decide)]; exact PS.lifts st.toX (blk_ok ihS c hN hL b l σ₁ { s with heap := h₁, toks := tk₁ } K (c.step i st hr) q)
    · have q := q.t rfl; rw [if_pos rfl]; exact PS.lifts st.toX (blk_ok ihS c hN hL a l σ₁ { s with heap := h₁, toks := tk₁ } K (c.step i st hr) q)
  | While t a els p =>
    cases els with
    | cons _ _ => exact h.elim
    | nil =>
      obtain ⟨m, h⟩ := h
      exact wpAny_While (while_ok ihT ihS c hN hL i h)
  | For t it a els p =>
    cases els with
    | cons _ _ => exact h.elim
    | nil =>
    obtain ⟨hs, h⟩ := gd.f h
    refine wpAny_For (e1 i h fun h₁ tk₁ σ₁ v u st i₁ hr im rv q => ?_) (folded_ok hs C.env)
    rcases q with ⟨hd, q⟩ | ⟨xs, hx, q⟩
    · exact for_dict0 c i₁ st hr rv hd q
    · refine wpAny_mono (for_ok (s := { s with heap := h₁, toks := tk₁ }) ihS c hN hL i₁ rfl rv hx q) (fun itv s' z => codeAny_mono z fun r s'' y => ?_) fun _ _ e => e
      cases r with
      | ok f => exact PS.lift st.toX y
      | error e => exact y
  | Assign ts e p =>
    cases ts with
    | nil => exact h.elim
    | cons t ts =>
    cases ts with
    | cons _ _ => exact h.elim
    | nil =>
    cases t with
    | Name x px =>
      have gen : ∀ e, gd (!isCompE e && okN N x) (r.E N e l σ fun v σ => K.next (updL l x v) σ) → wpAny (model prog w) C.A (exec (.Assign [.Name x px] e p) C.env) (PS prog C σ s K) NoE s := fun e h => by
        obtain ⟨hh, h⟩ := gd.t h
        rw [Bool.and_eq_true, Bool.not_eq_true'] at hh
        exact wpAny_Assign_Name (e1 i h fun h₁ tk₁ σ₁ v u st i₁ hr im rv q => store_then c hN hL st i₁ hh.2 rv q) (swapsWith_plain hh.1 _ _ _)
      cases e <;> first | exact gen _ h | exact assignComp_ok ihE ihT c hN hL i (gd.t h).1 (gd.t h).2
    | Tuple ts k tp =>
      have gen : ∀ e, gd (!isCompE e && !isTupE e) (r.E N e l σ fun v σ => (match bindT N (.Tuple ts k tp) v l with | some l' => K.next l' σ | none => False)) → wpAny (model prog w) C.A (exec (.Assign [.Tuple ts k tp] e p) C.env) (PS prog C σ s K) NoE s := fun e h => by
        obtain ⟨hh, h⟩ := gd.t h
        rw [Bool.and_eq_true, Bool.not_eq_true', Bool.not_eq_true'] at hh
        refine Assign_Tuple (e1 i h fun h₁ tk₁ σ₁ v u st i₁ hr im rv q => ?_) (sole_plain hh.1 _ _ _) (noSwap hh.2 _)
        cases hb : bindT N (.Tuple ts k tp) v l with
        | none => rw [hb] at q; exact q.elim
        | some l' =>
          rw [hb] at q
          exact bindT_ok (s := { s with heap := h₁, toks := tk₁ }) c hN hL i₁ hb rv fun h' tk st' i' => ⟨h', tk, σ₁, l', rfl, st.toX.trans st', i', q⟩
      cases e <;> first | exact gen _ h | exact wpSwap_ok ihE c hN hL i h
    | Subscript o ix px =>
      obtain ⟨h1, h⟩ := gd.f h
      refine wpAny_Assign_Subscript (e1 i h fun h₁ tk₁ σ₁ v u st i₁ hr im rv q => e1 (s := { s with heap := h₁, toks := tk₁ }) i₁ q fun h₂ tk₂ σ₂ v₂ u₂ st₂ i₂ hr₂ im₂ rv₂ q₂ => e1 (s := { s with heap := h₂, toks := tk₂ }) i₂ q₂ fun h₃ tk₃ σ₃ v₃ u₃ st₃ i₃ hr₃ im₃ rv₃ q₃ => ?_) (swapsWith_plain h1 _ _ _)
      exact unit_then c ((st.trans st₂).trans st₃) i₃ (set_ok (s := { s with heap := h₃, toks := tk₃ }) hr₃ c.cline (rv₂.mono im₃) rv₃ ((rv.mono im₂).mono im₃) q₃) fun _ z => z
    | Attribute o x px =>
      obtain ⟨h1, h⟩ := gd.f h
      refine plainObj_wpAny_Assign_Attribute (e1 i h fun h₁ tk₁ σ₁ v u st i₁ hr im rv q => e1 (s := { s with heap := h₁, toks := tk₁ }) i₁ q fun h₂ tk₂ σ₂ v₂ u₂ st₂ i₂ hr₂ im₂ rv₂ q₂ => ?_) (swapsWith_plain h1 _ _ _)
      exact unit_then c (st.trans st₂) i₂ (setAttr_ok (s := { s with heap := h₂, toks := tk₂ }) LK c i₂ rv₂ (rv.mono im₂) q₂) fun _ z => z
    | _ => exact h.elim
  | AugAssign t op e p =>
    cases t with
    | Name x px =>
      obtain ⟨hk, h⟩ := gd.t h
      cases ha : l x with
      | none => rw [ha] at h; exact h.elim
      | some a =>
      rw [ha] at h
      have hk0 := hk
      unfold okN at hk
      rw [Bool.or_eq_true, beq_iff_eq, beq_iff_eq] at hk
      have load : ∀ {P : Value → Shared → Prop}, (∀ u, VRel s.heap a u → P u s) → wpAny (model prog w) C.A (loadName C.env x) P NoE s := fun k => by
        rcases hk with hk | hk
        · have hk' : C.env.kindOf x = some .local := by show C.env.scope.names.lookup x = _; rw [hN]; exact hk
          obtain ⟨m, hn, f⟩ := i.lrel.loc
          obtain ⟨u, e1, e2⟩ := f x a ha hk'
          exact wpAny_loadName_local c.kind hk' hn e1 (k u e2)
        · have hk' : C.env.kindOf x = some .cell := by show C.env.scope.names.lookup x = _; rw [hN]; exact hk
          obtain ⟨ca, u, e1, e2, e3⟩ := i.lrel.cel x a ha (.inl hk')
          exact wpAny_loadName_cell c.kind hk' e1 e2 (k u e3)
      refine wpAny_AugAssign_Name (load fun u ru => e1 i h fun h₁ tk₁ σ₁ v u₁ st i₁ hr im rv q => ?_)
      refine seqP (inplace_ok (lo := C.lo) (s := { s with heap := h₁, toks := tk₁ }) hr (ru.mono im) rv q) fun h₂ tk₂ σ₂ v₂ u₂ st₂ hr₂ rv₂ q₂ => ?_
      exact store_then c hN hL (st.trans st₂) (c.step i₁ st₂ hr₂) hk0 rv₂ q₂
    | Attribute o x px =>
      refine wpAny_AugAssign_AttributeAny (e1 i h fun h₁ tk₁ σ₁ v u st i₁ hr im rv q => ?_)
      refine seqP (attr_ok (s := { s with heap := h₁, toks := tk₁ }) LK c i₁ rv q) fun h₂ tk₂ σ₂ v₂ u₂ st₂ hr₂ rv₂ q₂ => ?_
      have i₂ := c.step i₁ st₂ hr₂
      refine e1 (s := { s with heap := h₂, toks := tk₂ }) i₂ q₂ fun h₃ tk₃ σ₃ v₃ u₃ st₃ i₃ hr₃ im₃ rv₃ q₃ => ?_
      refine seqP (inplace_ok (lo := C.lo) (s := { s with heap := h₃, toks := tk₃ }) hr₃ (rv₂.mono im₃) rv₃ q₃) fun h₄ tk₄ σ₄ v₄ u₄ st₄ hr₄ rv₄ q₄ => ?_
      have i₄ := c.step i₃ st₄ hr₄
      exact unit_then c (((st.trans st₂).trans st₃).trans st₄) i₄ (setAttr_ok (s := { s with heap := h₄, toks := tk₄ }) LK c i₄ (((rv.mono (st₂.imm0 hr)).mono im₃).mono (st₄.imm0 hr₃)) rv₄ q₄) fun _ z => z
    | Subscript o ix px =>
      obtain ⟨hsl, h⟩ := gd.f h
      refine wpAny_AugAssign_SubscriptAny (e1 i h fun h₁ tk₁ σ₁ v u st i₁ hr im rv q => e1 (s := { s with heap := h₁, toks := tk₁ }) i₁ q fun h₂ tk₂ σ₂ v₂ u₂ st₂ i₂ hr₂ im₂ rv₂ q₂ => ?_) (augStore_plain hsl)
      refine seqP (item_ok (lo := C.lo) (s := { s with heap := h₂, toks := tk₂ }) hr₂ (rv.mono im₂) rv₂ q₂).1 fun h₃ tk₃ σ₃ v₃ u₃ st₃ hr₃ rv₃ q₃ => ?_
      have i₃ := c.step i₂ st₃ hr₃
      have im₃ := st₃.imm0 hr₂
      refine e1 (s := { s with heap := h₃, toks := tk₃ }) i₃ q₃ fun h₄ tk₄ σ₄ v₄ u₄ st₄ i₄ hr₄ im₄ rv₄ q₄ => ?_
      refine seqP (inplace_ok (lo := C.lo) (s := { s with heap := h₄, toks := tk₄ }) hr₄ (rv₃.mono im₄) rv₄ q₄) fun h₅ tk₅ σ₅ v₅ u₅ st₅ hr₅ rv₅ q₅ => ?_
      have i₅ := c.step i₄ st₅ hr₅
      have im₅ := st₅.imm0 hr₄
      exact unit_then c ((((st.trans st₂).trans st₃).trans st₄).trans st₅) i₅ (set_ok (s := { s with heap := h₅, toks := tk₅ }) hr₅ c.cline ((((rv.mono im₂).mono im₃).mono im₄).mono im₅) (((rv₂.mono im₃).mono im₄).mono im₅) rv₅ q₅) fun _ z => z
    | _ => exact h.elim
  | _ => exact h.elim

theorem stN_ok (LK : LibOK L) (m : Nat) : ∀ k, SndS prog w L n N (stN L (ev prog w L n m) N k)
  | 0 => fun _ _ _ _ _ _ _ _ _ _ h => h.elim
  | k + 1 => st_ok LK (ev_ok LK m).1 (ev_ok LK m).2 (stN_ok LK m k)
end
end Mine.Internal


namespace Mine.Internal

theorem bindL_ok {k : Str → Option NameKind} {y : Str} (hy : k y = some .local) : ∀ (binds : List (Str × Value)) (m : Str → Option Value), (binds.map (·.1)).Nodup → bindL k binds m y = (binds.lookup y).or (m y)
  | [], m, _ => rfl
  | (x, v) :: r, m, nd => by
    rw [List.map_cons, List.nodup_cons] at nd
    unfold bindL
    rw [bindL_ok hy r _ nd.2, List.lookup_cons]
    by_cases z : y = x
    · subst z
      have : r.lookup y = none := List.lookup_eq_none_iff.mpr fun p hp => by
        have : p.1 ≠ y := fun q => nd.1 (List.mem_map.mpr ⟨p, hp, q⟩)
        simpa using Ne.symm this
      simp [this, hy]
    · have hb : (y == x) = false := by simpa using z
      rw [hb]
      by_cases q : k x = some .local
      · rw [if_pos q]; dsimp only; rw [if_neg z]
      · rw [if_neg q]
theorem bindC_ok {k : Str → Option NameKind} {y : Str} (hy : k y ≠ some .local) : ∀ (binds : List (Str × Value)) (m : Str → Option Value), (binds.map (·.1)).Nodup → bindC k binds m y = (binds.lookup y).or (m y)
  | [], m, _ => rfl
  | (x, v) :: r, m, nd => by
    rw [List.map_cons, List.nodup_cons] at nd
    unfold bindC
    rw [bindC_ok hy r _ nd.2, List.lookup_cons]
    by_cases z : y = x
    · subst z
      have : r.lookup y = none := List.lookup_eq_none_iff.mpr fun p hp => by
        have : p.1 ≠ y := fun q => nd.1 (List.mem_map.mpr ⟨p, hp, q⟩)
        simpa using Ne.symm this
      simp [this, hy]
    · have hb : (y == x) = false := by simpa using z
      rw [hb]
      by_cases q : k x = some .local
      · rw [if_pos q]
      · rw [if_neg q]; dsimp only; rw [if_neg z]

theorem zip_look {h : Heap} {x : Str} {as : List AV} {us : List Value} (r : All2 (VRel h) as us) : ∀ {names : List Str} {v : AV}, (names.zip as).lookup x = some v → ∃ u, (names.zip us).lookup x = some u ∧ VRel h v u := by
  induction r with
  | nil => intro names v e; cases names <;> exact nS e
  | @cons a b as us r rs ih =>
    intro names v e
    cases names with
    | nil => exact nS e
    | cons nm names =>
      rw [List.zip_cons_cons, List.lookup_cons] at e ⊢
      cases q : x == nm with
      | true => rw [q] at e; cases e; exact ⟨_, rfl, r⟩
      | false => rw [q] at e; exact ih e

noncomputable def newsF (σ : AH) (h : Heap) (a : Addr) : Option (Addr × Obj) := match σ a with | some _ => (h.get? a).map fun o => (a, o) | none => none
noncomputable def newsOf (σ : AH) (h : Heap) : List (Addr × Obj) := (List.range h.objs.size).filterMap (newsF σ h)
theorem newsOf_mem {σ : AH} {h : Heap} {p : Addr × Obj} (m : p ∈ newsOf σ h) : σ p.1 ≠ none ∧ h.get? p.1 = some p.2 := by
  obtain ⟨a, _, e⟩ := List.mem_filterMap.mp m
  unfold newsF at e
  cases q : σ a with
  | none => rw [q] at e; exact nS e
  | some x =>
    rw [q] at e
    obtain ⟨o, e1, rfl⟩ := Option.map_eq_some_iff.mp e
    exact ⟨by rw [q]; simp, e1⟩
theorem newsOf_has {σ : AH} {h : Heap} {a : Addr} {o : Obj} (q : σ a ≠ none) (e : h.get? a = some o) : (a, o) ∈ newsOf σ h := by
  refine List.mem_filterMap.mpr ⟨a, List.mem_range.mpr (Heap.lt_size e), ?_⟩
  unfold newsF
  cases z : σ a with
  | none => exact absurd z q
  | some x => show (h.get? a).map _ = _; rw [e]; rfl

noncomputable def argLoc (names : List Str) (as : List AV) : Loc := fun x => (names.zip as).lookup x

section
variable {prog : Program} {w : World} {L : Lib} {n : Nat} {r : Ev} {S : StE} {C : Cx} {N : List (Str × NameKind)} {l : Loc} {σ : AH} {s : Shared}

/-- a call of a def: the frame, and the body in it -/
theorem code_call (c : CxOK w L (n + 1) C) (b : Base prog w C σ s.heap) {A' : Around} (hA1 : A'.depth ≤ C.A.depth + 1) (hA2 : A'.units ≤ C.A.units + 10) (hA3 : A'.frames = C.A.frames) (hA4 : A'.handled = none) {f : Addr} {oc : Value} {od : Option Addr} {osl : Array (Option Value)} {name qual : Str} {params : Arguments} {body : List Stmt} {scope : Scope} {dV kV doc pm cdv ct : Value} {an : Option Addr}
    (ho : L.K.lookup f = some ⟨oc, od, .func (fnX name qual params body scope [] dV kV doc pm an cdv ct), osl⟩) (hcd : codeIn L.K cdv qual = true)
    {names : List Str} {as : List AV} {us : List Value} {args : Args} (hbind : BindsTo s (fnX name qual params body scope [] dV kV doc pm an cdv ct) args (names.zip us)) (rv : All2 (VRel s.heap) as us)
    (hlen : names.length = us.length) (hnd : names.Nodup) (hkind : (names.all fun y => scope.names.lookup y == some .local || scope.names.lookup y == some .cell) = true) (hcn : ((cellsFrom 0 scope.names []).map (·.1)).Nodup)
    (hco : scope.isCoroutine = false) (hgen : scope.isGenerator = false) (hk : scope.kind = .function) {Q : AV → AH → Prop}
    (hbody : ∀ (C' : Cx) (s' : Shared), CxOK w L n C' → C'.env.scope.names = scope.names → C'.env.locals = C'.Lf → Inv prog C' (argLoc names as) σ s'.heap →
      wpAny (model prog w) C'.A (execs body C'.env) (PS prog C' σ s' ⟨fun _ σ => Q .none σ, Q, fun _ _ => False⟩) NoE s') :
    codeAny (model prog w) A' (.call (.ref f) args) (fun r s' => match r with | .ok (.ret v) => PV prog w C.lo σ s Q v s' | .ok _ => False | .error _ => False) s := by
  obtain ⟨m, F⟩ := b.fr
  obtain ⟨pr, lo, mg, mb, T⟩ := c.T
  have N' : News C.hf C.Lf s.heap (newsOf σ s.heap) := fun p hp => by
    obtain ⟨q, e⟩ := newsOf_mem hp
    exact ⟨e, (b.own _ q).2.2, (b.own _ q).2.1⟩
  have frames : A'.frames = some (C.fenv :: C.outer) := hA3.trans c.frames
  obtain ⟨FG, BG, stay, _⟩ := groundX (R := fun _ _ => True) (A := A') c.below F N' frames c.frame c.fkind
  have hmap : ((names.zip us).map (·.1)) = names := by rw [List.map_fst_zip (by (first | lia | omega))]
  have hkind' : ((names.zip us).all fun y => scope.names.lookup y.1 == some .local || scope.names.lookup y.1 == some .cell) = true := by
    have : ((names.zip us).map (·.1)).all (fun y => scope.names.lookup y == some .local || scope.names.lookup y == some .cell) = true := by rw [hmap]; exact hkind
    rwa [List.all_map] at this
  refine codeAny_call_function (by have := c.depth; show A'.depth < 1000; (first | lia | omega)) (c.X.keeps F.keep _ _ ho) rfl hco hgen rfl (codeRec_of (c.X.keeps F.keep) hcd) (hbind _ _ _ _ ?_)
  refine wpAny_newFunctionEnv_cells hk (kindsX hkind' _) fun env' he s' x => ?_
  subst he
  have keep := x.toInCall.keep
  refine ⟨(T.nolimit.keeps F.keep).keeps keep, codeAny_func (wpAny_noRaise ?_)⟩
  obtain ⟨h₁, tk, rfl, _⟩ := x.done
  dsimp only at keep
  -- the callee's context
  let env' : Env := newEnv scope s.heap.objs.size mainGlobals (cellsFrom (s.heap.objs.size + 1) scope.names []) (qual ++ ".<locals>.") (some f) cdv none builtinsNs
  let g := hideAll s.heap ((newsOf σ s.heap).map (·.1))
  have hLf : C.lo ≤ s.heap.objs.size := Nat.le_of_lt (Nat.lt_of_le_of_lt c.lolf F.ns.lt)
  have gsub : ∀ {b o}, g.get? b = some o → s.heap.get? b = some o := fun e => of_hideAll _ e
  have gsize : g.objs.size = s.heap.objs.size := hideAll_size _ _
  let C' : Cx := { w := w, A := A'.deeper env', env := env', hf := g, Lf := s.heap.objs.size, fenv := env', base := C.base, outer := C.fenv :: C.outer, A₀ := A', lo := C.lo }
  have above : ∀ y a, env'.cells.lookup y = some a → s.heap.objs.size < a := fun y a e => x.above y a (mem_of_lookup e)
  have notAlive : ∀ {a : Addr}, s.heap.objs.size ≤ a → s.heap.get? a = none := fun {a} ha => by
    cases q : s.heap.get? a with
    | none => rfl
    | some o => exact absurd (Heap.lt_size q) (Nat.not_lt.mpr ha)
  have c' : CxOK w L n C' :=
    { weq := rfl, below := BG, frames := by show (A'.frames.map (env' :: ·)) = _; rw [frames]; rfl
      frame := rfl, fkind := hk, X := c.X.keeps stay, T := ⟨pr, lo, mg, mb, T.keeps stay⟩, hh := hA4, lolf := hLf, sys := c.sys
      depth := by have := c.depth; show A'.depth + 1 + 2 * n < 990; (first | lia | omega)
      units := by have := c.units; show A'.units + 3 + 20 * n < 9000; (first | lia | omega)
      kind := hk, glob := rfl, bins := rfl, frm := rfl
      cells := fun y a e => ⟨by
        cases q : g.get? a with
        | none => rfl
        | some o => exact absurd (notAlive (Nat.le_of_lt (above y a e))) (by rw [gsub q]; simp), Nat.ne_of_gt (above y a e)⟩ }
  have i' : Inv prog C' (argLoc names as) σ h₁ := by
    refine ⟨⟨_, x.toInCall.ns, fun b o e => keep b o (gsub e), Nat.le_of_eq gsize⟩, fun a q => ?_, b.hrel.grow keep, ?_⟩
    · have q1 := b.own a q
      cases z : σ a with
      | none => exact absurd z q
      | some ao =>
        obtain ⟨ob, e, _⟩ := (b.hrel a ao z).has
        have lt : a ≠ s.heap.objs.size := Nat.ne_of_lt (Heap.lt_size e)
        exact ⟨q1.1, hideAll_none _ (List.mem_map_of_mem (newsOf_has q e)), lt, lt⟩
    · have nd : ((names.zip us).map (·.1)).Nodup := by rw [hmap]; exact hnd
      refine ⟨⟨_, x.toInCall.ns, fun y v e q => ?_⟩, fun y v e q => ?_, fun y q => ?_, fun y z a e1 e2 => ?_, fun y a e => ⟨_, x.cell y a e⟩⟩
      · obtain ⟨u, e1, e2⟩ := zip_look rv e
        refine ⟨u, ?_, e2.mono (immOld keep)⟩
        rw [bindL_ok q _ _ nd, e1]; rfl
      · obtain ⟨u, e1, e2⟩ := zip_look rv e
        have hc : (cellsFrom (s.heap.objs.size + 1) scope.names []).lookup y ≠ none := by
          have hy := List.all_eq_true.mp hkind y (by
            have := mem_of_lookup e
            exact (List.of_mem_zip this).1)
          have : scope.names.lookup y = some .cell := by
            rcases q with q | q
            · exact q
            · have q' : scope.names.lookup y = some .free := q
              rw [q'] at hy; simp at hy
          have := cellsFrom_some (x := y) scope.names (s.heap.objs.size + 1) [] (.inl this)
          intro z; rw [z] at this; cases this
        obtain ⟨a, ha⟩ := Option.ne_none_iff_exists'.mp hc
        have hnl : env'.kindOf y ≠ some .local := by rcases q with q | q <;> (show C'.env.kindOf y ≠ _; rw [q]; decide)
        refine ⟨a, u, ha, ?_, e2.mono (immOld keep)⟩
        have := x.cell y a ha
        rw [bindC_ok hnl _ _ nd, e1] at this
        exact this
      · have := cellsFrom_some (x := y) scope.names (s.heap.objs.size + 1) [] (.inl q)
        obtain ⟨a, ha⟩ := Option.isSome_iff_exists.mp this
        exact ⟨a, _, ha, x.cell y a ha⟩
      · exact name_of_addr x.apart (mem_of_lookup e1) (mem_of_lookup e2)
  refine wpAny_mono (hbody C' { s with heap := h₁, toks := tk } c' rfl rfl i') (fun fl s'' p => ?_) fun _ _ e => e
  obtain ⟨h', tk', σ', l', rfl, st, i₂, p⟩ := p
  have notX : ∀ {b}, s.heap.get? b ≠ none → ¬ XC C' b := fun {b} e => by
    rintro (z | ⟨y, z⟩)
    · exact e (notAlive (Nat.le_of_eq z.symm))
    · exact e (notAlive (Nat.le_of_lt (above y b z)))
  have back : ∀ {a}, h₁.get? a = none → s.heap.get? a = none := fun {a} e => by
    cases q : s.heap.get? a with
    | none => rfl
    | some o => have := keep a o q; rw [e] at this; cases this
  have st' : Step C.lo NoX σ s.heap σ' h' :=
    ⟨fun b o e q _ => st.keep b o (keep b o e) q (notX (by rw [e]; simp)), fun a q q' => ⟨.inl ((st.fresh a q q').1.elim back fun z => by
      cases e : s.heap.get? a with
      | none => rfl
      | some o => exact absurd z (notX (by rw [e]; simp))), (st.fresh a q q').2⟩, fun a z _ => by
      refine st.alive a (fun e => z (back e)) (notX z)⟩
  cases fl with
  | next => exact ⟨h', tk', σ', .none, rfl, st', i₂.hrel, rfl, p⟩
  | ret v => obtain ⟨a, ra, p⟩ := p; exact ⟨h', tk', σ', a, rfl, st', i₂.hrel, ra, p⟩
  | cont => exact p.elim
  | brk => exact p.elim
end
end Mine.Internal


namespace Mine.Internal

/-- a def in the written part of the heap -/
structure FnD where
  oc : Value
  od : Option Addr
  osl : Array (Option Value)
  name : Str
  qual : Str
  params : Arguments
  body : List Stmt
  scope : Scope
  dV : Value
  kV : Value
  doc : Value
  pm : Value
  an : Option Addr
  cdv : Value
  ct : Value
noncomputable abbrev FnD.fd (d : FnD) : FuncData := fnX d.name d.qual d.params d.body d.scope [] d.dV d.kV d.doc d.pm d.an d.cdv d.ct

structure FnK (K : Frag) (f : Addr) (d : FnD) (names : List Str) (nargs : Nat) (dargs : List AV) (dv : List Value) : Prop where
  ho : K.lookup f = some ⟨d.oc, d.od, .func d.fd, d.osl⟩
  hcd : codeIn K d.cdv d.qual = true
  hd : ∀ h, All2 (VRel h) dargs dv
  bind : ∀ (s : Shared) (vs : List Value), K.In s.heap → vs.length = nargs → BindsTo s d.fd ⟨vs, []⟩ (names.zip (vs ++ dv))
  len : names.length = nargs + dargs.length
  nd : names.Nodup
  kind : (names.all fun y => d.scope.names.lookup y == some .local || d.scope.names.lookup y == some .cell) = true
  cells : ((cellsFrom 0 d.scope.names []).map (·.1)).Nodup
  co : d.scope.isCoroutine = false
  gen : d.scope.isGenerator = false
  fk : d.scope.kind = .function

section
variable {prog : Program} {w : World} {L : Lib} {n : Nat} {σ : AH}

noncomputable abbrev bodyWp (prog : Program) (w : World) (L : Lib) (n m k : Nat) (d : FnD) (l : Loc) (σ : AH) (Q : AV → AH → Prop) : Prop :=
  blk (stN L (ev prog w L n m) d.scope.names k) d.body l σ ⟨fun _ σ => Q .none σ, Q, fun _ _ => False⟩

theorem FnK.call (LK : LibOK L) {f : Addr} {d : FnD} {names : List Str} {nargs : Nat} {dargs : List AV} {dv : List Value} (F : FnK L.K f d names nargs dargs dv) {args : List AV} (hlen : args.length = nargs) {Q : AV → AH → Prop} (m k : Nat)
    (h : bodyWp prog w L n m k d (argLoc names (args ++ dargs)) σ Q) : CallS prog w L (n + 1) f args σ Q := by
  refine ⟨fun C s vs c b rv => ?_⟩
  refine wpAny_call (codeAny_mono (code_call (Q := Q) c b (by (first | lia | omega)) (by (first | lia | omega)) rfl c.hh F.ho F.hcd (F.bind s vs (by obtain ⟨m, Fr'⟩ := b.fr; exact c.X.keeps Fr'.keep) (by rw [← rv.length]; exact hlen)) (rv.append (F.hd s.heap))
    (by rw [F.len, List.length_append, ← rv.length, ← (F.hd s.heap).length, hlen]) F.nd F.kind F.cells F.co F.gen F.fk fun C' s' c' hN hL i' => blk_ok (stN_ok LK m k) c' hN hL d.body _ σ s' _ i' h) fun r s' z => ?_)
  rcases r with e | (_ | _ | _ | _) <;> first | exact z | exact z.elim

theorem cls_call (LK : LibOK L) {cl f : Addr} {d : FnD} {names : List Str} {nargs : Nat} {dargs : List AV} {dv : List Value} (F : FnK L.K f d names nargs dargs dv) (hm : makesIn L.K cl = true) (hi : findIn L.K (.ref cl) "__init__" = some (some (.ref f))) (hf : isFn L.K (.ref f) = true)
    {args : List AV} (hlen : args.length + 1 = nargs) {Q : AV → AH → Prop} (m k : Nat)
    (h : ∀ x dx, x ≠ dx → σ x = none → σ dx = none → bodyWp prog w L n m k d (argLoc names (.ref x :: args ++ dargs)) (upd (upd σ dx (.ns [])) x (.inst cl dx)) (fun v τ => v = .none ∧ Q (.ref x) τ)) : CallS prog w L (n + 1) cl args σ Q := by
  refine ⟨fun C s vs c b rv => ?_⟩
  obtain ⟨M, Fr'⟩ := b.fr
  have X := c.X.keeps Fr'.keep
  obtain ⟨hh, gs, dr, t, os⟩ := s
  dsimp only at b rv X Fr'
  refine wpAny_call (make_core (makes_of X hm) (looks_findIn X hi) (fun self => bind_fn X self (beq_iff_eq.mp hf)) (.inl rfl) ?_)
  have k1 : ∀ b o, hh.get? b = some o → (hh.push emptyDict).get? b = some o := fun b o e => Heap.get?_push_of_some _ e
  have k2 : ∀ b o, hh.get? b = some o → ((hh.push emptyDict).push (instObj cl hh.objs.size)).get? b = some o := fun b o e => Heap.get?_push_of_some _ (k1 b o e)
  have lof : C.lo ≤ hh.objs.size := Nat.le_of_lt (Nat.lt_of_le_of_lt c.lolf Fr'.ns.lt)
  have nd : hh.get? hh.objs.size = none := fresh_none
  have nx : hh.get? (hh.objs.size + 1) = none := by
    cases q : hh.get? (hh.objs.size + 1) with
    | none => rfl
    | some o => exact absurd (Heap.lt_size q) (by show ¬ (hh.objs.size + 1 < hh.objs.size); (first | lia | omega))
  have sz : (hh.push emptyDict).objs.size = hh.objs.size + 1 := Heap.size_push ..
  have gx : ((hh.push emptyDict).push (instObj cl hh.objs.size)).get? (hh.objs.size + 1) = some (instObj cl hh.objs.size) := by rw [← sz]; exact Heap.get?_push_size _ rfl
  have gd : ((hh.push emptyDict).push (instObj cl hh.objs.size)).get? hh.objs.size = some (dictOf [] 0) := Heap.get?_push_of_some _ (Heap.get?_push_size _ rfl)
  have sx := b.hrel.free nx
  have sd := b.hrel.free nd
  have ne : hh.objs.size + 1 ≠ hh.objs.size := by (first | lia | omega)
  let σ₁ := upd (upd σ hh.objs.size (.ns [])) (hh.objs.size + 1) (.inst cl hh.objs.size)
  have hr₁ : HRel prog w σ₁ ((hh.push emptyDict).push (instObj cl hh.objs.size)) := by
    intro a o q
    show ORel prog w _ a o
    by_cases z : a = hh.objs.size + 1
    · subst z
      have q' : upd (upd σ hh.objs.size (.ns [])) (hh.objs.size + 1) (.inst cl hh.objs.size) (hh.objs.size + 1) = some o := q
      rw [upd_self] at q'; cases q'; exact gx
    · have q' : upd (upd σ hh.objs.size (.ns [])) (hh.objs.size + 1) (.inst cl hh.objs.size) a = some o := q
      rw [upd_ne z] at q'
      by_cases y : a = hh.objs.size
      · subst y; rw [upd_self] at q'; cases q'; exact ⟨[], 0, gd, .nil⟩
      · rw [upd_ne y] at q'; exact (b.hrel.grow k2) a o q'
  have st₁ : Step C.lo NoX σ hh σ₁ ((hh.push emptyDict).push (instObj cl hh.objs.size)) :=
    ⟨fun b o e _ _ => k2 b o e, fun a q q' => by
      by_cases z : a = hh.objs.size + 1
      · subst z; exact ⟨.inl nx, Nat.le_succ_of_le lof⟩
      · have q2 : upd (upd σ hh.objs.size (.ns [])) (hh.objs.size + 1) (.inst cl hh.objs.size) a ≠ none := q'
        rw [upd_ne z] at q2
        by_cases y : a = hh.objs.size
        · subst y; exact ⟨.inl nd, lof⟩
        · rw [upd_ne y] at q2; exact absurd q q2, fun a z _ => by
      cases q : hh.get? a with
      | none => exact absurd q z
      | some o => rw [k2 a o q]; simp⟩
  have noHf : ∀ {a}, hh.get? a = none → C.hf.get? a = none := fun {a} e => by
    cases q : C.hf.get? a with
    | none => rfl
    | some o => have := Fr'.keep a o q; rw [e] at this; cases this
  have neLf : ∀ {a}, hh.get? a = none → a ≠ C.Lf := fun {a} e => by
    rintro rfl; obtain ⟨o, _, _, g, _⟩ := Fr'.ns; rw [e] at g; cases g
  have b₁ : Base prog w C σ₁ ((hh.push emptyDict).push (instObj cl hh.objs.size)) := by
    refine ⟨⟨M, ?_⟩, fun a q => ?_, hr₁⟩
    · obtain ⟨o, es, ep, g, r⟩ := Fr'.ns
      exact ⟨⟨o, es, ep, k2 _ _ g, r⟩, fun b o e => k2 b o (Fr'.keep b o e), Fr'.above⟩
    · cases z : σ a with
      | some _ => exact b.own a (by rw [z]; simp)
      | none =>
        obtain ⟨e, lo⟩ := st₁.fresh a z q
        have e := e.resolve_right id
        exact ⟨lo, noHf e, neLf e⟩
  have hb := h (hh.objs.size + 1) hh.objs.size ne sx sd
  have rv₁ : All2 (VRel ((hh.push emptyDict).push (instObj cl hh.objs.size))) (.ref (hh.objs.size + 1) :: args) (.ref (hh.objs.size + 1) :: vs) := .cons rfl (rv.mono fun _ _ z => z.mono (immOld k2))
  have wt : (Code.builtin "type.__call__" ⟨.ref cl :: vs, []⟩).weight = 1 := rfl
  have wu : (Code.builtin "type.__call__" ⟨.ref cl :: vs, []⟩).cUnits = 1 := rfl
  have we : (Code.builtin "type.__call__" ⟨.ref cl :: vs, []⟩).envs = [] := rfl
  refine codeAny_mono (code_call (s := ⟨(hh.push emptyDict).push (instObj cl hh.objs.size), gs, dr, t, os⟩) (A' := C.A.under (.builtin "type.__call__" ⟨.ref cl :: vs, []⟩)) (Q := fun v τ => v = .none ∧ Q (.ref (hh.objs.size + 1)) τ) c b₁ (by show C.A.depth + Code.weight _ ≤ _; rw [wt]; exact Nat.le_refl _) (by show C.A.units + Code.cUnits _ ≤ _; rw [wu]; (first | lia | omega))
    (by unfold Around.under; dsimp only; rw [we]; rfl) c.hh F.ho F.hcd (F.bind ⟨(hh.push emptyDict).push (instObj cl hh.objs.size), gs, dr, t, os⟩ (.ref (hh.objs.size + 1) :: vs) (X.keeps k2) (by rw [List.length_cons, ← rv.length]; exact hlen)) (rv₁.append (F.hd _))
    (by rw [F.len, List.length_append, List.length_cons, ← rv.length, ← (F.hd hh).length, hlen]) F.nd F.kind F.cells F.co F.gen F.fk fun C' s' c' hN hL i' => blk_ok (stN_ok LK m k) c' hN hL d.body _ σ₁ s' _ i' hb) fun r s' z => ?_
  rcases r with e | (_ | _ | _ | v)
  · exact z.elim
  · exact z.elim
  · exact z.elim
  · exact z.elim
  · obtain ⟨h', tk, τ, a, e, st', hr', ra, rfl, q⟩ := z
    exact ⟨ra, h', tk, τ, .ref (hh.objs.size + 1), e, st₁.trans st', hr', rfl, q⟩
end
end Mine.Internal


namespace Mine.Internal
noncomputable def fnAt (K : Frag) (f : Addr) : Option FnD :=
  match K.lookup f with
  | some ⟨oc, od, .func ⟨name, qual, params, .stmts body, scope, _, _, dV, kV, doc, pm, an, cdv, ct, _⟩, osl⟩ => some ⟨oc, od, osl, name, qual, params, body, scope, dV, kV, doc, pm, an, cdv, ct⟩
  | _ => none
theorem vlen0 {vs : List Value} (h : vs.length = 0) : vs = [] := List.length_eq_zero_iff.mp h
theorem vlen1 {vs : List Value} (h : vs.length = 1) : ∃ v0, vs = [v0] := by
  cases vs with
  | nil => cases h
  | cons v0 vs =>
    obtain rfl := vlen0 (Nat.succ.inj h)
    exact ⟨v0, rfl⟩
theorem vlen2 {vs : List Value} (h : vs.length = 2) : ∃ v0 v1, vs = [v0, v1] := by
  cases vs with
  | nil => cases h
  | cons v0 vs =>
    obtain ⟨v1, rfl⟩ := vlen1 (Nat.succ.inj h)
    exact ⟨v0, v1, rfl⟩
theorem vlen3 {vs : List Value} (h : vs.length = 3) : ∃ v0 v1 v2, vs = [v0, v1, v2] := by
  cases vs with
  | nil => cases h
  | cons v0 vs =>
    obtain ⟨v1, v2, rfl⟩ := vlen2 (Nat.succ.inj h)
    exact ⟨v0, v1, v2, rfl⟩
theorem vlen4 {vs : List Value} (h : vs.length = 4) : ∃ v0 v1 v2 v3, vs = [v0, v1, v2, v3] := by
  cases vs with
  | nil => cases h
  | cons v0 vs =>
    obtain ⟨v1, v2, v3, rfl⟩ := vlen3 (Nat.succ.inj h)
    exact ⟨v0, v1, v2, v3, rfl⟩
theorem vlen5 {vs : List Value} (h : vs.length = 5) : ∃ v0 v1 v2 v3 v4, vs = [v0, v1, v2, v3, v4] := by
  cases vs with
  | nil => cases h
  | cons v0 vs =>
    obtain ⟨v1, v2, v3, v4, rfl⟩ := vlen4 (Nat.succ.inj h)
    exact ⟨v0, v1, v2, v3, v4, rfl⟩
theorem nil2 (h : Heap) : All2 (VRel h) ([] : List AV) ([] : List Value) := .nil

noncomputable def dIsState : FnD := (fun (d : FnD) (_ : ∀ P : Params, fnAt (MineH.Internal.KT P) 63 = some d) => d) _ (fun P => by with_unfolding_all rfl)
theorem kIsState (P : Params) : FnK (MineH.Internal.KT P) 63 dIsState ["kind"] 1 [] [] where
  ho := rfl
  hcd := rfl
  hd := nil2
  bind := fun s vs X h => by obtain ⟨v0, rfl⟩ := vlen1 h; exact BindsTo.of_eq rfl
  len := rfl
  nd := by decide
  kind := by decide
  cells := by decide
  co := rfl
  gen := rfl
  fk := rfl
noncomputable def dNetInit : FnD := (fun (d : FnD) (_ : ∀ P : Params, fnAt (MineH.Internal.KT P) 84 = some d) => d) _ (fun P => by with_unfolding_all rfl)
theorem kNetInit (P : Params) : FnK (MineH.Internal.KT P) 84 dNetInit ["self", "name"] 2 [] [] where
  ho := rfl
  hcd := rfl
  hd := nil2
  bind := fun s vs X h => by obtain ⟨v0, v1, rfl⟩ := vlen2 h; exact BindsTo.of_eq rfl
  len := rfl
  nd := by decide
  kind := by decide
  cells := by decide
  co := rfl
  gen := rfl
  fk := rfl
noncomputable def dNewNet : FnD := (fun (d : FnD) (_ : ∀ P : Params, fnAt (MineH.Internal.KT P) 91 = some d) => d) _ (fun P => by with_unfolding_all rfl)
theorem kNewNet (P : Params) : FnK (MineH.Internal.KT P) 91 dNewNet ["self"] 1 [] [] where
  ho := rfl
  hcd := rfl
  hd := nil2
  bind := fun s vs X h => by obtain ⟨v0, rfl⟩ := vlen1 h; exact BindsTo.of_eq rfl
  len := rfl
  nd := by decide
  kind := by decide
  cells := by decide
  co := rfl
  gen := rfl
  fk := rfl
noncomputable def dNewNets : FnD := (fun (d : FnD) (_ : ∀ P : Params, fnAt (MineH.Internal.KT P) 96 = some d) => d) _ (fun P => by with_unfolding_all rfl)
theorem kNewNets (P : Params) : FnK (MineH.Internal.KT P) 96 dNewNets ["self", "width"] 2 [] [] where
  ho := rfl
  hcd := rfl
  hd := nil2
  bind := fun s vs X h => by obtain ⟨v0, v1, rfl⟩ := vlen2 h; exact BindsTo.of_eq rfl
  len := rfl
  nd := by decide
  kind := by decide
  cells := by decide
  co := rfl
  gen := rfl
  fk := rfl
noncomputable def dAddInput : FnD := (fun (d : FnD) (_ : ∀ P : Params, fnAt (MineH.Internal.KT P) 103 = some d) => d) _ (fun P => by with_unfolding_all rfl)
theorem kAddInput (P : Params) : FnK (MineH.Internal.KT P) 103 dAddInput ["self", "name", "width"] 3 [] [] where
  ho := rfl
  hcd := rfl
  hd := nil2
  bind := fun s vs X h => by obtain ⟨v0, v1, v2, rfl⟩ := vlen3 h; exact BindsTo.of_eq rfl
  len := rfl
  nd := by decide
  kind := by decide
  cells := by decide
  co := rfl
  gen := rfl
  fk := rfl
noncomputable def dAddOutput : FnD := (fun (d : FnD) (_ : ∀ P : Params, fnAt (MineH.Internal.KT P) 110 = some d) => d) _ (fun P => by with_unfolding_all rfl)
theorem kAddOutput (P : Params) : FnK (MineH.Internal.KT P) 110 dAddOutput ["self", "name", "nets"] 3 [] [] where
  ho := rfl
  hcd := rfl
  hd := nil2
  bind := fun s vs X h => by obtain ⟨v0, v1, v2, rfl⟩ := vlen3 h; exact BindsTo.of_eq rfl
  len := rfl
  nd := by decide
  kind := by decide
  cells := by decide
  co := rfl
  gen := rfl
  fk := rfl
noncomputable def dAddCell : FnD := (fun (d : FnD) (_ : ∀ P : Params, fnAt (MineH.Internal.KT P) 118 = some d) => d) _ (fun P => by with_unfolding_all rfl)
theorem kAddCell (P : Params) : FnK (MineH.Internal.KT P) 118 dAddCell ["self", "kind", "ins", "param"] 3 [AV.none] [Value.none] where
  ho := rfl
  hcd := rfl
  hd := (fun _ => .cons rfl .nil)
  bind := fun s vs X h => by obtain ⟨v0, v1, v2, rfl⟩ := vlen3 h; exact binds_K (K := MineH.Internal.KT P) X rfl rfl rfl rfl rfl
  len := rfl
  nd := by decide
  kind := by decide
  cells := by decide
  co := rfl
  gen := rfl
  fk := rfl
noncomputable def dDrive : FnD := (fun (d : FnD) (_ : ∀ P : Params, fnAt (MineH.Internal.KT P) 126 = some d) => d) _ (fun P => by with_unfolding_all rfl)
theorem kDrive (P : Params) : FnK (MineH.Internal.KT P) 126 dDrive ["self", "out", "kind", "ins", "param"] 5 [] [] where
  ho := rfl
  hcd := rfl
  hd := nil2
  bind := fun s vs X h => by obtain ⟨v0, v1, v2, v3, v4, rfl⟩ := vlen5 h; exact binds_K (K := MineH.Internal.KT P) X rfl rfl rfl rfl rfl
  len := rfl
  nd := by decide
  kind := by decide
  cells := by decide
  co := rfl
  gen := rfl
  fk := rfl
noncomputable def dSources : FnD := (fun (d : FnD) (_ : ∀ P : Params, fnAt (MineH.Internal.KT P) 133 = some d) => d) _ (fun P => by with_unfolding_all rfl)
theorem kSources (P : Params) : FnK (MineH.Internal.KT P) 133 dSources ["self"] 1 [] [] where
  ho := rfl
  hcd := rfl
  hd := nil2
  bind := fun s vs X h => by obtain ⟨v0, rfl⟩ := vlen1 h; exact BindsTo.of_eq rfl
  len := rfl
  nd := by decide
  kind := by decide
  cells := by decide
  co := rfl
  gen := rfl
  fk := rfl
noncomputable def dSinks : FnD := (fun (d : FnD) (_ : ∀ P : Params, fnAt (MineH.Internal.KT P) 140 = some d) => d) _ (fun P => by with_unfolding_all rfl)
theorem kSinks (P : Params) : FnK (MineH.Internal.KT P) 140 dSinks ["self"] 1 [] [] where
  ho := rfl
  hcd := rfl
  hd := nil2
  bind := fun s vs X h => by obtain ⟨v0, rfl⟩ := vlen1 h; exact BindsTo.of_eq rfl
  len := rfl
  nd := by decide
  kind := by decide
  cells := by decide
  co := rfl
  gen := rfl
  fk := rfl
noncomputable def dBitNames : FnD := (fun (d : FnD) (_ : ∀ P : Params, fnAt (MineH.Internal.KT P) 154 = some d) => d) _ (fun P => by with_unfolding_all rfl)
theorem kBitNames (P : Params) : FnK (MineH.Internal.KT P) 154 dBitNames ["ports"] 1 [] [] where
  ho := rfl
  hcd := rfl
  hd := nil2
  bind := fun s vs X h => by obtain ⟨v0, rfl⟩ := vlen1 h; exact BindsTo.of_eq rfl
  len := rfl
  nd := by decide
  kind := by decide
  cells := by decide
  co := rfl
  gen := rfl
  fk := rfl
noncomputable def dSourceNames : FnD := (fun (d : FnD) (_ : ∀ P : Params, fnAt (MineH.Internal.KT P) 161 = some d) => d) _ (fun P => by with_unfolding_all rfl)
theorem kSourceNames (P : Params) : FnK (MineH.Internal.KT P) 161 dSourceNames ["netlist"] 1 [] [] where
  ho := rfl
  hcd := rfl
  hd := nil2
  bind := fun s vs X h => by obtain ⟨v0, rfl⟩ := vlen1 h; exact BindsTo.of_eq rfl
  len := rfl
  nd := by decide
  kind := by decide
  cells := by decide
  co := rfl
  gen := rfl
  fk := rfl
noncomputable def dSinkNames : FnD := (fun (d : FnD) (_ : ∀ P : Params, fnAt (MineH.Internal.KT P) 168 = some d) => d) _ (fun P => by with_unfolding_all rfl)
theorem kSinkNames (P : Params) : FnK (MineH.Internal.KT P) 168 dSinkNames ["netlist"] 1 [] [] where
  ho := rfl
  hcd := rfl
  hd := nil2
  bind := fun s vs X h => by obtain ⟨v0, rfl⟩ := vlen1 h; exact BindsTo.of_eq rfl
  len := rfl
  nd := by decide
  kind := by decide
  cells := by decide
  co := rfl
  gen := rfl
  fk := rfl
noncomputable def dStateCells : FnD := (fun (d : FnD) (_ : ∀ P : Params, fnAt (MineH.Internal.KT P) 175 = some d) => d) _ (fun P => by with_unfolding_all rfl)
theorem kStateCells (P : Params) : FnK (MineH.Internal.KT P) 175 dStateCells ["netlist"] 1 [] [] where
  ho := rfl
  hcd := rfl
  hd := nil2
  bind := fun s vs X h => by obtain ⟨v0, rfl⟩ := vlen1 h; exact BindsTo.of_eq rfl
  len := rfl
  nd := by decide
  kind := by decide
  cells := by decide
  co := rfl
  gen := rfl
  fk := rfl
noncomputable def dDrivers : FnD := (fun (d : FnD) (_ : ∀ P : Params, fnAt (MineH.Internal.KT P) 182 = some d) => d) _ (fun P => by with_unfolding_all rfl)
theorem kDrivers (P : Params) : FnK (MineH.Internal.KT P) 182 dDrivers ["netlist"] 1 [] [] where
  ho := rfl
  hcd := rfl
  hd := nil2
  bind := fun s vs X h => by obtain ⟨v0, rfl⟩ := vlen1 h; exact BindsTo.of_eq rfl
  len := rfl
  nd := by decide
  kind := by decide
  cells := by decide
  co := rfl
  gen := rfl
  fk := rfl
noncomputable def dOrdered : FnD := (fun (d : FnD) (_ : ∀ P : Params, fnAt (MineH.Internal.KT P) 189 = some d) => d) _ (fun P => by with_unfolding_all rfl)
theorem kOrdered (P : Params) : FnK (MineH.Internal.KT P) 189 dOrdered ["netlist", "driven"] 2 [] [] where
  ho := rfl
  hcd := rfl
  hd := nil2
  bind := fun s vs X h => by obtain ⟨v0, v1, rfl⟩ := vlen2 h; exact BindsTo.of_eq rfl
  len := rfl
  nd := by decide
  kind := by decide
  cells := by decide
  co := rfl
  gen := rfl
  fk := rfl
noncomputable def dCombOrder : FnD := (fun (d : FnD) (_ : ∀ P : Params, fnAt (MineH.Internal.KT P) 196 = some d) => d) _ (fun P => by with_unfolding_all rfl)
theorem kCombOrder (P : Params) : FnK (MineH.Internal.KT P) 196 dCombOrder ["netlist"] 1 [] [] where
  ho := rfl
  hcd := rfl
  hd := nil2
  bind := fun s vs X h => by obtain ⟨v0, rfl⟩ := vlen1 h; exact BindsTo.of_eq rfl
  len := rfl
  nd := by decide
  kind := by decide
  cells := by decide
  co := rfl
  gen := rfl
  fk := rfl
noncomputable def dAigInit : FnD := (fun (d : FnD) (_ : ∀ P : Params, fnAt (MineH.Internal.KT P) 210 = some d) => d) _ (fun P => by with_unfolding_all rfl)
theorem kAigInit (P : Params) : FnK (MineH.Internal.KT P) 210 dAigInit ["self"] 1 [] [] where
  ho := rfl
  hcd := rfl
  hd := nil2
  bind := fun s vs X h => by obtain ⟨v0, rfl⟩ := vlen1 h; exact BindsTo.of_eq rfl
  len := rfl
  nd := by decide
  kind := by decide
  cells := by decide
  co := rfl
  gen := rfl
  fk := rfl
noncomputable def dAigInput : FnD := (fun (d : FnD) (_ : ∀ P : Params, fnAt (MineH.Internal.KT P) 217 = some d) => d) _ (fun P => by with_unfolding_all rfl)
theorem kAigInput (P : Params) : FnK (MineH.Internal.KT P) 217 dAigInput ["self"] 1 [] [] where
  ho := rfl
  hcd := rfl
  hd := nil2
  bind := fun s vs X h => by obtain ⟨v0, rfl⟩ := vlen1 h; exact BindsTo.of_eq rfl
  len := rfl
  nd := by decide
  kind := by decide
  cells := by decide
  co := rfl
  gen := rfl
  fk := rfl
noncomputable def dIsAnd : FnD := (fun (d : FnD) (_ : ∀ P : Params, fnAt (MineH.Internal.KT P) 231 = some d) => d) _ (fun P => by with_unfolding_all rfl)
theorem kIsAnd (P : Params) : FnK (MineH.Internal.KT P) 231 dIsAnd ["self", "node"] 2 [] [] where
  ho := rfl
  hcd := rfl
  hd := nil2
  bind := fun s vs X h => by obtain ⟨v0, v1, rfl⟩ := vlen2 h; exact BindsTo.of_eq rfl
  len := rfl
  nd := by decide
  kind := by decide
  cells := by decide
  co := rfl
  gen := rfl
  fk := rfl
noncomputable def dLand : FnD := (fun (d : FnD) (_ : ∀ P : Params, fnAt (MineH.Internal.KT P) 238 = some d) => d) _ (fun P => by with_unfolding_all rfl)
theorem kLand (P : Params) : FnK (MineH.Internal.KT P) 238 dLand ["self", "l", "r"] 3 [] [] where
  ho := rfl
  hcd := rfl
  hd := nil2
  bind := fun s vs X h => by obtain ⟨v0, v1, v2, rfl⟩ := vlen3 h; exact BindsTo.of_eq rfl
  len := rfl
  nd := by decide
  kind := by decide
  cells := by decide
  co := rfl
  gen := rfl
  fk := rfl
noncomputable def dLor : FnD := (fun (d : FnD) (_ : ∀ P : Params, fnAt (MineH.Internal.KT P) 245 = some d) => d) _ (fun P => by with_unfolding_all rfl)
theorem kLor (P : Params) : FnK (MineH.Internal.KT P) 245 dLor ["self", "l", "r"] 3 [] [] where
  ho := rfl
  hcd := rfl
  hd := nil2
  bind := fun s vs X h => by obtain ⟨v0, v1, v2, rfl⟩ := vlen3 h; exact BindsTo.of_eq rfl
  len := rfl
  nd := by decide
  kind := by decide
  cells := by decide
  co := rfl
  gen := rfl
  fk := rfl
noncomputable def dLxor : FnD := (fun (d : FnD) (_ : ∀ P : Params, fnAt (MineH.Internal.KT P) 252 = some d) => d) _ (fun P => by with_unfolding_all rfl)
theorem kLxor (P : Params) : FnK (MineH.Internal.KT P) 252 dLxor ["self", "l", "r"] 3 [] [] where
  ho := rfl
  hcd := rfl
  hd := nil2
  bind := fun s vs X h => by obtain ⟨v0, v1, v2, rfl⟩ := vlen3 h; exact BindsTo.of_eq rfl
  len := rfl
  nd := by decide
  kind := by decide
  cells := by decide
  co := rfl
  gen := rfl
  fk := rfl
noncomputable def dLmux : FnD := (fun (d : FnD) (_ : ∀ P : Params, fnAt (MineH.Internal.KT P) 259 = some d) => d) _ (fun P => by with_unfolding_all rfl)
theorem kLmux (P : Params) : FnK (MineH.Internal.KT P) 259 dLmux ["self", "s", "a", "b"] 4 [] [] where
  ho := rfl
  hcd := rfl
  hd := nil2
  bind := fun s vs X h => by obtain ⟨v0, v1, v2, v3, rfl⟩ := vlen4 h; exact BindsTo.of_eq rfl
  len := rfl
  nd := by decide
  kind := by decide
  cells := by decide
  co := rfl
  gen := rfl
  fk := rfl
noncomputable def dCellLiteral : FnD := (fun (d : FnD) (_ : ∀ P : Params, fnAt (MineH.Internal.KT P) 316 = some d) => d) _ (fun P => by with_unfolding_all rfl)
theorem kCellLiteral (P : Params) : FnK (MineH.Internal.KT P) 316 dCellLiteral ["aig", "kind", "param", "literals"] 4 [] [] where
  ho := rfl
  hcd := rfl
  hd := nil2
  bind := fun s vs X h => by obtain ⟨v0, v1, v2, v3, rfl⟩ := vlen4 h; exact BindsTo.of_eq rfl
  len := rfl
  nd := by decide
  kind := by decide
  cells := by decide
  co := rfl
  gen := rfl
  fk := rfl
noncomputable def dLiteralOf : FnD := (fun (d : FnD) (_ : ∀ P : Params, fnAt (MineH.Internal.KT P) 323 = some d) => d) _ (fun P => by with_unfolding_all rfl)
theorem kLiteralOf (P : Params) : FnK (MineH.Internal.KT P) 323 dLiteralOf ["literals", "net"] 2 [] [] where
  ho := rfl
  hcd := rfl
  hd := nil2
  bind := fun s vs X h => by obtain ⟨v0, v1, rfl⟩ := vlen2 h; exact BindsTo.of_eq rfl
  len := rfl
  nd := by decide
  kind := by decide
  cells := by decide
  co := rfl
  gen := rfl
  fk := rfl
noncomputable def dVariableOf : FnD := (fun (d : FnD) (_ : ∀ P : Params, fnAt (MineH.Internal.KT P) 330 = some d) => d) _ (fun P => by with_unfolding_all rfl)
theorem kVariableOf (P : Params) : FnK (MineH.Internal.KT P) 330 dVariableOf ["literal"] 1 [] [] where
  ho := rfl
  hcd := rfl
  hd := nil2
  bind := fun s vs X h => by obtain ⟨v0, rfl⟩ := vlen1 h; exact BindsTo.of_eq rfl
  len := rfl
  nd := by decide
  kind := by decide
  cells := by decide
  co := rfl
  gen := rfl
  fk := rfl
noncomputable def dConeCnf : FnD := (fun (d : FnD) (_ : ∀ P : Params, fnAt (MineH.Internal.KT P) 335 = some d) => d) _ (fun P => by with_unfolding_all rfl)
theorem kConeCnf (P : Params) : FnK (MineH.Internal.KT P) 335 dConeCnf ["aig", "literals"] 2 [] [] where
  ho := rfl
  hcd := rfl
  hd := nil2
  bind := fun s vs X h => by obtain ⟨v0, v1, rfl⟩ := vlen2 h; exact BindsTo.of_eq rfl
  len := rfl
  nd := by decide
  kind := by decide
  cells := by decide
  co := rfl
  gen := rfl
  fk := rfl
noncomputable def dAigCnf : FnD := (fun (d : FnD) (_ : ∀ P : Params, fnAt (MineH.Internal.KT P) 342 = some d) => d) _ (fun P => by with_unfolding_all rfl)
theorem kAigCnf (P : Params) : FnK (MineH.Internal.KT P) 342 dAigCnf ["aig", "literals"] 2 [] [] where
  ho := rfl
  hcd := rfl
  hd := nil2
  bind := fun s vs X h => by obtain ⟨v0, v1, rfl⟩ := vlen2 h; exact BindsTo.of_eq rfl
  len := rfl
  nd := by decide
  kind := by decide
  cells := by decide
  co := rfl
  gen := rfl
  fk := rfl
noncomputable def dStateForms : FnD := (fun (d : FnD) (_ : ∀ P : Params, fnAt (MineH.Internal.KT P) 349 = some d) => d) _ (fun P => by with_unfolding_all rfl)
theorem kStateForms (P : Params) : FnK (MineH.Internal.KT P) 349 dStateForms ["netlist"] 1 [] [] where
  ho := rfl
  hcd := rfl
  hd := nil2
  bind := fun s vs X h => by obtain ⟨v0, rfl⟩ := vlen1 h; exact BindsTo.of_eq rfl
  len := rfl
  nd := by decide
  kind := by decide
  cells := by decide
  co := rfl
  gen := rfl
  fk := rfl
noncomputable def dLoneNames : FnD := (fun (d : FnD) (_ : ∀ P : Params, fnAt (MineH.Internal.KT P) 356 = some d) => d) _ (fun P => by with_unfolding_all rfl)
theorem kLoneNames (P : Params) : FnK (MineH.Internal.KT P) 356 dLoneNames ["first", "second"] 2 [] [] where
  ho := rfl
  hcd := rfl
  hd := nil2
  bind := fun s vs X h => by obtain ⟨v0, v1, rfl⟩ := vlen2 h; exact BindsTo.of_eq rfl
  len := rfl
  nd := by decide
  kind := by decide
  cells := by decide
  co := rfl
  gen := rfl
  fk := rfl
noncomputable def dMatched : FnD := (fun (d : FnD) (_ : ∀ P : Params, fnAt (MineH.Internal.KT P) 363 = some d) => d) _ (fun P => by with_unfolding_all rfl)
theorem kMatched (P : Params) : FnK (MineH.Internal.KT P) 363 dMatched ["n1", "n2"] 2 [] [] where
  ho := rfl
  hcd := rfl
  hd := nil2
  bind := fun s vs X h => by obtain ⟨v0, v1, rfl⟩ := vlen2 h; exact BindsTo.of_eq rfl
  len := rfl
  nd := by decide
  kind := by decide
  cells := by decide
  co := rfl
  gen := rfl
  fk := rfl
noncomputable def dAddLogic : FnD := (fun (d : FnD) (_ : ∀ P : Params, fnAt (MineH.Internal.KT P) 370 = some d) => d) _ (fun P => by with_unfolding_all rfl)
theorem kAddLogic (P : Params) : FnK (MineH.Internal.KT P) 370 dAddLogic ["aig", "netlist", "literals"] 3 [] [] where
  ho := rfl
  hcd := rfl
  hd := nil2
  bind := fun s vs X h => by obtain ⟨v0, v1, v2, rfl⟩ := vlen3 h; exact BindsTo.of_eq rfl
  len := rfl
  nd := by decide
  kind := by decide
  cells := by decide
  co := rfl
  gen := rfl
  fk := rfl
noncomputable def dJointAig : FnD := (fun (d : FnD) (_ : ∀ P : Params, fnAt (MineH.Internal.KT P) 377 = some d) => d) _ (fun P => by with_unfolding_all rfl)
theorem kJointAig (P : Params) : FnK (MineH.Internal.KT P) 377 dJointAig ["n1", "n2"] 2 [] [] where
  ho := rfl
  hcd := rfl
  hd := nil2
  bind := fun s vs X h => by obtain ⟨v0, v1, rfl⟩ := vlen2 h; exact BindsTo.of_eq rfl
  len := rfl
  nd := by decide
  kind := by decide
  cells := by decide
  co := rfl
  gen := rfl
  fk := rfl
noncomputable def dConeEquiv : FnD := (fun (d : FnD) (_ : ∀ P : Params, fnAt (MineH.Internal.KT P) 384 = some d) => d) _ (fun P => by with_unfolding_all rfl)
theorem kConeEquiv (P : Params) : FnK (MineH.Internal.KT P) 384 dConeEquiv ["aig", "literals"] 2 [] [] where
  ho := rfl
  hcd := rfl
  hd := nil2
  bind := fun s vs X h => by obtain ⟨v0, v1, rfl⟩ := vlen2 h; exact BindsTo.of_eq rfl
  len := rfl
  nd := by decide
  kind := by decide
  cells := by decide
  co := rfl
  gen := rfl
  fk := rfl
noncomputable def dDifference : FnD := (fun (d : FnD) (_ : ∀ P : Params, fnAt (MineH.Internal.KT P) 391 = some d) => d) _ (fun P => by with_unfolding_all rfl)
theorem kDifference (P : Params) : FnK (MineH.Internal.KT P) 391 dDifference ["aig", "literal"] 2 [] [] where
  ho := rfl
  hcd := rfl
  hd := nil2
  bind := fun s vs X h => by obtain ⟨v0, v1, rfl⟩ := vlen2 h; exact BindsTo.of_eq rfl
  len := rfl
  nd := by decide
  kind := by decide
  cells := by decide
  co := rfl
  gen := rfl
  fk := rfl
noncomputable def dLawTake : FnD := (fun (d : FnD) (_ : ∀ P : Params, fnAt (MineH.Internal.KT P) 398 = some d) => d) _ (fun P => by with_unfolding_all rfl)
theorem kLawTake (P : Params) : FnK (MineH.Internal.KT P) 398 dLawTake ["source", "most"] 2 [] [] where
  ho := rfl
  hcd := rfl
  hd := nil2
  bind := fun s vs X h => by obtain ⟨v0, v1, rfl⟩ := vlen2 h; exact BindsTo.of_eq rfl
  len := rfl
  nd := by decide
  kind := by decide
  cells := by decide
  co := rfl
  gen := rfl
  fk := rfl
noncomputable def dLawNet : FnD := (fun (d : FnD) (_ : ∀ P : Params, fnAt (MineH.Internal.KT P) 403 = some d) => d) _ (fun P => by with_unfolding_all rfl)
theorem kLawNet (P : Params) : FnK (MineH.Internal.KT P) 403 dLawNet ["source", "turned"] 2 [] [] where
  ho := rfl
  hcd := rfl
  hd := nil2
  bind := fun s vs X h => by obtain ⟨v0, v1, rfl⟩ := vlen2 h; exact BindsTo.of_eq rfl
  len := rfl
  nd := by decide
  kind := by decide
  cells := by decide
  co := rfl
  gen := rfl
  fk := rfl
noncomputable def dLawValue : FnD := (fun (d : FnD) (_ : ∀ P : Params, fnAt (MineH.Internal.KT P) 408 = some d) => d) _ (fun P => by with_unfolding_all rfl)
theorem kLawValue (P : Params) : FnK (MineH.Internal.KT P) 408 dLawValue ["net", "pool", "number", "wanted"] 4 [] [] where
  ho := rfl
  hcd := rfl
  hd := nil2
  bind := fun s vs X h => by obtain ⟨v0, v1, v2, v3, rfl⟩ := vlen4 h; exact BindsTo.of_eq rfl
  len := rfl
  nd := by decide
  kind := by decide
  cells := by decide
  co := rfl
  gen := rfl
  fk := rfl
noncomputable def dLawNodes : FnD := (fun (d : FnD) (_ : ∀ P : Params, fnAt (MineH.Internal.KT P) 413 = some d) => d) _ (fun P => by with_unfolding_all rfl)
theorem kLawNodes (P : Params) : FnK (MineH.Internal.KT P) 413 dLawNodes ["graph", "number"] 2 [] [] where
  ho := rfl
  hcd := rfl
  hd := nil2
  bind := fun s vs X h => by obtain ⟨v0, v1, rfl⟩ := vlen2 h; exact BindsTo.of_eq rfl
  len := rfl
  nd := by decide
  kind := by decide
  cells := by decide
  co := rfl
  gen := rfl
  fk := rfl
noncomputable def dLawHeld : FnD := (fun (d : FnD) (_ : ∀ P : Params, fnAt (MineH.Internal.KT P) 418 = some d) => d) _ (fun P => by with_unfolding_all rfl)
theorem kLawHeld (P : Params) : FnK (MineH.Internal.KT P) 418 dLawHeld ["clauses", "values"] 2 [] [] where
  ho := rfl
  hcd := rfl
  hd := nil2
  bind := fun s vs X h => by obtain ⟨v0, v1, rfl⟩ := vlen2 h; exact BindsTo.of_eq rfl
  len := rfl
  nd := by decide
  kind := by decide
  cells := by decide
  co := rfl
  gen := rfl
  fk := rfl
end Mine.Internal


namespace Mine.Internal
noncomputable abbrev gp (x : Str) (v : GV) : Str × GV := (x, v)
noncomputable abbrev mp (x : Str) (v : Addr) : Str × Addr := (x, v)
noncomputable def gloTab : List (Str × GV) := [
  gp "len" (.bi .len), gp "abs" (.bi .abs), gp "sum" (.bi .sum), gp "min" (.bi .min), gp "max" (.bi .max), gp "sorted" (.bi .sorted), gp "range" (.bi .range), gp "list" (.bi .list), gp "tuple" (.bi .tuple),
  gp "CONST0" (.val (.int 0)), gp "CONST1" (.val (.int 1)),
  gp "is_state_kind" (.fn 63), gp "Netlist" (.fn 143), gp "bit_names" (.fn 154), gp "source_names" (.fn 161), gp "sink_names" (.fn 168), gp "state_cells" (.fn 175), gp "drivers" (.fn 182),
  gp "ordered_cells" (.fn 189), gp "comb_order" (.fn 196), gp "Aig" (.fn 291), gp "cell_literal" (.fn 316), gp "literal_of" (.fn 323), gp "variable_of" (.fn 330), gp "cone_nodes_cnf" (.fn 335),
  gp "aig_cnf" (.fn 342), gp "state_forms" (.fn 349), gp "lone_names" (.fn 356), gp "matched" (.fn 363), gp "add_logic" (.fn 370), gp "joint_aig" (.fn 377), gp "cone_nodes_equiv" (.fn 384),
  gp "difference_clauses" (.fn 391), gp "_law_take" (.fn 398), gp "_law_net" (.fn 403), gp "_law_value" (.fn 408), gp "_law_nodes" (.fn 413), gp "_law_held" (.fn 418)]
noncomputable def netAtt : List Str := ["name", "count", "inputs", "outputs", "cells"]
noncomputable def aigAtt : List Str := ["nodes", "inputs", "outputs", "table"]
noncomputable def netMet : List (Str × Addr) := [mp "new_net" 91, mp "new_nets" 96, mp "add_input" 103, mp "add_output" 110, mp "add_cell" 118, mp "drive" 126, mp "sources" 133, mp "sinks" 140]
noncomputable def aigMet : List (Str × Addr) := [mp "add_input" 217, mp "is_and" 231, mp "land" 238, mp "lor" 245, mp "lxor" 252, mp "lmux" 259]
noncomputable def attT (c : Addr) (x : Str) : Bool := if c = 143 then netAtt.contains x else if c = 291 then aigAtt.contains x else false
noncomputable def metT (c : Addr) (x : Str) : Option Addr := if c = 143 then netMet.lookup x else if c = 291 then aigMet.lookup x else none
noncomputable def lib (P : Params) : Lib := { K := MineH.Internal.KT P, glo := fun x => gloTab.lookup x, att := attT, met := metT }

noncomputable def chkG (K : Frag) (p : Str × GV) : Bool :=
  match p.2 with
  | .bi b => nsIn K mainGlobals p.1 == some none && !(p.1 == "__name__") && !(p.1 == ("__debug__" : Str))
  | .fn f => nsIn K mainGlobals p.1 == some (some (.ref f)) && keepIn K (.ref f) && !(p.1 == ("__debug__" : Str))
  | .val _ => !(p.1 == ("__debug__" : Str))
noncomputable def chkA (K : Frag) (c : Addr) (x : Str) : Bool := findIn K (.ref c) x == some none
noncomputable def chkM (K : Frag) (c : Addr) (p : Str × Addr) : Bool := findIn K (.ref c) p.1 == some (some (.ref p.2)) && isFn K (.ref p.2) && keepIn K (.ref p.2)

theorem gloOK (P : Params) : (gloTab.all (chkG (MineH.Internal.KT P))) = true := rfl
theorem netAOK (P : Params) : (netAtt.all (chkA (MineH.Internal.KT P) 143)) = true := rfl
theorem aigAOK (P : Params) : (aigAtt.all (chkA (MineH.Internal.KT P) 291)) = true := rfl
theorem netMOK (P : Params) : (netMet.all (chkM (MineH.Internal.KT P) 143)) = true := rfl
theorem aigMOK (P : Params) : (aigMet.all (chkM (MineH.Internal.KT P) 291)) = true := rfl
theorem netK (P : Params) : ClsK (MineH.Internal.KT P) 143 := ⟨rfl, rfl, rfl, rfl⟩
theorem aigK (P : Params) : ClsK (MineH.Internal.KT P) 291 := ⟨rfl, rfl, rfl, rfl⟩
theorem netMake (P : Params) : makesIn (MineH.Internal.KT P) 143 = true ∧ findIn (MineH.Internal.KT P) (.ref 143) "__init__" = some (some (.ref 84)) ∧ isFn (MineH.Internal.KT P) (.ref 84) = true := ⟨rfl, rfl, rfl⟩
theorem aigMake (P : Params) : makesIn (MineH.Internal.KT P) 291 = true ∧ findIn (MineH.Internal.KT P) (.ref 291) "__init__" = some (some (.ref 210)) ∧ isFn (MineH.Internal.KT P) (.ref 210) = true := ⟨rfl, rfl, rfl⟩
theorem const0 (P : Params) : nsIn (MineH.Internal.KT P) mainGlobals "CONST0" = some (some (.int 0 250)) := rfl
theorem const1 (P : Params) : nsIn (MineH.Internal.KT P) mainGlobals "CONST1" = some (some (.int 1 252)) := rfl

theorem boot_len : bootBuiltins "len" = some Bi.len.val := by boot_by_name
theorem boot_abs : bootBuiltins "abs" = some Bi.abs.val := by boot_by_name
theorem boot_sum : bootBuiltins "sum" = some Bi.sum.val := by boot_by_name
theorem boot_min : bootBuiltins "min" = some Bi.min.val := by boot_by_name
theorem boot_max : bootBuiltins "max" = some Bi.max.val := by boot_by_name
theorem boot_sorted : bootBuiltins "sorted" = some Bi.sorted.val := by boot_by_name
theorem boot_range : bootBuiltins "range" = some Bi.range.val := by boot_by_name
theorem boot_list : bootBuiltins "list" = some Bi.list.val := by boot_by_name
theorem boot_tuple : bootBuiltins "tuple" = some Bi.tuple.val := by boot_by_name
theorem boots {x : Str} {b : Bi} (q : (x, GV.bi b) ∈ gloTab) : bootBuiltins x = some b.val := by
  simp only [gloTab, gp, List.mem_cons, Prod.mk.injEq, reduceCtorEq, and_false, false_or, GV.bi.injEq, List.not_mem_nil, or_false] at q
  rcases q with ⟨rfl, rfl⟩ | ⟨rfl, rfl⟩ | ⟨rfl, rfl⟩ | ⟨rfl, rfl⟩ | ⟨rfl, rfl⟩ | ⟨rfl, rfl⟩ | ⟨rfl, rfl⟩ | ⟨rfl, rfl⟩ | ⟨rfl, rfl⟩
  · exact boot_len
  · exact boot_abs
  · exact boot_sum
  · exact boot_min
  · exact boot_max
  · exact boot_sorted
  · exact boot_range
  · exact boot_list
  · exact boot_tuple
theorem look_mem {β : Type} {l : List (Str × β)} {x : Str} {b : β} (e : l.lookup x = some b) : (x, b) ∈ l := PySem.mem_of_lookup e

theorem libOK (P : Params) : LibOK (lib P) where
  bi := fun x b e => by
    have m := List.all_eq_true.mp (gloOK P) _ (look_mem e)
    simp only [chkG, Bool.and_eq_true, beq_iff_eq, Bool.not_eq_true', beq_eq_false_iff_ne, ne_eq] at m
    exact ⟨m.1.1, boots (look_mem e), m.1.2, by simpa using m.2⟩
  fn := fun x f e => by
    have m := List.all_eq_true.mp (gloOK P) _ (look_mem e)
    simp only [chkG, Bool.and_eq_true, beq_iff_eq, Bool.not_eq_true'] at m
    exact ⟨m.1.1, m.1.2, m.2⟩
  val := fun x v e => by
    have e : gloTab.lookup x = some (.val v) := e
    have m := List.all_eq_true.mp (gloOK P) _ (look_mem e)
    simp only [chkG, Bool.not_eq_true'] at m
    refine ⟨m, ?_⟩
    have q := look_mem e
    have : (x = "CONST0" ∧ v = .int 0) ∨ (x = "CONST1" ∧ v = .int 1) := by
      simp only [gloTab, gp, List.mem_cons, Prod.mk.injEq, reduceCtorEq, and_false, false_or, GV.val.injEq, List.not_mem_nil, or_false] at q
      exact q
    rcases this with ⟨rfl, rfl⟩ | ⟨rfl, rfl⟩
    · exact ⟨_, const0 P, fun h => ⟨_, rfl⟩⟩
    · exact ⟨_, const1 P, fun h => ⟨_, rfl⟩⟩
  att := fun c x e => by
    have e2 : attT c x = true := e
    clear e
    unfold attT at e2
    split at e2
    · rename_i z; subst z
      exact ⟨netK P, beq_iff_eq.mp (List.all_eq_true.mp (netAOK P) x (by simpa using e2))⟩
    · split at e2
      · rename_i z; subst z
        exact ⟨aigK P, beq_iff_eq.mp (List.all_eq_true.mp (aigAOK P) x (by simpa using e2))⟩
      · cases e2
  met := fun c x f e => by
    have e2 : metT c x = some f := e
    clear e
    unfold metT at e2
    split at e2
    · rename_i z; subst z
      have m := List.all_eq_true.mp (netMOK P) _ (look_mem e2)
      simp only [chkM, Bool.and_eq_true, beq_iff_eq] at m
      exact ⟨netK P, m.1.1, m.1.2, m.2⟩
    · split at e2
      · rename_i z; subst z
        have m := List.all_eq_true.mp (aigMOK P) _ (look_mem e2)
        simp only [chkM, Bool.and_eq_true, beq_iff_eq] at m
        exact ⟨aigK P, m.1.1, m.1.2, m.2⟩
      · cases e2
/-! ### the evaluators as they are run, in short words -/
section
variable (prog : Program) (w : World) (n : Nat) (N : List (Str × NameKind))
noncomputable def ek7 : Ev := ev prog w (lib w.params) n 7
noncomputable def ek8 : Ev := ⟨evE prog w (lib w.params) n (ek7 prog w n), evT (ek7 prog w n)⟩
noncomputable def ek9 : Ev := ⟨evE prog w (lib w.params) n (ek8 prog w n), evT (ek8 prog w n)⟩
noncomputable def ek10 : Ev := ⟨evE prog w (lib w.params) n (ek9 prog w n), evT (ek9 prog w n)⟩
noncomputable def ek11 : Ev := ⟨evE prog w (lib w.params) n (ek10 prog w n), evT (ek10 prog w n)⟩
noncomputable def ek12 : Ev := ⟨evE prog w (lib w.params) n (ek11 prog w n), evT (ek11 prog w n)⟩
noncomputable def ek13 : Ev := ⟨evE prog w (lib w.params) n (ek12 prog w n), evT (ek12 prog w n)⟩
noncomputable def ek14 : Ev := ⟨evE prog w (lib w.params) n (ek13 prog w n), evT (ek13 prog w n)⟩
noncomputable def ek15 : Ev := ⟨evE prog w (lib w.params) n (ek14 prog w n), evT (ek14 prog w n)⟩
noncomputable def ek16 : Ev := ⟨evE prog w (lib w.params) n (ek15 prog w n), evT (ek15 prog w n)⟩
noncomputable def ek17 : Ev := ⟨evE prog w (lib w.params) n (ek16 prog w n), evT (ek16 prog w n)⟩
noncomputable def ek18 : Ev := ⟨evE prog w (lib w.params) n (ek17 prog w n), evT (ek17 prog w n)⟩
noncomputable def ek19 : Ev := ⟨evE prog w (lib w.params) n (ek18 prog w n), evT (ek18 prog w n)⟩
noncomputable def ek20 : Ev := ⟨evE prog w (lib w.params) n (ek19 prog w n), evT (ek19 prog w n)⟩
noncomputable def sk15 : StE := stN (lib w.params) (ek20 prog w n) N 15
noncomputable def sk16 : StE := stS (lib w.params) (ek20 prog w n) (sk15 prog w n N) N
noncomputable def sk17 : StE := stS (lib w.params) (ek20 prog w n) (sk16 prog w n N) N
noncomputable def sk18 : StE := stS (lib w.params) (ek20 prog w n) (sk17 prog w n N) N
noncomputable def sk19 : StE := stS (lib w.params) (ek20 prog w n) (sk18 prog w n N) N
noncomputable def sk20 : StE := stS (lib w.params) (ek20 prog w n) (sk19 prog w n N) N
theorem sk20_eq : sk20 prog w n N = stN (lib w.params) (ev prog w (lib w.params) n 20) N 20 := rfl
@[reducible] noncomputable def k0 (Q : AV → AH → Prop) : Kont := ⟨fun _ σ => Q .none σ, Q, fun _ _ => False⟩
noncomputable abbrev bodyK (d : FnD) (l : Loc) (σ : AH) (Q : AV → AH → Prop) : Prop := blk (sk20 prog w n d.scope.names) d.body l σ (k0 Q)
end
section
variable {prog : Program} {w : World} {n : Nat} {σ : AH}
theorem fnCall {f : Addr} {d : FnD} {names : List Str} {nargs : Nat} {dargs : List AV} {dv : List Value} (F : FnK (MineH.Internal.KT w.params) f d names nargs dargs dv) {args : List AV} (hlen : args.length = nargs) {Q : AV → AH → Prop}
    (h : bodyK prog w n d (argLoc names (args ++ dargs)) σ Q) : CallS prog w (lib w.params) (n + 1) f args σ Q := FnK.call (L := lib w.params) (libOK w.params) F hlen 20 20 (by rw [bodyK, sk20_eq] at h; exact h)
theorem fnCall0 {f : Addr} {d : FnD} {names : List Str} {nargs : Nat} (F : FnK (MineH.Internal.KT w.params) f d names nargs [] []) {args : List AV} (hlen : args.length = nargs) {Q : AV → AH → Prop}
    (h : bodyK prog w n d (argLoc names args) σ Q) : CallS prog w (lib w.params) (n + 1) f args σ Q := fnCall F hlen (by rw [List.append_nil]; exact h)
theorem clsCall {cl f : Addr} {d : FnD} {names : List Str} {nargs : Nat} {dargs : List AV} {dv : List Value} (F : FnK (MineH.Internal.KT w.params) f d names nargs dargs dv) (hm : makesIn (MineH.Internal.KT w.params) cl = true) (hi : findIn (MineH.Internal.KT w.params) (.ref cl) "__init__" = some (some (.ref f))) (hf : isFn (MineH.Internal.KT w.params) (.ref f) = true)
    {args : List AV} (hlen : args.length + 1 = nargs) {Q : AV → AH → Prop}
    (h : ∀ x dx, x ≠ dx → σ x = none → σ dx = none → bodyK prog w n d (argLoc names (.ref x :: args ++ dargs)) (upd (upd σ dx (.ns [])) x (.inst cl dx)) (fun v τ => v = .none ∧ Q (.ref x) τ)) : CallS prog w (lib w.params) (n + 1) cl args σ Q :=
  cls_call (L := lib w.params) (libOK w.params) F hm hi hf hlen 20 20 fun x dx a b c => by
    have h := h x dx a b c
    rw [bodyK, sk20_eq] at h; exact h
end
end Mine.Internal


namespace Mine.Internal
theorem ofString_inj {a b : String} (h : Str.ofString a = Str.ofString b) : a = b := by
  rw [Str.ofString_eq_toList, Str.ofString_eq_toList] at h
  have h1 : a.toList.map Char.toNat = b.toList.map Char.toNat := by simpa using h
  have h2 : a.toList = b.toList := List.map_inj_right (fun x y e => Char.toNat_inj.mp e) |>.mp h1
  exact String.toList_inj.mp h2
theorem sEq (a b : String) : (Str.ofString a = Str.ofString b) = (a = b) := propext ⟨ofString_inj, fun h => h ▸ rfl⟩
theorem Br.tt {A B : Prop} (h : A) : Br true A B := h
theorem Br.ff {A B : Prop} (h : B) : Br false A B := h
theorem Br.ttd {c : Bool} {A B : Prop} (e : c = true) (h : A) : Br c A B := by subst e; exact h
theorem Br.ffd {c : Bool} {A B : Prop} (e : c = false) (h : B) : Br c A B := by subst e; exact h
theorem updL_app (l : Loc) (a b : String) (v : AV) : updL l (Str.ofString a) v (Str.ofString b) = if b = a then some v else l (Str.ofString b) := by unfold updL; simp only [sEq]
theorem lk {o : Option AV} {v : AV} {P : AV → Prop} (h : o = some v) (p : P v) : (match (generalizing := false) o with | some v => P v | none => False) := by subst h; exact p
theorem nes {σ : AH} {a b : Addr} {o : AO} (h : σ a = some o) (e : σ b = none) : a ≠ b := fun z => by rw [z, e] at h; cases h
theorem nes' {σ : AH} {a b : Addr} {o : AO} (h : σ a = some o) (e : σ b = none) : b ≠ a := fun z => nes h e z.symm
section
variable {o : Option (Addr × Addr × List (Str × AV))} {q : Option AO} {N : Prop}
theorem mN {c d : Addr} {fs : List (Str × AV)} {F : Addr → Addr → List (Str × AV) → Prop} (h : o = some (c, d, fs)) (p : F c d fs) : (match (generalizing := false) o with | some (c, d, fs) => F c d fs | none => N) := by subst h; exact p
theorem mN0 {F : Addr → Addr → List (Str × AV) → Prop} (h : o = none) (p : N) : (match (generalizing := false) o with | some (c, d, fs) => F c d fs | none => N) := by subst h; exact p
theorem mI {xs : List AV} {F : List AV → Prop} {G : AO → Prop} (h : q = some (.list xs)) (p : F xs) : (match (generalizing := false) q with | some (.list xs) => F xs | some o => G o | none => N) := by subst h; exact p
theorem mL {xs : List AV} {F : List AV → Prop} (h : q = some (.list xs)) (p : F xs) : (match (generalizing := false) q with | some (.list xs) => F xs | _ => N) := by subst h; exact p
theorem mO {x : AO} {F : AO → Prop} (h : q = some x) (p : F x) : (match (generalizing := false) q with | some o => F o | none => N) := by subst h; exact p
theorem mA {xs : List AV} {v : AV} {F : List AV → AV → Prop} (h : q = some (.list xs)) (p : F xs v) : (match (generalizing := false) q, [v] with | some (.list xs), [v] => F xs v | _, _ => N) := by subst h; exact p
end
/-! ### the graph, as the program keeps it -/
local macro_rules | `(tactic| k_types) => `(tactic| ((repeat (first | ((refine And.intro ?_ ?_); (focus (first | rfl | decide | exact Nat.le_of_ble_eq_true rfl))) | (refine blk.cons ?_) | (refine blk.nil ?_))); (conv => whnf); (repeat ((first | (refine Br.ffd (by decide +kernel) ?_) | (refine Br.ttd (by decide +kernel) ?_)); (repeat (first | ((refine And.intro ?_ ?_); (focus (first | rfl | decide | exact Nat.le_of_ble_eq_true rfl))) | (refine blk.cons ?_) | (refine blk.nil ?_))); (conv => whnf)))))
local macro_rules | `(tactic| k_units) => `(tactic| simp (config := { iota := false }) only [updL_app, String.reduceEq, if_false, if_true])
local macro_rules | `(tactic| k_data) => `(tactic| (first | exact Nat.lt_of_le_of_lt (by assumption) (by decide) | exact Nat.lt_trans (by assumption) (by decide) | exact Nat.le_trans (by assumption) (by decide) | exact Nat.le_trans (Nat.le_of_lt (by assumption)) (by decide) | lia | omega))
local macro_rules | `(tactic| k_typeOf) => `(tactic| (repeat (first | ((refine And.intro ?_ ?_); (focus (first | rfl | decide | exact Nat.le_of_ble_eq_true rfl))) | (refine blk.cons ?_) | (refine blk.nil ?_))))
local macro_rules | `(tactic| o_head $f) => `(tactic| (first | refine mN $f ?_ | refine mN0 $f ?_ | refine mI $f ?_ | refine mL $f ?_ | refine mO $f ?_ | refine mA $f ?_ | rw [$f:term] | (k_types; (first | refine mN $f ?_ | refine mN0 $f ?_ | refine mI $f ?_ | refine mL $f ?_ | refine mO $f ?_ | refine mA $f ?_ | rw [$f:term] | rw [$f:term]))))
local macro_rules | `(tactic| row_witness_with $f) => `(tactic| (first | refine lk $f ?_ | (k_types; (first | refine lk $f ?_ | simp (config := { iota := false }) only [updL_app, String.reduceEq, if_false, if_true, $f:term]))))
structure G where
  nd : List (Option (Int × Int))
  tb : List ((Int × Int) × Int)
  ins : List Int
noncomputable def pairAV : Option (Int × Int) → AV
  | none => .none
  | some (l, r) => .tup [.int l, .int r]
noncomputable def G.nAV (g : G) : List AV := g.nd.map pairAV
noncomputable def G.tAV (g : G) : List ((Int × Int) × AV) := g.tb.map fun p => (p.1, .int p.2)
noncomputable def G.iAV (g : G) : List AV := g.ins.map .int

noncomputable def G.tO (g : G) : AO := match g.tb with | [] => .dict0 | _ => .dictP g.tAV
theorem G.asP (g : G) : asP g.tO = some g.tAV := by
  unfold G.tO G.tAV
  cases g.tb <;> rfl
theorem G.tO_ty (g : G) : bmTy .get (some g.tO) = true := by unfold G.tO; cases g.tb <;> rfl
theorem G.tO_ne (g : G) (xs : List AV) : g.tO ≠ .list xs := by unfold G.tO; cases g.tb <;> simp
theorem G.tO_ne2 (g : G) (c d : Addr) : g.tO ≠ .inst c d := by unfold G.tO; cases g.tb <;> simp
theorem G.tO_ne3 (g : G) (fs) : g.tO ≠ .ns fs := by unfold G.tO; cases g.tb <;> simp
structure AP where
  a : Addr
  d : Addr
  na : Addr
  ia : Addr
  oa : Addr
  ta : Addr
noncomputable abbrev fe (x : Str) (v : AV) : Str × AV := (x, v)
noncomputable abbrev AP.fs (p : AP) : List (Str × AV) := [fe "nodes" (.ref p.na), fe "inputs" (.ref p.ia), fe "outputs" (.ref p.oa), fe "table" (.ref p.ta)]
structure AigAt (σ : AH) (p : AP) (g : G) : Prop where
  a : σ p.a = some (.inst 291 p.d)
  d : σ p.d = some (.ns p.fs)
  n : σ p.na = some (.list g.nAV)
  i : σ p.ia = some (.list g.iAV)
  o : σ p.oa = some (.list [])
  t : σ p.ta = some g.tO
  ni : p.na ≠ p.ia
  no : p.na ≠ p.oa
  io : p.ia ≠ p.oa
theorem AigAt.ns {σ p g} (h : AigAt σ p g) : nsAt σ p.a = some (291, p.d, p.fs) := by
  unfold nsAt; rw [h.a]; dsimp only; rw [h.d]

theorem ne_of_ao {σ : AH} {a b : Addr} {x y : AO} (h : σ a = some x) (h' : σ b = some y) (n : x ≠ y) : a ≠ b := by
  rintro rfl; rw [h] at h'; exact n (Option.some.inj h')
theorem AigAt.nsTa {σ p g} (h : AigAt σ p g) : nsAt σ p.ta = none := by
  unfold nsAt; rw [h.t]
  unfold G.tO; cases g.tb <;> rfl
theorem nsAt_list {σ : AH} {a : Addr} {xs : List AV} (h : σ a = some (.list xs)) : nsAt σ a = none := by unfold nsAt; rw [h]
structure Keep (S : List Addr) (σ σ' : AH) : Prop where
  same : ∀ b, σ b ≠ none → b ∉ S → σ' b = σ b
  live : ∀ b, σ b ≠ none → σ' b ≠ none
theorem Keep.refl {S σ} : Keep S σ σ := ⟨fun _ _ _ => rfl, fun _ h => h⟩
theorem Keep.trans {S σ σ' σ''} (x : Keep S σ σ') (y : Keep S σ' σ'') : Keep S σ σ'' := ⟨fun b q n => by
  have e := x.same b q n
  exact (y.same b (by rw [e]; exact q) n).trans e, fun b q => y.live b (x.live b q)⟩
theorem Keep.put {S : List Addr} {σ : AH} {a : Addr} {o : AO} (h : a ∈ S) : Keep S σ (upd σ a o) := ⟨fun b _ n => upd_ne fun e => n (e ▸ h), fun b q => by
  by_cases z : b = a
  · subst z; rw [upd_self]; simp
  · rw [upd_ne z]; exact q⟩
theorem Keep.new {S : List Addr} {σ : AH} {a : Addr} {o : AO} (h : σ a = none) : Keep S σ (upd σ a o) := ⟨fun b q _ => upd_ne fun e => q (e ▸ h), fun b q => by
  have z : b ≠ a := fun e => q (e ▸ h)
  rw [upd_ne z]; exact q⟩
theorem Keep.weaken {S S' σ σ'} (x : Keep S σ σ') (h : ∀ a ∈ S, a ∈ S') : Keep S' σ σ' := ⟨fun b q n => x.same b q fun m => n (h b m), x.live⟩
theorem Keep.get {S σ σ' b o} (x : Keep S σ σ') (e : σ b = some o) (n : b ∉ S) : σ' b = some o := (x.same b (by rw [e]; simp) n).trans e
theorem Keep.fresh {S σ σ' b} (x : Keep S σ σ') (e : σ' b = none) : σ b = none := by
  cases q : σ b with
  | none => rfl
  | some _ => exact absurd e (x.live b (by rw [q]; simp))
/-- what is new may be forgotten -/
theorem Keep.drop {S : List Addr} {σ σ' : AH} {a : Addr} (x : Keep (a :: S) σ σ') (h : σ a = none) : Keep S σ σ' := ⟨fun b q n => x.same b q fun m => by
  rcases List.mem_cons.mp m with z | z
  · subst z; exact q h
  · exact n z, x.live⟩

noncomputable def G.look (g : G) (k : Int × Int) : Option Int := (g.tb.find? fun p => p.1 = k).map (·.2)
theorem G.look_av (g : G) (k : Int × Int) : lookK g.tAV k = (g.look k).map .int := by
  unfold lookK G.tAV G.look
  rw [List.find?_map]
  cases h : g.tb.find? fun p => decide (p.1 = k) <;> simp [Function.comp_def, h]
theorem G.put_new (g : G) (k : Int × Int) (v : Int) (h : g.look k = none) : putK g.tAV k (.int v) = { g with tb := g.tb ++ [(k, v)] }.tAV := by
  unfold putK
  rw [if_neg]
  · simp [G.tAV]
  · unfold G.look at h
    simp only [Option.map_eq_none_iff, List.find?_eq_none] at h
    simp only [G.tAV, List.any_map, List.any_eq_true, not_exists, not_and]
    intro x hx e
    exact h x hx (by simpa using e)

noncomputable def bx (x : Int) : Int := Builtin.bitXor x 1
noncomputable def G.ord (x y : Int) : Int × Int := if y < x then (y, x) else (x, y)
noncomputable def G.landO (g : G) (l r : Int) : G × Int :=
  if l = 0 ∨ l = bx r then (g, 0) else if l = 1 ∨ l = r then (g, r) else
  match g.look (l, r) with
  | some k => (g, 2 * k)
  | none => ({ g with nd := g.nd ++ [some (l, r)], tb := g.tb ++ [((l, r), (g.nd.length : Int))] }, 2 * (g.nd.length : Int))
noncomputable def G.land (g : G) (x y : Int) : G × Int := g.landO (G.ord x y).1 (G.ord x y).2
structure G.Ok (g : G) : Prop where
  pos : ∀ p ∈ g.tb, 0 ≤ p.2
  len : g.nd.length ≤ 1000
  tlen : g.tb.length ≤ 1000

theorem AigAt.app {σ p g} (h : AigAt σ p g) (x : Option (Int × Int)) : AigAt (upd σ p.na (.list (g.nAV ++ [pairAV x]))) p { g with nd := g.nd ++ [x] } := by
  have e1 := ne_of_ao h.a h.n (by simp)
  have e2 := ne_of_ao h.d h.n (by simp)
  have e3 := ne_of_ao h.t h.n (g.tO_ne _)
  refine ⟨(upd_ne e1).trans h.a, (upd_ne e2).trans h.d, ?_, (upd_ne h.ni.symm).trans h.i, (upd_ne h.no.symm).trans h.o, (upd_ne e3).trans h.t, h.ni, h.no, h.io⟩
  rw [upd_self]; simp [G.nAV]
theorem AigAt.put {σ p g} (h : AigAt σ p g) (k : Int × Int) (v : Int) (hl : g.look k = none) : AigAt (upd σ p.ta (.dictP (putK g.tAV k (.int v)))) p { g with tb := g.tb ++ [(k, v)] } := by
  have e1 := ne_of_ao h.a h.t (fun e => g.tO_ne2 _ _ e.symm)
  have e2 := ne_of_ao h.d h.t (fun e => g.tO_ne3 _ e.symm)
  have e3 := ne_of_ao h.n h.t (fun e => g.tO_ne _ e.symm)
  have e4 := ne_of_ao h.i h.t (fun e => g.tO_ne _ e.symm)
  have e5 := ne_of_ao h.o h.t (fun e => g.tO_ne _ e.symm)
  refine ⟨(upd_ne e1).trans h.a, (upd_ne e2).trans h.d, (upd_ne e3).trans h.n, (upd_ne e4).trans h.i, (upd_ne e5).trans h.o, ?_, h.ni, h.no, h.io⟩
  rw [upd_self, G.put_new g k v hl]
  show some (AO.dictP _) = some (G.tO _)
  unfold G.tO
  cases q : g.tb ++ [(k, v)] with
  | nil => simp at q
  | cons _ _ => rfl

section
variable {prog : Program} {w : World} {P : Params} {n : Nat} {σ : AH} {Q : AV → AH → Prop}
theorem two_mul_ok (x : Int) : IntMulOk 2 x := IntMulOk.of_left (by decide)
theorem land_same {p : AP} {g : G} (h : AigAt σ p g) {A : G × Int} {r : Int} (q : ∀ σ', AigAt σ' p A.1 → Keep [p.na, p.ta] σ σ' → Q (.int A.2) σ') (e : A = (g, r)) : Q (.int r) σ := by
  have := q σ (by rw [e]; exact h) Keep.refl
  rw [e] at this; exact this
theorem land_new {p : AP} {g : G} (h : AigAt σ p g) {A : G × Int} {l r : Int} (q : ∀ σ', AigAt σ' p A.1 → Keep [p.na, p.ta] σ σ' → Q (.int A.2) σ') (hl : g.look (l, r) = none)
    (e : A = ({ g with nd := g.nd ++ [some (l, r)], tb := g.tb ++ [((l, r), (g.nd.length : Int))] }, 2 * (g.nd.length : Int))) :
    Q (.int (2 * (g.nd.length : Int))) (upd (upd σ p.na (.list (g.nAV ++ [.tup [.int l, .int r]]))) p.ta (.dictP (putK g.tAV (l, r) (.int (g.nd.length : Int))))) := by
  have := q _ (by rw [e]; exact (h.app (some (l, r))).put (l, r) _ hl) ((Keep.put (by simp)).trans (Keep.put (by simp)))
  rw [e] at this
  exact this
theorem G.nLen (g : G) : g.nAV.length = g.nd.length := by simp [G.nAV]

theorem land_body {p : AP} {g : G} (h : AigAt σ p g) (ok : g.Ok) {x y : Int} (q : ∀ σ', AigAt σ' p (g.land x y).1 → Keep [p.na, p.ta] σ σ' → Q (.int (g.land x y).2) σ') :
    bodyK prog w n dLand (argLoc ["self", "l", "r"] [AV.ref p.a, .int x, .int y]) σ Q := by
  have gl := ok.len
  have gt := ok.tlen
  have hn := h.ns
  have hN := h.n
  have hT := h.t
  k_types
  (refine Br.mk (fun hc => ?_) (fun hc => ?_))
  · have hord : g.land x y = g.landO y x := by unfold G.land G.ord; rw [if_pos (of_decide_eq_true hc)]
    rw [hord] at q
    clear hord hc
    k_types
    (refine Br.mk (fun hc => ?_) (fun hc => ?_))
    · k_typeOf
      exact land_same h q (by unfold G.landO; rw [if_pos (.inl (by simpa using hc))])
    · k_types
      (refine Br.mk (fun hc => ?_) (fun hc => ?_))
      · k_typeOf
        exact land_same h q (by unfold G.landO; rw [if_pos (.inr (by simpa [bx] using hc))])
      · rename_i c1
        have c12 : ¬ (y = 0 ∨ y = bx x) := not_or.mpr ⟨by simpa using c1, by simpa [bx] using hc⟩
        clear c1 hc
        k_types
        (refine Br.mk (fun hc => ?_) (fun hc => ?_))
        · k_typeOf
          exact land_same h q (by unfold G.landO; rw [if_neg c12, if_pos (.inl (by simpa using hc))])
        · k_types
          (refine Br.mk (fun hc => ?_) (fun hc => ?_))
          · k_typeOf
            exact land_same h q (by unfold G.landO; rw [if_neg c12, if_pos (.inr (by simpa using hc))])
          · rename_i c3
            have c34 : ¬ (y = 1 ∨ y = x) := not_or.mpr ⟨by simpa using c3, by simpa using hc⟩
            clear c3 hc
            k_typeOf
            o_head hn
            k_typeOf
            o_head h.nsTa
            k_types
            refine ⟨by rw [hT]; exact g.tO_ty, ?_⟩
            k_typeOf
            o_head hT
            k_typeOf
            o_head g.asP
            k_types
            rw [g.look_av]
            generalize hk : g.look (y, x) = lk
            cases lk with
            | some k =>
              have hpos : 0 ≤ k := by
                have hk2 := hk
                unfold G.look at hk2
                obtain ⟨a, ha, rfl⟩ := Option.map_eq_some_iff.mp hk2
                exact ok.pos a (List.mem_of_find?_eq_some ha)
              k_types
              (refine Br.mk (fun hc => ?_) (fun hc => ?_))
              · have := of_decide_eq_true hc; (first | lia | omega)
              · k_typeOf
                (first | refine And.intro (two_mul_ok k) ?_ | (k_types; refine ⟨two_mul_ok k, ?_⟩))
                exact land_same h q (by unfold G.landO; rw [if_neg c12, if_neg c34, hk])
            | none =>
              k_typeOf
              o_head hn
              k_typeOf
              o_head hN
              refine ⟨by rw [G.nLen]; (first | lia | omega), ?_⟩
              k_typeOf
              o_head hn
              k_typeOf
              o_head (nsAt_list hN)
              k_types
              refine ⟨by rw [hN]; rfl, ?_⟩
              k_typeOf
              o_head hN
              refine ⟨by rw [G.nLen]; (first | lia | omega), ?_⟩
              k_types
              rw [G.nLen]
              have h2 := fun a b => (h.app (some (a, b))).ns
              have h3 := fun a b => (h.app (some (a, b))).t
              dsimp only [pairAV] at h2 h3
              rw [h2]
              k_typeOf
              o_head h3
              k_typeOf
              o_head G.asP
              refine ⟨by show (G.tAV _).length ≤ _; simp [G.tAV]; (first | lia | omega), ?_⟩
              k_typeOf
              (first | refine And.intro (two_mul_ok _) ?_ | (k_types; refine ⟨two_mul_ok _, ?_⟩))
              exact land_new h q hk (by unfold G.landO; rw [if_neg c12, if_neg c34, hk])
  · have hord : g.land x y = g.landO x y := by unfold G.land G.ord; rw [if_neg (of_decide_eq_false hc)]
    rw [hord] at q
    clear hord hc
    k_types
    (refine Br.mk (fun hc => ?_) (fun hc => ?_))
    · k_typeOf
      exact land_same h q (by unfold G.landO; rw [if_pos (.inl (by simpa using hc))])
    · k_types
      (refine Br.mk (fun hc => ?_) (fun hc => ?_))
      · k_typeOf
        exact land_same h q (by unfold G.landO; rw [if_pos (.inr (by simpa [bx] using hc))])
      · rename_i c1
        have c12 : ¬ (x = 0 ∨ x = bx y) := not_or.mpr ⟨by simpa using c1, by simpa [bx] using hc⟩
        clear c1 hc
        k_types
        (refine Br.mk (fun hc => ?_) (fun hc => ?_))
        · k_typeOf
          exact land_same h q (by unfold G.landO; rw [if_neg c12, if_pos (.inl (by simpa using hc))])
        · k_types
          (refine Br.mk (fun hc => ?_) (fun hc => ?_))
          · k_typeOf
            exact land_same h q (by unfold G.landO; rw [if_neg c12, if_pos (.inr (by simpa using hc))])
          · rename_i c3
            have c34 : ¬ (x = 1 ∨ x = y) := not_or.mpr ⟨by simpa using c3, by simpa using hc⟩
            clear c3 hc
            k_typeOf
            o_head hn
            k_typeOf
            o_head h.nsTa
            k_types
            refine ⟨by rw [hT]; exact g.tO_ty, ?_⟩
            k_typeOf
            o_head hT
            k_typeOf
            o_head g.asP
            k_types
            rw [g.look_av]
            generalize hk : g.look (x, y) = lk
            cases lk with
            | some k =>
              have hpos : 0 ≤ k := by
                have hk2 := hk
                unfold G.look at hk2
                obtain ⟨a, ha, rfl⟩ := Option.map_eq_some_iff.mp hk2
                exact ok.pos a (List.mem_of_find?_eq_some ha)
              k_types
              (refine Br.mk (fun hc => ?_) (fun hc => ?_))
              · have := of_decide_eq_true hc; (first | lia | omega)
              · k_typeOf
                (first | refine And.intro (two_mul_ok k) ?_ | (k_types; refine ⟨two_mul_ok k, ?_⟩))
                exact land_same h q (by unfold G.landO; rw [if_neg c12, if_neg c34, hk])
            | none =>
              k_typeOf
              o_head hn
              k_typeOf
              o_head hN
              refine ⟨by rw [G.nLen]; (first | lia | omega), ?_⟩
              k_typeOf
              o_head hn
              k_typeOf
              o_head (nsAt_list hN)
              k_types
              refine ⟨by rw [hN]; rfl, ?_⟩
              k_typeOf
              o_head hN
              refine ⟨by rw [G.nLen]; (first | lia | omega), ?_⟩
              k_types
              rw [G.nLen]
              have h2 := fun a b => (h.app (some (a, b))).ns
              have h3 := fun a b => (h.app (some (a, b))).t
              dsimp only [pairAV] at h2 h3
              rw [h2]
              k_typeOf
              o_head h3
              k_typeOf
              o_head G.asP
              refine ⟨by show (G.tAV _).length ≤ _; simp [G.tAV]; (first | lia | omega), ?_⟩
              k_typeOf
              (first | refine And.intro (two_mul_ok _) ?_ | (k_types; refine ⟨two_mul_ok _, ?_⟩))
              exact land_new h q hk (by unfold G.landO; rw [if_neg c12, if_neg c34, hk])
theorem landC {p : AP} {g : G} (h : AigAt σ p g) (ok : g.Ok) {x y : Int} (q : ∀ σ', AigAt σ' p (g.land x y).1 → Keep [p.na, p.ta] σ σ' → Q (.int (g.land x y).2) σ') :
    CallS prog w (lib w.params) (n + 1) 238 [.ref p.a, .int x, .int y] σ Q :=
  fnCall0 (kLand w.params) rfl (land_body h ok q)
end



/-! ### loops by an invariant -/
theorem forL_inv {body : Loc → AH → Kont → Prop} {bind : AV → Loc → Option Loc} {src : AV} {all : List AV} {K : Kont} (I : List AV → Loc → AH → Prop)
    (step : ∀ v vs l σ (F : Loc → AH → Prop), I (v :: vs) l σ → (∀ l σ, I vs l σ → F l σ) → items src σ = some all ∧ ∃ l', bind v l = some l' ∧ body l' σ ⟨F, K.ret, F⟩)
    (done : ∀ l σ, I [] l σ → items src σ = some all ∧ K.next l σ) : ∀ xs l σ, I xs l σ → forL body bind src all xs l σ K
  | [], l, σ, h => done l σ h
  | v :: vs, l, σ, h => by
    obtain ⟨a, l', e, b⟩ := step v vs l σ (fun l σ => forL body bind src all vs l σ K) h fun l σ q => forL_inv I step done vs l σ q
    refine ⟨a, ?_⟩
    rw [e]
    exact b
theorem compL_inv {r : Ev} {N : List (Str × NameKind)} {x : Str} {ifs : List Expr} {elt : Expr} {src : AV} {all : List AV} {l : Loc} {Q : List AV → AH → Prop} (I : List AV → List AV → AH → Prop)
    (step : ∀ v vs acc σ (F : List AV → AH → Prop), I (v :: vs) acc σ → (∀ acc σ, I vs acc σ → F acc σ) → items src σ = some all ∧ (match ifs with
      | [] => r.E N elt (locC N l x v) σ fun u σ => acc.length ≤ 100000 ∧ F (acc ++ [u]) σ
      | [c] => r.T N c (locC N l x v) σ fun b σ => Br b (r.E N elt (locC N l x v) σ fun u σ => acc.length ≤ 100000 ∧ F (acc ++ [u]) σ) (F acc σ)
      | _ => False))
    (done : ∀ acc σ, I [] acc σ → items src σ = some all ∧ Q acc σ) : ∀ xs acc σ, I xs acc σ → compL r N x ifs elt src all l xs acc σ Q
  | [], acc, σ, h => done acc σ h
  | v :: vs, acc, σ, h => by
    obtain ⟨a, b⟩ := step v vs acc σ (fun acc σ => compL r N x ifs elt src all l vs acc σ Q) h fun acc σ q => compL_inv I step done vs acc σ q
    exact ⟨a, b⟩
theorem while_inv {test : Loc → AH → (Bool → AH → Prop) → Prop} {body : Loc → AH → Kont → Prop} {K : Kont} (I : Nat → Loc → AH → Prop)
    (stop : ∀ l σ (F : Loc → AH → Prop), I 0 l σ → test l σ fun b σ => Br b (body l σ ⟨F, K.ret, F⟩) (K.next l σ))
    (step : ∀ m l σ (F : Loc → AH → Prop), I (m + 1) l σ → (∀ l σ, I m l σ → F l σ) → test l σ fun b σ => Br b (body l σ ⟨F, K.ret, F⟩) (K.next l σ)) :
    ∀ m l σ, I m l σ → whileN test body (m + 1) l σ K
  | 0, l, σ, h => stop l σ _ h
  | m + 1, l, σ, h => step m l σ _ h fun l σ q => while_inv I stop step m l σ q

/-! ### the graph's own functions -/
structure G.OkN (g : G) (m : Nat) : Prop where
  pos : ∀ p ∈ g.tb, 0 ≤ p.2
  len : g.nd.length ≤ m
  tlen : g.tb.length ≤ m
theorem G.OkN.ok {g : G} {m : Nat} (h : g.OkN m) (hm : m ≤ 1000) : g.Ok := ⟨h.pos, Nat.le_trans h.len hm, Nat.le_trans h.tlen hm⟩
theorem G.landO_ok {g : G} {m : Nat} (h : g.OkN m) (l r : Int) : (g.landO l r).1.OkN (m + 1) := by
  have w : g.OkN (m + 1) := ⟨h.pos, Nat.le_succ_of_le h.len, Nat.le_succ_of_le h.tlen⟩
  unfold G.landO
  split
  · exact w
  · split
    · exact w
    · cases g.look (l, r) with
      | some k => exact w
      | none =>
        refine ⟨fun p hp => ?_, by have := h.len; simp; k_data, by have := h.tlen; simp; k_data⟩
        rcases List.mem_append.mp hp with z | z
        · exact h.pos p z
        · simp only [List.mem_singleton] at z; subst z; exact Int.natCast_nonneg _
theorem G.land_ok {g : G} {m : Nat} (h : g.OkN m) (x y : Int) : (g.land x y).1.OkN (m + 1) := G.landO_ok h _ _
noncomputable def G.lor (g : G) (x y : Int) : G × Int := ((g.land (bx x) (bx y)).1, bx (g.land (bx x) (bx y)).2)
noncomputable def band (x y : Int) : Int := Builtin.bitAnd x y
noncomputable def G.lxor (g : G) (x y : Int) : G × Int :=
  let a := g.land (Builtin.bitXor x (band x 1)) (bx (Builtin.bitXor y (band y 1)))
  let b := a.1.land (bx (Builtin.bitXor x (band x 1))) (Builtin.bitXor y (band y 1))
  let c := b.1.lor a.2 b.2
  (c.1, Builtin.bitXor c.2 (band (Builtin.bitXor x y) 1))
noncomputable def G.lmux (g : G) (s a b : Int) : G × Int :=
  if a = b then (g, a) else
  let p := g.land s b
  let q := p.1.land (bx s) a
  q.1.lor p.2 q.2
theorem G.lor_ok {g : G} {m : Nat} (h : g.OkN m) (x y : Int) : (g.lor x y).1.OkN (m + 1) := G.land_ok h _ _
theorem G.lxor_ok {g : G} {m : Nat} (h : g.OkN m) (x y : Int) : (g.lxor x y).1.OkN (m + 3) := G.lor_ok (G.land_ok (G.land_ok h _ _) _ _) _ _
theorem G.OkN.up {g : G} {m k : Nat} (h : g.OkN m) (hk : m ≤ k) : g.OkN k := ⟨h.pos, Nat.le_trans h.len hk, Nat.le_trans h.tlen hk⟩
theorem G.lmux_ok {g : G} {m : Nat} (h : g.OkN m) (s a b : Int) : (g.lmux s a b).1.OkN (m + 3) := by
  unfold G.lmux
  split
  · exact h.up (by k_data)
  · exact G.lor_ok (G.land_ok (G.land_ok h _ _) _ _) _ _

section
variable {prog : Program} {w : World} {n : Nat} {σ : AH} {Q : AV → AH → Prop} {p : AP} {g : G} {m : Nat}

theorem lorC (h : AigAt σ p g) (ok : g.OkN m) (hm : m ≤ 990) {x y : Int} (q : ∀ σ', AigAt σ' p (g.lor x y).1 → Keep [p.na, p.ta] σ σ' → Q (.int (g.lor x y).2) σ') :
    CallS prog w (lib w.params) (n + 2) 245 [.ref p.a, .int x, .int y] σ Q := by
  refine fnCall0 (kLor w.params) rfl ?_
  k_typeOf
  o_head h.ns
  k_typeOf
  exact landC h (ok.ok (by k_data)) q

theorem lxorC (h : AigAt σ p g) (ok : g.OkN m) (hm : m ≤ 900) {x y : Int} (q : ∀ σ', AigAt σ' p (g.lxor x y).1 → Keep [p.na, p.ta] σ σ' → Q (.int (g.lxor x y).2) σ') :
    CallS prog w (lib w.params) (n + 3) 252 [.ref p.a, .int x, .int y] σ Q := by
  refine fnCall0 (kLxor w.params) rfl ?_
  k_typeOf
  o_head h.ns
  k_typeOf
  o_head h.ns
  k_typeOf
  refine landC h (ok.ok (by k_data)) fun σ₁ h₁ k₁ => ?_
  k_typeOf
  o_head h₁.ns
  k_typeOf
  refine landC h₁ ((G.land_ok ok _ _).ok (by k_data)) fun σ₂ h₂ k₂ => ?_
  k_typeOf
  refine lorC h₂ (G.land_ok (G.land_ok ok _ _) _ _) (by k_data) fun σ₃ h₃ k₃ => ?_
  k_typeOf
  exact q σ₃ h₃ ((k₁.trans k₂).trans k₃)

theorem lmuxC (h : AigAt σ p g) (ok : g.OkN m) (hm : m ≤ 900) {s a b : Int} (q : ∀ σ', AigAt σ' p (g.lmux s a b).1 → Keep [p.na, p.ta] σ σ' → Q (.int (g.lmux s a b).2) σ') :
    CallS prog w (lib w.params) (n + 3) 259 [.ref p.a, .int s, .int a, .int b] σ Q := by
  refine fnCall0 (kLmux w.params) rfl ?_
  k_types
  (refine Br.mk (fun hc => ?_) (fun hc => ?_))
  · have e : g.lmux s a b = (g, a) := by unfold G.lmux; rw [if_pos (by simpa using hc)]
    rw [e] at q
    k_typeOf
    exact q σ h Keep.refl
  · have e : a ≠ b := by simpa using hc
    unfold G.lmux at q
    rw [if_neg e] at q
    k_typeOf
    o_head h.ns
    k_typeOf
    o_head h.ns
    k_typeOf
    refine landC h (ok.ok (by k_data)) fun σ₁ h₁ k₁ => ?_
    k_typeOf
    o_head h₁.ns
    k_typeOf
    refine landC h₁ ((G.land_ok ok _ _).ok (by k_data)) fun σ₂ h₂ k₂ => ?_
    k_typeOf
    refine lorC h₂ (G.land_ok (G.land_ok ok _ _) _ _) (by k_data) fun σ₃ h₃ k₃ => ?_
    exact q σ₃ h₃ ((k₁.trans k₂).trans k₃)

theorem Keep.nil {σ σ' : AH} (h : ∀ b, σ b ≠ none → σ' b = σ b) : Keep [] σ σ' := ⟨fun b q _ => h b q, fun b q => by rw [h b q]; exact q⟩
theorem upd_none {σ : AH} {a c : Addr} {o : AO} (h : upd σ a o c = none) : c ≠ a ∧ σ c = none := by
  by_cases z : c = a
  · subst z; rw [upd_self] at h; cases h
  · exact ⟨z, by rwa [upd_ne z] at h⟩
theorem upd_none_iff {σ : AH} {a c : Addr} {o : AO} : upd σ a o c = none ↔ c ≠ a ∧ σ c = none := ⟨upd_none, fun h => (upd_ne h.1).trans h.2⟩
theorem nsAt_mk {σ : AH} {a c d : Addr} {fs : List (Str × AV)} (h1 : σ a = some (.inst c d)) (h2 : σ d = some (.ns fs)) : nsAt σ a = some (c, d, fs) := by
  unfold nsAt; rw [h1]; dsimp only; rw [h2]
theorem nsAt_set {σ : AH} {a c d : Addr} {fs fs' : List (Str × AV)} (h : nsAt σ a = some (c, d, fs)) : nsAt (upd σ d (.ns fs')) a = some (c, d, fs') := by
  obtain ⟨e1, e2⟩ := nsAt_eq h
  exact nsAt_mk ((upd_ne (by first | exact nes e1 e2 | exact nes' e1 e2 | (rintro rfl; rw [e1] at e2; cases e2))).trans e1) (upd_self ..)
theorem nsAt_other {σ : AH} {a b c d : Addr} {fs : List (Str × AV)} {o : AO} (h : nsAt σ a = some (c, d, fs)) (h1 : b ≠ a) (h2 : b ≠ d) : nsAt (upd σ b o) a = some (c, d, fs) :=
  nsAt_mk ((upd_ne h1.symm).trans (nsAt_eq h).1) ((upd_ne h2.symm).trans (nsAt_eq h).2)
theorem nsAt_fresh {σ : AH} {a b c d : Addr} {fs : List (Str × AV)} {o : AO} (h : nsAt σ a = some (c, d, fs)) (hb : σ b = none) : nsAt (upd σ b o) a = some (c, d, fs) :=
  nsAt_other h (fun e => nS (hb.symm.trans (e ▸ (nsAt_eq h).1))) (fun e => nS (hb.symm.trans (e ▸ (nsAt_eq h).2)))
/-- a new graph -/
theorem aigC (q : ∀ p σ', AigAt σ' p ⟨[none], [], []⟩ → Keep [] σ σ' → σ p.na = none → σ p.ia = none → σ p.ta = none → Q (.ref p.a) σ') : CallS prog w (lib w.params) (n + 1) 291 [] σ Q := by
  refine clsCall (kAigInit w.params) (aigMake w.params).1 (aigMake w.params).2.1 (aigMake w.params).2.2 rfl fun a d hne ha hd => ?_
  have h0 : nsAt (upd (upd σ d (.ns [])) a (.inst 291 d)) a = some (291, d, []) := by
    unfold nsAt; rw [upd_self]; dsimp only; rw [upd_ne hne.symm, upd_self]
  k_typeOf
  (first | refine fun c1 hc1 => ?_ | (k_types; intro c1 hc1))
  have h1 := nsAt_fresh (o := .list [.none]) h0 hc1
  k_typeOf
  o_head h1
  k_typeOf
  (first | refine fun c2 hc2 => ?_ | (k_types; intro c2 hc2))
  have h2 := nsAt_fresh (o := .list []) (nsAt_set (fs' := putK [] "nodes" (.ref c1)) h1) hc2
  k_typeOf
  o_head h2
  k_typeOf
  (first | refine fun c3 hc3 => ?_ | (k_types; intro c3 hc3))
  have h3 := nsAt_fresh (o := .list []) (nsAt_set (fs' := putK (putK [] "nodes" (.ref c1)) "inputs" (.ref c2)) h2) hc3
  k_typeOf
  o_head h3
  k_typeOf
  (first | refine fun c4 hc4 => ?_ | (k_types; intro c4 hc4))
  have h4 := nsAt_fresh (o := .dict0) (nsAt_set (fs' := putK (putK (putK [] "nodes" (.ref c1)) "inputs" (.ref c2)) "outputs" (.ref c3)) h3) hc4
  k_typeOf
  o_head h4
  k_types
  simp only [upd_none_iff] at hc1 hc2 hc3 hc4
  obtain ⟨n1a, n1d, s1⟩ := hc1
  obtain ⟨n2d, n21, n2a, -, s2⟩ := hc2
  obtain ⟨n3d, n32, -, n31, n3a, -, s3⟩ := hc3
  obtain ⟨n4d, n43, -, n42, -, n41, n4a, -, s4⟩ := hc4
  have e1 := hne.symm
  have e2 := n1a.symm
  have e3 := n1d.symm
  have e4 := n2d.symm
  have e5 := n21.symm
  have e6 := n2a.symm
  have e7 := n3d.symm
  have e8 := n32.symm
  have e9 := n31.symm
  have e10 := n3a.symm
  have e11 := n4d.symm
  have e12 := n43.symm
  have e13 := n42.symm
  have e14 := n41.symm
  have e15 := n4a.symm
  refine q ⟨a, d, c1, c2, c3, c4⟩ _ ⟨?_, ?_, ?_, ?_, ?_, ?_, e5, e9, e8⟩ ?_ s1 s2 s4
  · simp [upd, *]
  · simp [upd, *, putK, sEq]
  · show _ = some (AO.list [.none]); simp [upd, *]
  · simp [upd, *, G.iAV]
  · simp [upd, *]
  · simp [upd, *, G.tO]
  · refine Keep.nil fun b hb => ?_
    have z : ∀ {c}, σ c = none → b ≠ c := fun e => by rintro rfl; exact hb e
    simp [upd, z ha, z hd, z s1, z s2, z s3, z s4]
end



set_option genInjectivity true in
inductive Kd where | kand | kor | kxor | knot | kmux
  deriving DecidableEq
noncomputable def Kd.str : Kd → Str
  | .kand => "and"
  | .kor => "or"
  | .kxor => "xor"
  | .knot => "not"
  | .kmux => "mux"
noncomputable def Kd.ar : Kd → Nat
  | .knot => 1
  | .kmux => 3
  | _ => 2
noncomputable def G.cell (g : G) (k : Kd) (row : List Int) : G × Int :=
  match k with
  | .kand => g.land (row.getD 0 0) (row.getD 1 0)
  | .kor => g.lor (row.getD 0 0) (row.getD 1 0)
  | .kxor => g.lxor (row.getD 0 0) (row.getD 1 0)
  | .knot => (g, bx (row.getD 0 0))
  | .kmux => g.lmux (row.getD 0 0) (row.getD 1 0) (row.getD 2 0)
theorem G.cell_ok {g : G} {m : Nat} (h : g.OkN m) (k : Kd) (row : List Int) : (g.cell k row).1.OkN (m + 3) := by
  cases k
  · exact (G.land_ok h _ _).up (by k_data)
  · exact (G.lor_ok h _ _).up (by k_data)
  · exact G.lxor_ok h _ _
  · exact h.up (by k_data)
  · exact G.lmux_ok h _ _ _

theorem AigAt.keep {σ σ' : AH} {p : AP} {g : G} {S : List Addr} (h : AigAt σ p g) (k : Keep S σ σ') (n : ∀ a ∈ S, a ≠ p.a ∧ a ≠ p.d ∧ a ≠ p.na ∧ a ≠ p.ia ∧ a ≠ p.oa ∧ a ≠ p.ta) : AigAt σ' p g :=
  ⟨k.get h.a fun m => (n _ m).1 rfl, k.get h.d fun m => (n _ m).2.1 rfl, k.get h.n fun m => (n _ m).2.2.1 rfl, k.get h.i fun m => (n _ m).2.2.2.1 rfl, k.get h.o fun m => (n _ m).2.2.2.2.1 rfl, k.get h.t fun m => (n _ m).2.2.2.2.2 rfl, h.ni, h.no, h.io⟩
theorem AigAt.keep0 {σ σ' : AH} {p : AP} {g : G} (h : AigAt σ p g) (k : Keep [] σ σ') : AigAt σ' p g := h.keep k (by simp)

section
variable {prog : Program} {w : World} {n : Nat} {σ : AH} {Q : AV → AH → Prop} {p : AP} {g : G} {m : Nat}

theorem isAndC (h : AigAt σ p g) {i : Int} (h0 : 0 ≤ i) (h1 : i < 1000) {x : Option (Int × Int)} (e : g.nd[i.toNat]? = some x) (q : Q (.bool x.isSome) σ) : CallS prog w (lib w.params) (n + 1) 231 [.ref p.a, .int i] σ Q := by
  refine fnCall0 (kIsAnd w.params) rfl ?_
  k_typeOf
  o_head h.ns
  k_typeOf
  o_head h.n
  refine ⟨by k_data, ?_⟩
  have e2 : idxOf g.nAV i = some (pairAV x) := by unfold idxOf; rw [if_pos h0]; simp [G.nAV, e]
  rw [e2]
  cases x with
  | none => k_types; exact q
  | some lr => k_types; exact q

theorem AigAt.addIn {σ p g} (h : AigAt σ p g) (x : Int) : AigAt (upd (upd σ p.na (.list (g.nAV ++ [.none]))) p.ia (.list (g.iAV ++ [.int x]))) p { g with nd := g.nd ++ [none], ins := g.ins ++ [x] } := by
  have h := h.app none
  have e1 := ne_of_ao h.a h.i (by simp)
  have e2 := ne_of_ao h.d h.i (by simp)
  have e3 := ne_of_ao h.t h.i (G.tO_ne _ _)
  exact ⟨(upd_ne e1).trans h.a, (upd_ne e2).trans h.d, (upd_ne h.ni).trans h.n, by rw [upd_self]; simp [G.iAV], (upd_ne h.io.symm).trans h.o, (upd_ne e3).trans h.t, h.ni, h.no, h.io⟩

theorem addInC (h : AigAt σ p g) (ok : g.nd.length ≤ 900) (ok2 : g.ins.length ≤ 900)
    (q : ∀ σ', AigAt σ' p { g with nd := g.nd ++ [none], ins := g.ins ++ [(g.nd.length : Int)] } → Keep [p.na, p.ia] σ σ' → Q (.int (2 * (g.nd.length : Int))) σ') : CallS prog w (lib w.params) (n + 1) 217 [.ref p.a] σ Q := by
  refine fnCall0 (kAigInput w.params) rfl ?_
  have hn := h.ns
  have hN := h.n
  have h2 := h.app none
  have hn2 := h2.ns
  have hI := h2.i
  have q2 := q _ (h.addIn _) ((Keep.put (by simp)).trans (Keep.put (by simp)))
  dsimp only [pairAV] at hn2 hI
  k_typeOf
  o_head hn
  k_typeOf
  o_head hN
  refine ⟨by rw [G.nLen]; k_data, ?_⟩
  k_typeOf
  o_head hn
  k_typeOf
  o_head (nsAt_list hN)
  k_types
  refine ⟨by rw [hN]; rfl, ?_⟩
  k_typeOf
  o_head hN
  refine ⟨by rw [G.nLen]; k_data, ?_⟩
  k_typeOf
  o_head hn2
  k_typeOf
  o_head (nsAt_list hI)
  k_types
  refine ⟨by rw [hI]; rfl, ?_⟩
  k_typeOf
  o_head hI
  refine ⟨by simp [G.iAV]; k_data, ?_⟩
  k_typeOf
  (first | refine And.intro (two_mul_ok _) ?_ | (k_types; refine ⟨two_mul_ok _, ?_⟩))
  rw [G.nLen]
  exact q2

theorem memI {o : AO} {es : List (Int × AV)} {k : Int} (ho : asI o = some es) : member (.int k) o = some (hasK es k) := by
  cases o <;> simp only [asI, Option.some.injEq, reduceCtorEq] at ho <;> subst ho <;> rfl
theorem literalOfC {d : Addr} {o : AO} {es : List (Int × AV)} {k : Int} {v : AV} (hd : σ d = some o) (ho : asI o = some es) (hv : lookK es k = some v) (q : Q v σ) : CallS prog w (lib w.params) (n + 1) 323 [.ref d, .int k] σ Q := by
  refine fnCall0 (kLiteralOf w.params) rfl ?_
  have hh : hasK es k = true := by unfold hasK; rw [hv]; rfl
  k_typeOf
  o_head hd
  k_typeOf
  o_head (memI ho)
  k_typeOf
  o_head hh
  k_types
  rw [hd]
  cases o with
  | dict0 => cases ho; cases hv
  | dictI es' =>
    cases ho
    k_typeOf
    o_head hv
    k_types
    exact q
  | _ => cases ho

noncomputable def varOf (x : Int) : Int := if band x 1 = 1 then -(x.fdiv 2 + 1) else x.fdiv 2 + 1
theorem variableOfC {x : Int} (q : Q (.int (varOf x)) σ) : CallS prog w (lib w.params) (n + 1) 330 [.int x] σ Q := by
  refine fnCall0 (kVariableOf w.params) rfl ?_
  unfold varOf band at q
  k_types
  (refine Br.mk (fun hc => ?_) (fun hc => ?_))
  · rw [if_pos (by simpa using hc)] at q
    k_types
    exact q
  · rw [if_neg (by simpa using hc)] at q
    k_types
    exact q

theorem len1 {α : Type} {r : List α} (h : r.length = 1) : ∃ x, r = [x] := by match r, h with | [x], _ => exact ⟨x, rfl⟩
theorem len2 {α : Type} {r : List α} (h : r.length = 2) : ∃ x y, r = [x, y] := by match r, h with | [x, y], _ => exact ⟨x, y, rfl⟩
theorem len3 {α : Type} {r : List α} (h : r.length = 3) : ∃ x y z, r = [x, y, z] := by match r, h with | [x, y, z], _ => exact ⟨x, y, z, rfl⟩
theorem cellC (h : AigAt σ p g) (ok : g.OkN m) (hm : m ≤ 900) {k : Kd} {r : Addr} {row : List Int} (hr : σ r = some (.list (row.map .int))) (hl : row.length = k.ar)
    (q : ∀ σ', AigAt σ' p (g.cell k row).1 → Keep [p.na, p.ta] σ σ' → Q (.int (g.cell k row).2) σ') : CallS prog w (lib w.params) (n + 4) 316 [.ref p.a, .str k.str, .none, .ref r] σ Q := by
  refine fnCall0 (kCellLiteral w.params) rfl ?_
  cases k
  · obtain ⟨x, y, rfl⟩ := len2 hl
    · k_typeOf
      o_head h.ns
      k_typeOf
      o_head hr
      k_typeOf
      o_head hr
      k_typeOf
      exact landC h (ok.ok (by k_data)) q
  · obtain ⟨x, y, rfl⟩ := len2 hl
    · k_typeOf
      o_head h.ns
      k_typeOf
      o_head hr
      k_typeOf
      o_head hr
      k_typeOf
      exact lorC h ok (by k_data) q
  · obtain ⟨x, y, rfl⟩ := len2 hl
    · k_typeOf
      o_head h.ns
      k_typeOf
      o_head hr
      k_typeOf
      o_head hr
      k_typeOf
      exact lxorC h ok (by k_data) q
  · obtain ⟨x, rfl⟩ := len1 hl
    · k_typeOf
      o_head hr
      k_typeOf
      exact q σ h Keep.refl
  · obtain ⟨x, y, z, rfl⟩ := len3 hl
    · k_typeOf
      o_head h.ns
      k_typeOf
      o_head hr
      k_typeOf
      o_head hr
      k_typeOf
      o_head hr
      k_typeOf
      exact lmuxC h ok (by k_data) q
end



/-! ### what the graph means -/
theorem emod2 (x : Int) : x % 2 = 0 ∨ x % 2 = 1 := by k_data
theorem getD_left {α : Type} {l r : List α} {i : Nat} {d : α} (h : i < l.length) : (l ++ r).getD i d = l.getD i d := by simp only [List.getD_eq_getElem?_getD, List.getElem?_append_left h]
theorem getD_right {α : Type} {l r : List α} {i : Nat} {d : α} (h : l.length ≤ i) : (l ++ r).getD i d = r.getD (i - l.length) d := by simp only [List.getD_eq_getElem?_getD, List.getElem?_append_right h]
theorem band1 (x : Int) : band x 1 = x % 2 := bitAnd_m1 x
theorem bx_eq (x : Int) : bx x = x + 1 - 2 * (x % 2) := by
  show Builtin.bitXor x 1 = _
  rw [bitXor_and, bitAnd_m1]
theorem xor0 (x : Int) : Builtin.bitXor x 0 = x := bitXor_zero x
theorem xor_low (x : Int) : Builtin.bitXor x (band x 1) = x - x % 2 := by
  rw [band1]
  rcases emod2 x with h | h
  · rw [h, xor0]; k_data
  · rw [h]; show bx x = _; rw [bx_eq, h]; k_data
theorem xor_sign (x y : Int) : band (Builtin.bitXor x y) 1 = (x + y) % 2 := by
  rw [band1, bitXor_and]; k_data

noncomputable def lv (V : List Bool) (x : Int) : Bool := (V.getD (x.toNat / 2) false) ^^ decide (x % 2 = 1)
noncomputable def nodeV (α : Nat → Bool) (acc : List Bool) : Option (Int × Int) → Bool
  | none => α acc.length
  | some (a, b) => lv acc a && lv acc b
theorem nodeV_none (α : Nat → Bool) (acc : List Bool) : nodeV α acc none = α acc.length := rfl
theorem nodeV_some (α : Nat → Bool) (acc : List Bool) (a b : Int) : nodeV α acc (some (a, b)) = (lv acc a && lv acc b) := rfl
noncomputable def nvF (α : Nat → Bool) (acc : List Bool) (nd : List (Option (Int × Int))) : List Bool := nd.foldl (fun acc o => acc ++ [nodeV α acc o]) acc
noncomputable def nv (α : Nat → Bool) (nd : List (Option (Int × Int))) : List Bool := nvF α [] nd
theorem nvF_len (α : Nat → Bool) : ∀ nd acc, (nvF α acc nd).length = acc.length + nd.length := by
  intro nd
  induction nd with
  | nil => intro acc; rfl
  | cons o r ih =>
    intro acc
    show (nvF α (acc ++ [nodeV α acc o]) r).length = _
    rw [ih]; simp; k_data
theorem nvF_pre (α : Nat → Bool) : ∀ nd acc, ∃ r, nvF α acc nd = acc ++ r := by
  intro nd
  induction nd with
  | nil => intro acc; exact ⟨[], by simp [nvF]⟩
  | cons o r ih =>
    intro acc
    obtain ⟨q, e⟩ := ih (acc ++ [nodeV α acc o])
    exact ⟨nodeV α acc o :: q, by show nvF α (acc ++ [nodeV α acc o]) r = _; rw [e]; simp⟩
theorem nv_len (α : Nat → Bool) (nd) : (nv α nd).length = nd.length := by unfold nv; rw [nvF_len]; simp
theorem nv_app (α : Nat → Bool) (s t) : nv α (s ++ t) = nvF α (nv α s) t := by unfold nv nvF; rw [List.foldl_append]
theorem nv_snoc (α : Nat → Bool) (s o) : nv α (s ++ [o]) = nv α s ++ [nodeV α (nv α s) o] := by rw [nv_app]; rfl
theorem nv_pre (α : Nat → Bool) (s t) : ∃ r, nv α (s ++ t) = nv α s ++ r := by rw [nv_app]; exact nvF_pre ..
theorem lv_pre {V r : List Bool} {x : Int} (h1 : 0 ≤ x) (h2 : x < 2 * V.length) : lv (V ++ r) x = lv V x := by
  unfold lv
  congr 1
  have : x.toNat / 2 < V.length := by k_data
  rw [getD_left this]
theorem nv_get {α : Nat → Bool} {nd : List (Option (Int × Int))} {k : Nat} {o} (h : nd[k]? = some o) : ∃ r, nv α nd = nv α (nd.take k) ++ (nodeV α (nv α (nd.take k)) o :: r) := by
  obtain ⟨hk, rfl⟩ := List.getElem?_eq_some_iff.mp h
  have e : nd = (nd.take k ++ [nd[k]]) ++ nd.drop (k + 1) := by simp
  obtain ⟨r, q⟩ := nv_pre α (nd.take k ++ [nd[k]]) (nd.drop (k + 1))
  rw [← e, nv_snoc] at q
  exact ⟨r, by rw [q]; simp⟩

structure G.WF (g : G) : Prop where
  n0 : g.nd[0]? = some none
  ord : ∀ (i : Nat) l r, g.nd[i]? = some (some (l, r)) → 0 ≤ l ∧ l < 2 * (i : Int) ∧ 0 ≤ r ∧ r < 2 * (i : Int)
  tab : ∀ p ∈ g.tb, ∃ i : Nat, p.2 = (i : Int) ∧ g.nd[i]? = some (some p.1)
noncomputable def G.In (g : G) (x : Int) : Prop := 0 ≤ x ∧ x < 2 * (g.nd.length : Int)
noncomputable def G.lit (g : G) (α : Nat → Bool) (x : Int) : Bool := lv (nv α g.nd) x
structure Ext (g g' : G) : Prop where
  nd : ∃ t, g'.nd = g.nd ++ t ∧ ∀ o ∈ t, o ≠ none
  ins : g'.ins = g.ins
theorem Ext.refl (g : G) : Ext g g := ⟨⟨[], by simp, by simp⟩, rfl⟩
theorem Ext.trans {a b c : G} (x : Ext a b) (y : Ext b c) : Ext a c := by
  obtain ⟨t, e, n⟩ := x.nd
  obtain ⟨t', e', n'⟩ := y.nd
  refine ⟨⟨t ++ t', by rw [e', e]; simp, fun o h => ?_⟩, y.ins.trans x.ins⟩
  rcases List.mem_append.mp h with h | h
  · exact n o h
  · exact n' o h
theorem G.In.ext {g g' : G} {x : Int} (h : g.In x) (e : Ext g g') : g'.In x := by
  obtain ⟨t, e, -⟩ := e.nd
  refine ⟨h.1, ?_⟩
  have := h.2
  rw [e]; simp; k_data
theorem lit_ext {g g' : G} {x : Int} (h : g.In x) (e : Ext g g') (α) : g'.lit α x = g.lit α x := by
  obtain ⟨t, e, -⟩ := e.nd
  unfold G.lit
  rw [e]
  obtain ⟨r, q⟩ := nv_pre α g.nd t
  rw [q]
  exact lv_pre h.1 (by rw [nv_len]; exact h.2)

structure Sem (g g' : G) (x : Int) (f : (Nat → Bool) → Bool) : Prop where
  wf : g'.WF
  ext : Ext g g'
  inn : g'.In x
  val : ∀ α, α 0 = false → g'.lit α x = f α

theorem G.WF.len {g : G} (h : g.WF) : 0 < g.nd.length := (List.getElem?_eq_some_iff.mp h.n0).1
theorem G.WF.lit0 {g : G} (h : g.WF) {α} (hα : α 0 = false) : g.lit α 0 = false := by
  unfold G.lit lv
  obtain ⟨r, e⟩ := nv_get (α := α) h.n0
  rw [e]
  simp [nodeV_none, nv, nvF, hα]
theorem lv_bx (V : List Bool) {x : Int} (h : 0 ≤ x) : lv V (bx x) = !lv V x := by
  unfold lv
  have e : (bx x).toNat / 2 = x.toNat / 2 := by rw [bx_eq]; k_data
  rw [e]
  have e2 : decide (bx x % 2 = 1) = !decide (x % 2 = 1) := by
    rw [bx_eq]
    rcases emod2 x with h | h
    · rw [show (x + 1 - 2 * (x % 2)) % 2 = 1 by k_data, h]; rfl
    · rw [show (x + 1 - 2 * (x % 2)) % 2 = 0 by k_data, h]; rfl
  rw [e2]
  cases V.getD (x.toNat / 2) false <;> cases decide (x % 2 = 1) <;> rfl
theorem In_bx {g : G} {x : Int} (h : g.In x) : g.In (bx x) := by
  obtain ⟨a, b⟩ := h
  refine ⟨?_, ?_⟩ <;> rw [bx_eq] <;> k_data
theorem lit_bx {g : G} {x : Int} (h : g.In x) (α) : g.lit α (bx x) = !g.lit α x := lv_bx _ h.1
theorem G.WF.In0 {g : G} (h : g.WF) : g.In 0 := ⟨by k_data, by have := h.len; k_data⟩
theorem G.WF.In1 {g : G} (h : g.WF) : g.In 1 := ⟨by k_data, by have := h.len; k_data⟩
theorem G.WF.lit1 {g : G} (h : g.WF) {α} (hα : α 0 = false) : g.lit α 1 = true := by
  have := lit_bx h.In0 α
  rw [h.lit0 hα] at this
  exact this

theorem landO_sem {g : G} (w : g.WF) {l r : Int} (hl : g.In l) (hr : g.In r) : Sem g (g.landO l r).1 (g.landO l r).2 fun α => g.lit α l && g.lit α r := by
  unfold G.landO
  split
  · rename_i c
    refine ⟨w, Ext.refl g, w.In0, fun α hα => ?_⟩
    show g.lit α 0 = _
    rw [w.lit0 hα]
    rcases c with rfl | rfl
    · rw [w.lit0 hα]; rfl
    · rw [lit_bx hr]; cases g.lit α r <;> rfl
  · split
    · rename_i c
      refine ⟨w, Ext.refl g, hr, fun α hα => ?_⟩
      show g.lit α r = _
      rcases c with rfl | rfl
      · rw [w.lit1 hα]; rfl
      · simp
    · cases hk : g.look (l, r) with
      | some k =>
        dsimp only
        unfold G.look at hk
        obtain ⟨p, hp, rfl⟩ := Option.map_eq_some_iff.mp hk
        obtain ⟨i, e, hi⟩ := w.tab p (List.mem_of_find?_eq_some hp)
        have e2 : p.1 = (l, r) := by simpa using List.find?_some hp
        rw [e2] at hi
        obtain ⟨z1, z2, z3, z4⟩ := w.ord i l r hi
        have hlen := (List.getElem?_eq_some_iff.mp hi).1
        refine ⟨w, Ext.refl g, ?_, fun α hα => ?_⟩
        · rw [e]; refine ⟨by k_data, ?_⟩; show 2 * (i : Int) < 2 * (g.nd.length : Int); k_data
        · show g.lit α (2 * p.2) = _
          rw [e]
          unfold G.lit
          obtain ⟨t, q⟩ := nv_get (α := α) hi
          have lt : (nv α (g.nd.take i)).length = i := by rw [nv_len, List.length_take]; k_data
          rw [q, lv_pre z1 (by rw [lt]; exact z2), lv_pre z3 (by rw [lt]; exact z4)]
          unfold lv
          rw [show (2 * (i : Int)).toNat / 2 = i by k_data, show (2 * (i : Int)) % 2 = 0 by k_data]
          rw [getD_right (by rw [lt]; exact Nat.le_refl i), lt]
          simp [nodeV_some, lv]
      | none =>
        dsimp only
        have hap : ∀ i, i < g.nd.length → (g.nd ++ [some (l, r)])[i]? = g.nd[i]? := fun i hi => List.getElem?_append_left hi
        refine ⟨⟨?_, ?_, ?_⟩, ⟨⟨[some (l, r)], rfl, by simp⟩, rfl⟩, ?_, fun α hα => ?_⟩
        · show (g.nd ++ [some (l, r)])[0]? = _
          rw [hap 0 w.len, w.n0]
        · intro i a b h
          have h : (g.nd ++ [some (l, r)])[i]? = some (some (a, b)) := h
          by_cases hi : i < g.nd.length
          · rw [hap i hi] at h; exact w.ord i a b h
          · rw [List.getElem?_append_right (by k_data)] at h
            have : i - g.nd.length = 0 := by
              have := (List.getElem?_eq_some_iff.mp h).1
              simp at this; k_data
            rw [this] at h
            simp at h
            obtain ⟨rfl, rfl⟩ := h
            have := hl.1; have := hl.2; have := hr.1; have := hr.2
            refine ⟨by k_data, by k_data, by k_data, by k_data⟩
        · intro p hp
          rcases List.mem_append.mp hp with z | z
          · obtain ⟨i, e, hi⟩ := w.tab p z
            exact ⟨i, e, by rw [hap i (List.getElem?_eq_some_iff.mp hi).1]; exact hi⟩
          · simp only [List.mem_singleton] at z
            subst z
            exact ⟨g.nd.length, rfl, by simp⟩
        · refine ⟨by k_data, ?_⟩
          show _ < 2 * ((g.nd ++ [some (l, r)]).length : Int)
          simp; k_data
        · show lv (nv α (g.nd ++ [some (l, r)])) (2 * (g.nd.length : Int)) = (lv (nv α g.nd) l && lv (nv α g.nd) r)
          rw [nv_snoc]
          conv => lhs; unfold lv
          rw [show (2 * (g.nd.length : Int)).toNat / 2 = g.nd.length by k_data, show (2 * (g.nd.length : Int)) % 2 = 0 by k_data]
          rw [getD_right (by rw [nv_len]; exact Nat.le_refl _), nv_len]
          simp [nodeV_some]
theorem land_sem {g : G} (w : g.WF) {x y : Int} (hx : g.In x) (hy : g.In y) : Sem g (g.land x y).1 (g.land x y).2 fun α => g.lit α x && g.lit α y := by
  unfold G.land G.ord
  split
  · have := landO_sem w hy hx
    exact ⟨this.wf, this.ext, this.inn, fun α hα => (this.val α hα).trans (Bool.and_comm ..)⟩
  · exact landO_sem w hx hy
theorem lor_sem {g : G} (w : g.WF) {x y : Int} (hx : g.In x) (hy : g.In y) : Sem g (g.lor x y).1 (g.lor x y).2 fun α => g.lit α x || g.lit α y := by
  have := land_sem w (In_bx hx) (In_bx hy)
  refine ⟨this.wf, this.ext, In_bx this.inn, fun α hα => ?_⟩
  show (g.land (bx x) (bx y)).1.lit α (bx (g.land (bx x) (bx y)).2) = _
  rw [lit_bx this.inn, this.val α hα, lit_bx hx, lit_bx hy]
  cases g.lit α x <;> cases g.lit α y <;> rfl
noncomputable def lowF (x : Int) : Int := x - x % 2
theorem In_low {g : G} {x : Int} (h : g.In x) : g.In (lowF x) := by
  obtain ⟨a, b⟩ := h
  unfold lowF
  exact ⟨by k_data, by k_data⟩
theorem lit_low {g : G} {x : Int} (h : g.In x) (α) : g.lit α (lowF x) = (g.lit α x ^^ decide (x % 2 = 1)) := by
  unfold G.lit lv lowF
  have := h.1
  rw [show (x - x % 2).toNat / 2 = x.toNat / 2 by k_data, show (x - x % 2) % 2 = 0 by k_data]
  cases (nv α g.nd).getD (x.toNat / 2) false <;> cases decide (x % 2 = 1) <;> rfl
theorem lit_sign {g : G} {x s : Int} (h : g.In x) (hs : s = 0 ∨ s = 1) (α) : g.In (Builtin.bitXor x s) ∧ g.lit α (Builtin.bitXor x s) = (g.lit α x ^^ decide (s = 1)) := by
  rcases hs with rfl | rfl
  · rw [xor0]; exact ⟨h, by simp⟩
  · refine ⟨In_bx h, ?_⟩
    show g.lit α (bx x) = _
    rw [lit_bx h]; cases g.lit α x <;> rfl
theorem lxor_sem {g : G} (w : g.WF) {x y : Int} (hx : g.In x) (hy : g.In y) : Sem g (g.lxor x y).1 (g.lxor x y).2 fun α => g.lit α x ^^ g.lit α y := by
  unfold G.lxor
  rw [xor_low, xor_low, xor_sign]
  have a := land_sem w (In_low hx) (In_bx (In_low hy))
  have b := land_sem a.wf ((In_bx (In_low hx)).ext a.ext) ((In_low hy).ext a.ext)
  have c := lor_sem b.wf (a.inn.ext b.ext) b.inn
  have hs : (x + y) % 2 = 0 ∨ (x + y) % 2 = 1 := emod2 _
  refine ⟨c.wf, (a.ext.trans b.ext).trans c.ext, (lit_sign c.inn hs fun _ => false).1, fun α hα => ?_⟩
  refine ((lit_sign c.inn hs α).2).trans ?_
  rw [c.val α hα, lit_ext a.inn b.ext, b.val α hα, lit_ext (In_bx (In_low hx)) a.ext, lit_ext (In_low hy) a.ext]
  have e := a.val α hα
  rw [show (g.land (lowF x) (bx (lowF y))).1.lit α (g.land (lowF x) (bx (lowF y))).2 = _ from e, lit_bx (In_low hx), lit_bx (In_low hy), lit_low hx, lit_low hy]
  have e3 : decide ((x + y) % 2 = 1) = (decide (x % 2 = 1) ^^ decide (y % 2 = 1)) := by
    rcases emod2 x with h | h <;> rcases emod2 y with k | k <;> rw [h, k]
    · rw [show (x + y) % 2 = 0 by k_data]; rfl
    · rw [show (x + y) % 2 = 1 by k_data]; rfl
    · rw [show (x + y) % 2 = 1 by k_data]; rfl
    · rw [show (x + y) % 2 = 0 by k_data]; rfl
  rw [e3]
  cases g.lit α x <;> cases g.lit α y <;> cases decide (x % 2 = 1) <;> cases decide (y % 2 = 1) <;> rfl
theorem lmux_sem {g : G} (w : g.WF) {s x y : Int} (hs : g.In s) (hx : g.In x) (hy : g.In y) : Sem g (g.lmux s x y).1 (g.lmux s x y).2 fun α => if g.lit α s then g.lit α y else g.lit α x := by
  unfold G.lmux
  split
  · rename_i e
    subst e
    exact ⟨w, Ext.refl g, hx, fun α _ => by simp⟩
  · have a := land_sem w hs hy
    have b := land_sem a.wf ((In_bx hs).ext a.ext) (hx.ext a.ext)
    have c := lor_sem b.wf (a.inn.ext b.ext) b.inn
    refine ⟨c.wf, (a.ext.trans b.ext).trans c.ext, c.inn, fun α hα => ?_⟩
    refine (c.val α hα).trans ?_
    rw [lit_ext a.inn b.ext, b.val α hα, lit_ext (In_bx hs) a.ext, lit_ext hx a.ext, a.val α hα, lit_bx hs]
    cases g.lit α s <;> cases g.lit α x <;> cases g.lit α y <;> rfl

/-- what a cell means -/
noncomputable def Kd.sem (k : Kd) (row : List Bool) : Bool :=
  match k with
  | .kand => row.getD 0 false && row.getD 1 false
  | .kor => row.getD 0 false || row.getD 1 false
  | .kxor => row.getD 0 false ^^ row.getD 1 false
  | .knot => !row.getD 0 false
  | .kmux => if row.getD 0 false then row.getD 2 false else row.getD 1 false
theorem cell_sem {g : G} (w : g.WF) (k : Kd) {row : List Int} (hl : row.length = k.ar) (hr : ∀ x ∈ row, g.In x) : Sem g (g.cell k row).1 (g.cell k row).2 fun α => k.sem (row.map (g.lit α)) := by
  cases k
  · obtain ⟨x, y, rfl⟩ := len2 hl
    exact land_sem w (hr _ (by simp)) (hr _ (by simp))
  · obtain ⟨x, y, rfl⟩ := len2 hl
    exact lor_sem w (hr _ (by simp)) (hr _ (by simp))
  · obtain ⟨x, y, rfl⟩ := len2 hl
    exact lxor_sem w (hr _ (by simp)) (hr _ (by simp))
  · obtain ⟨x, rfl⟩ := len1 hl
    exact ⟨w, Ext.refl g, In_bx (hr _ (by simp)), fun α _ => lit_bx (hr _ (by simp)) α⟩
  · obtain ⟨x, y, z, rfl⟩ := len3 hl
    exact lmux_sem w (hr _ (by simp)) (hr _ (by simp)) (hr _ (by simp))



/-! ### netlists being built -/
structure NP where
  a : Addr
  d : Addr
  ia : Addr
  oa : Addr
  ca : Addr
noncomputable abbrev NP.fs (p : NP) (cnt : Int) : List (Str × AV) := [fe "name" (.str "m"), fe "count" (.int cnt), fe "inputs" (.ref p.ia), fe "outputs" (.ref p.oa), fe "cells" (.ref p.ca)]
structure NetR (σ : AH) (p : NP) (cnt : Int) (is os cs : List AV) : Prop where
  a : σ p.a = some (.inst 143 p.d)
  d : σ p.d = some (.ns (p.fs cnt))
  i : σ p.ia = some (.list is)
  o : σ p.oa = some (.list os)
  c : σ p.ca = some (.list cs)
  io : p.ia ≠ p.oa
  ic : p.ia ≠ p.ca
  oc : p.oa ≠ p.ca
theorem NetR.ns {σ p cnt is os cs} (h : NetR σ p cnt is os cs) : nsAt σ p.a = some (143, p.d, p.fs cnt) := by
  unfold nsAt; rw [h.a]; dsimp only; rw [h.d]
theorem NetR.keep {σ σ' : AH} {p cnt is os cs} {S : List Addr} (h : NetR σ p cnt is os cs) (k : Keep S σ σ') (n : ∀ a ∈ S, a ≠ p.a ∧ a ≠ p.d ∧ a ≠ p.ia ∧ a ≠ p.oa ∧ a ≠ p.ca) : NetR σ' p cnt is os cs :=
  ⟨k.get h.a fun m => (n _ m).1 rfl, k.get h.d fun m => (n _ m).2.1 rfl, k.get h.i fun m => (n _ m).2.2.1 rfl, k.get h.o fun m => (n _ m).2.2.2.1 rfl, k.get h.c fun m => (n _ m).2.2.2.2 rfl, h.io, h.ic, h.oc⟩
theorem NetR.keep0 {σ σ' : AH} {p cnt is os cs} (h : NetR σ p cnt is os cs) (k : Keep [] σ σ') : NetR σ' p cnt is os cs := h.keep k (by simp)
theorem NetR.cnt {σ p cnt is os cs} (h : NetR σ p cnt is os cs) (x : Int) : NetR (upd σ p.d (.ns (p.fs x))) p x is os cs := by
  have e1 := ne_of_ao h.a h.d (by simp)
  have e2 := ne_of_ao h.i h.d (by simp)
  have e3 := ne_of_ao h.o h.d (by simp)
  have e4 := ne_of_ao h.c h.d (by simp)
  exact ⟨(upd_ne e1).trans h.a, upd_self .., (upd_ne e2).trans h.i, (upd_ne e3).trans h.o, (upd_ne e4).trans h.c, h.io, h.ic, h.oc⟩
theorem NetR.setI {σ p cnt is os cs} (h : NetR σ p cnt is os cs) (x : List AV) : NetR (upd σ p.ia (.list x)) p cnt x os cs := by
  have e1 := ne_of_ao h.a h.i (by simp)
  have e2 := ne_of_ao h.d h.i (by simp)
  exact ⟨(upd_ne e1).trans h.a, (upd_ne e2).trans h.d, upd_self .., (upd_ne h.io.symm).trans h.o, (upd_ne h.ic.symm).trans h.c, h.io, h.ic, h.oc⟩
theorem NetR.setO {σ p cnt is os cs} (h : NetR σ p cnt is os cs) (x : List AV) : NetR (upd σ p.oa (.list x)) p cnt is x cs := by
  have e1 := ne_of_ao h.a h.o (by simp)
  have e2 := ne_of_ao h.d h.o (by simp)
  exact ⟨(upd_ne e1).trans h.a, (upd_ne e2).trans h.d, (upd_ne h.io).trans h.i, upd_self .., (upd_ne h.oc.symm).trans h.c, h.io, h.ic, h.oc⟩
theorem NetR.setC {σ p cnt is os cs} (h : NetR σ p cnt is os cs) (x : List AV) : NetR (upd σ p.ca (.list x)) p cnt is os x := by
  have e1 := ne_of_ao h.a h.c (by simp)
  have e2 := ne_of_ao h.d h.c (by simp)
  exact ⟨(upd_ne e1).trans h.a, (upd_ne e2).trans h.d, (upd_ne h.ic).trans h.i, (upd_ne h.oc).trans h.o, upd_self .., h.io, h.ic, h.oc⟩
theorem NetR.new {σ p cnt is os cs} (h : NetR σ p cnt is os cs) {b : Addr} {o : AO} (hb : σ b = none) : NetR (upd σ b o) p cnt is os cs := h.keep0 (Keep.new hb)

section
variable {prog : Program} {w : World} {n : Nat} {σ : AH} {Q : AV → AH → Prop} {p : NP} {cnt : Int} {is os cs : List AV}

theorem newNetC (h : NetR σ p cnt is os cs) (q : ∀ σ', NetR σ' p (cnt + 1) is os cs → Keep [p.d] σ σ' → Q (.int cnt) σ') : CallS prog w (lib w.params) (n + 1) 91 [.ref p.a] σ Q := by
  refine fnCall0 (kNewNet w.params) rfl ?_
  have q2 := q _ (h.cnt (cnt + 1)) (Keep.put (by simp))
  k_typeOf
  o_head h.ns
  k_typeOf
  o_head h.ns
  k_typeOf
  o_head h.ns
  k_types
  exact q2

theorem newNetsC (h : NetR σ p cnt is os cs) (q : ∀ c σ', NetR σ' p (cnt + 1) is os cs → Keep [p.d] σ σ' → σ c = none → σ' c = some (.list [.int cnt]) → Q (.ref c) σ') : CallS prog w (lib w.params) (n + 2) 96 [.ref p.a, .int 1] σ Q := by
  refine fnCall0 (kNewNets w.params) rfl ?_
  k_typeOf
  o_head h.ns
  k_typeOf
  refine newNetC h fun σ₁ h₁ k₁ => ?_
  k_typeOf
  (first | refine fun c hc => ?_ | (k_types; intro c hc))
  exact q c _ (h₁.new hc) (k₁.trans (Keep.new hc)) (k₁.fresh hc) (upd_self ..)

/-- add_input of one bit -/
theorem addInputC (h : NetR σ p cnt is os cs) (hl : is.length ≤ 100) {nm : Str}
    (q : ∀ c b σ', NetR σ' p (cnt + 1) (is ++ [.tup [.str nm, .ref b]]) os cs → Keep [p.d, p.ia] σ σ' → σ c = none → σ b = none → σ' c = some (.list [.int cnt]) → σ' b = some (.list [.int cnt]) → b ≠ c → Q (.ref c) σ') :
    CallS prog w (lib w.params) (n + 3) 103 [.ref p.a, .str nm, .int 1] σ Q := by
  refine fnCall0 (kAddInput w.params) rfl ?_
  k_typeOf
  o_head h.ns
  k_typeOf
  refine newNetsC h fun c σ₁ h₁ k₁ f₁ g₁ => ?_
  k_typeOf
  o_head h₁.ns
  k_typeOf
  o_head (nsAt_list h₁.i)
  k_types
  refine ⟨by rw [h₁.i]; rfl, ?_⟩
  k_typeOf
  o_head g₁
  k_typeOf
  (first | refine fun b hb => ?_ | (k_types; intro b hb))
  have h₂ := h₁.new (o := .list [.int cnt]) hb
  have hbc : b ≠ c := by first | exact nes g₁ hb | exact nes' g₁ hb | (rintro rfl; rw [g₁] at hb; cases hb)
  k_typeOf
  o_head h₂.i
  refine ⟨by k_data, ?_⟩
  k_typeOf
  have h₃ := h₂.setI (is ++ [.tup [.str nm, .ref b]])
  have ec : c ≠ p.ia := by first | exact nes h.i f₁ | exact nes' h.i f₁ | (rintro rfl; rw [h.i] at f₁; cases f₁)
  have fb := k₁.fresh hb
  have eb : b ≠ p.ia := by first | exact nes h.i fb | exact nes' h.i fb | (rintro rfl; rw [h.i] at fb; cases fb)
  refine q c b _ h₃ (((k₁.weaken (by simp)).trans (Keep.new hb)).trans (Keep.put (by simp))) f₁ fb ?_ ?_ hbc
  · rw [upd_ne ec, upd_ne hbc.symm]; exact g₁
  · rw [upd_ne eb, upd_self]

theorem addOutputC (h : NetR σ p cnt is os cs) (hl : os.length ≤ 100) {nm : Str} {r : Addr} {x : List AV} (hr : σ r = some (.list x)) (hx : x.length ≤ 100)
    (q : ∀ b σ', NetR σ' p cnt is (os ++ [.tup [.str nm, .ref b]]) cs → Keep [p.oa] σ σ' → σ b = none → σ' b = some (.list x) → Q .none σ') :
    CallS prog w (lib w.params) (n + 1) 110 [.ref p.a, .str nm, .ref r] σ Q := by
  refine fnCall0 (kAddOutput w.params) rfl ?_
  k_typeOf
  o_head h.ns
  k_typeOf
  o_head (nsAt_list h.o)
  k_types
  refine ⟨by rw [h.o]; rfl, ?_⟩
  k_typeOf
  o_head hr
  refine ⟨by k_data, ?_⟩
  intro b hb
  have h₂ := h.new (o := .list x) hb
  k_typeOf
  o_head h₂.o
  refine ⟨by k_data, ?_⟩
  k_typeOf
  have eb : b ≠ p.oa := by first | exact nes h.o hb | exact nes' h.o hb | (rintro rfl; rw [h.o] at hb; cases hb)
  exact q b _ (h₂.setO _) ((Keep.new hb).trans (Keep.put (by simp))) hb ((upd_ne eb).trans (upd_self ..))

theorem driveC (h : NetR σ p cnt is os cs) (hl : cs.length ≤ 100) {k : Str} {out : Int} {ins : List AV}
    (q : ∀ σ', NetR σ' p cnt is os (cs ++ [.tup [.str k, .int out, .tup ins, .none]]) → Keep [p.ca] σ σ' → Q .none σ') :
    CallS prog w (lib w.params) (n + 1) 126 [.ref p.a, .int out, .str k, .tup ins, .none] σ Q := by
  refine fnCall0 (kDrive w.params) rfl ?_
  k_typeOf
  o_head h.ns
  k_typeOf
  o_head (nsAt_list h.c)
  k_types
  refine ⟨by rw [h.c]; rfl, ?_⟩
  k_typeOf
  o_head h.c
  refine ⟨by k_data, ?_⟩
  k_typeOf
  exact q _ (h.setC _) (Keep.put (by simp))

theorem addCellC (h : NetR σ p cnt is os cs) (hl : cs.length ≤ 100) {k : Str} {ins : List AV}
    (q : ∀ σ', NetR σ' p (cnt + 1) is os (cs ++ [.tup [.str k, .int cnt, .tup ins, .none]]) → Keep [p.d, p.ca] σ σ' → Q (.int cnt) σ') :
    CallS prog w (lib w.params) (n + 2) 118 [.ref p.a, .str k, .tup ins] σ Q := by
  refine fnCall (kAddCell w.params) rfl ?_
  k_typeOf
  o_head h.ns
  k_typeOf
  refine newNetC h fun σ₁ h₁ k₁ => ?_
  k_typeOf
  o_head h₁.ns
  k_typeOf
  refine driveC h₁ hl fun σ₂ h₂ k₂ => ?_
  k_typeOf
  exact q σ₂ h₂ ((k₁.weaken (by simp)).trans (k₂.weaken (by simp)))
end



/-! ### finished netlists -/
structure NtP where
  p : NP
  b1 : Addr
  b2 : Addr
  b3 : Addr
  c1 : Addr
  c2 : Addr
structure Nt where
  i1 : Str
  i2 : Str
  i3 : Str
  o1 : Str
  o2 : Str
  v1 : Int
  v2 : Int
  v3 : Int
  y1 : Int
  y2 : Int
  cnt : Int
  cs : List (Kd × Int × List Int)
noncomputable abbrev cellAV (c : Kd × Int × List Int) : AV := .tup [.str c.1.str, .int c.2.1, .tup (c.2.2.map .int), .none]
noncomputable abbrev inAV (t : NtP) (N : Nt) : List AV := [.tup [.str N.i1, .ref t.b1], .tup [.str N.i2, .ref t.b2], .tup [.str N.i3, .ref t.b3]]
noncomputable abbrev outAV (t : NtP) (N : Nt) : List AV := [.tup [.str N.o1, .ref t.c1], .tup [.str N.o2, .ref t.c2]]
structure NetAt (σ : AH) (t : NtP) (N : Nt) : Prop where
  r : NetR σ t.p N.cnt (inAV t N) (outAV t N) (N.cs.map cellAV)
  b1 : σ t.b1 = some (.list [.int N.v1])
  b2 : σ t.b2 = some (.list [.int N.v2])
  b3 : σ t.b3 = some (.list [.int N.v3])
  c1 : σ t.c1 = some (.list [.int N.y1])
  c2 : σ t.c2 = some (.list [.int N.y2])
  len : N.cs.length ≤ 5
theorem NetAt.keep0 {σ σ' : AH} {t N} (h : NetAt σ t N) (k : Keep [] σ σ') : NetAt σ' t N :=
  ⟨h.r.keep0 k, k.get h.b1 (by simp), k.get h.b2 (by simp), k.get h.b3 (by simp), k.get h.c1 (by simp), k.get h.c2 (by simp), h.len⟩
theorem items_list {σ : AH} {a : Addr} {xs : List AV} (h : σ a = some (.list xs)) : items (.ref a) σ = some xs := by unfold items; dsimp only; rw [h]
theorem rangeSize0 (k : Nat) : Builtin.Range.rangeSize 0 (k : Int) 1 = k := by
  unfold Builtin.Range.rangeSize
  rw [if_pos (by decide)]
  split
  · simp
  · k_data
theorem items_rng {τ : AH} {k : Nat} (hk : k < 1000000000) : items (.rng 0 (k : Int) 1) τ = some ((List.range k).map fun (i : Nat) => AV.int (i : Int)) := by
  unfold items
  dsimp only
  rw [if_pos ⟨by decide, by simpa using hk, .inl rfl⟩]
  unfold rngItems
  rw [rangeSize0]
  simp
theorem NetAt.iI {σ t N} (h : NetAt σ t N) : items (.ref t.p.ia) σ = some (inAV t N) := items_list h.r.i
theorem NetAt.iO {σ t N} (h : NetAt σ t N) : items (.ref t.p.oa) σ = some (outAV t N) := items_list h.r.o
theorem NetAt.iC {σ t N} (h : NetAt σ t N) : items (.ref t.p.ca) σ = some (N.cs.map cellAV) := items_list h.r.c

/-- a change of something fresh -/
theorem NetAt.upd {σ τ : AH} {t N} {c : Addr} (h : NetAt τ t N) (hc : σ c = none) (k : Keep [c] σ τ) (o : AO) (h' : NetAt σ t N) : NetAt (Mine.Internal.upd τ c o) t N :=
  h'.keep0 ((k.trans (Keep.put (by simp))).drop hc)

section
variable {prog : Program} {w : World} {n : Nat} {σ : AH} {Q : AV → AH → Prop} {t : NtP} {N : Nt}

theorem isStateC {k : Kd} (q : Q (.bool false) σ) : CallS prog w (lib w.params) (n + 1) 63 [.str k.str] σ Q := by
  refine fnCall0 (kIsState w.params) rfl ?_
  cases k
  all_goals
    k_types
    exact q

theorem sourcesC (h : NetAt σ t N) (q : ∀ c σ', Keep [] σ σ' → σ c = none → σ' c = some (.list [.int N.v1, .int N.v2, .int N.v3]) → Q (.ref c) σ') :
    CallS prog w (lib w.params) (n + 2) 133 [.ref t.p.a] σ Q := by
  refine fnCall0 (kSources w.params) rfl ?_
  k_typeOf
  (first | refine fun c hc => ?_ | (k_types; intro c hc))
  have k0 : Keep [c] σ (upd σ c (.list [])) := Keep.new hc
  have h0 := h.keep0 (Keep.new (o := .list []) hc)
  k_typeOf
  o_head h0.r.ns
  k_types
  refine .inr ⟨_, h0.iI, ?_⟩
  have g0 : upd σ c (.list []) c = some (.list []) := upd_self ..
  k_typeOf
  (first | refine And.intro (h0.iI) ?_ | (k_types; refine ⟨h0.iI, ?_⟩))
  k_typeOf
  o_head (nsAt_list g0)
  k_types
  refine ⟨by rw [g0]; rfl, ?_⟩
  k_typeOf
  o_head g0
  k_typeOf
  o_head h0.b1
  k_typeOf
  have h1 := h0.upd hc k0 (.list ([] ++ [.int N.v1])) h
  have g1 : (upd (upd σ c (.list [])) c (.list ([] ++ [.int N.v1]))) c = some (.list [.int N.v1]) := upd_self ..
  have k1 : Keep [c] σ (upd (upd σ c (.list [])) c (.list ([] ++ [.int N.v1]))) := k0.trans (Keep.put (by simp))
  (first | refine And.intro (h1.iI) ?_ | (k_types; refine ⟨h1.iI, ?_⟩))
  k_typeOf
  o_head (nsAt_list g1)
  k_types
  refine ⟨by rw [g1]; rfl, ?_⟩
  k_typeOf
  o_head g1
  k_typeOf
  o_head h1.b2
  k_typeOf
  have h2 := h1.upd hc k1 (.list ([.int N.v1] ++ [.int N.v2])) h
  have g2 : (upd (upd (upd σ c (.list [])) c (.list ([] ++ [.int N.v1]))) c (.list ([.int N.v1] ++ [.int N.v2]))) c = some (.list [.int N.v1, .int N.v2]) := upd_self ..
  have k2 : Keep [c] σ (upd (upd (upd σ c (.list [])) c (.list ([] ++ [.int N.v1]))) c (.list ([.int N.v1] ++ [.int N.v2]))) := k1.trans (Keep.put (by simp))
  (first | refine And.intro (h2.iI) ?_ | (k_types; refine ⟨h2.iI, ?_⟩))
  k_typeOf
  o_head (nsAt_list g2)
  k_types
  refine ⟨by rw [g2]; rfl, ?_⟩
  k_typeOf
  o_head g2
  k_typeOf
  o_head h2.b3
  k_typeOf
  have h3 := h2.upd hc k2 (.list ([.int N.v1, .int N.v2] ++ [.int N.v3])) h
  have g3 : (upd (upd (upd (upd σ c (.list [])) c (.list ([] ++ [.int N.v1]))) c (.list ([.int N.v1] ++ [.int N.v2]))) c (.list ([.int N.v1, .int N.v2] ++ [.int N.v3]))) c = some (.list [.int N.v1, .int N.v2, .int N.v3]) := upd_self ..
  have k3 : Keep [c] σ (upd (upd (upd (upd σ c (.list [])) c (.list ([] ++ [.int N.v1]))) c (.list ([.int N.v1] ++ [.int N.v2]))) c (.list ([.int N.v1, .int N.v2] ++ [.int N.v3]))) := k2.trans (Keep.put (by simp))
  (first | refine And.intro (h3.iI) ?_ | (k_types; refine ⟨h3.iI, ?_⟩))
  k_typeOf
  o_head h3.r.ns
  k_types
  refine .inr ⟨_, h3.iC, ?_⟩
  refine forL_inv (fun rest l τ => A3 (l "nets" = some (.ref c)) (τ = _) (∀ x ∈ rest, ∃ c0, x = cellAV c0)) (fun v vs l τ F hI hF => ?_) (fun l τ hI => ?_) _ _ _ ⟨rfl, rfl, fun x hx => ?_⟩
  · obtain ⟨e1, rfl, e3⟩ := hI
    obtain ⟨c0, rfl⟩ := e3 v (List.mem_cons_self ..)
    refine ⟨h3.iC, _, rfl, ?_⟩
    k_typeOf
    refine isStateC ?_
    k_typeOf
    exact hF _ _ ⟨(if_neg (by decide)).trans e1, rfl, fun x hx => e3 x (List.mem_cons_of_mem _ hx)⟩
  · obtain ⟨e1, rfl, _⟩ := hI
    refine ⟨h3.iC, ?_⟩
    k_typeOf
    o_head e1
    k_typeOf
    exact q c _ (k3.drop hc) hc (upd_self ..)
  · obtain ⟨c0, _, rfl⟩ := List.mem_map.mp hx
    exact ⟨c0, rfl⟩

theorem sinksC (h : NetAt σ t N) (q : ∀ c σ', Keep [] σ σ' → σ c = none → σ' c = some (.list [.int N.y1, .int N.y2]) → Q (.ref c) σ') :
    CallS prog w (lib w.params) (n + 2) 140 [.ref t.p.a] σ Q := by
  refine fnCall0 (kSinks w.params) rfl ?_
  k_typeOf
  (first | refine fun c hc => ?_ | (k_types; intro c hc))
  have k0 : Keep [c] σ (upd σ c (.list [])) := Keep.new hc
  have h0 := h.keep0 (Keep.new (o := .list []) hc)
  k_typeOf
  o_head h0.r.ns
  k_types
  refine .inr ⟨_, h0.iO, ?_⟩
  have g0 : upd σ c (.list []) c = some (.list []) := upd_self ..
  k_typeOf
  (first | refine And.intro (h0.iO) ?_ | (k_types; refine ⟨h0.iO, ?_⟩))
  k_typeOf
  o_head (nsAt_list g0)
  k_types
  refine ⟨by rw [g0]; rfl, ?_⟩
  k_typeOf
  o_head g0
  k_typeOf
  o_head h0.c1
  k_typeOf
  have h1 := h0.upd hc k0 (.list ([] ++ [.int N.y1])) h
  have g1 : (upd (upd σ c (.list [])) c (.list ([] ++ [.int N.y1]))) c = some (.list [.int N.y1]) := upd_self ..
  have k1 : Keep [c] σ (upd (upd σ c (.list [])) c (.list ([] ++ [.int N.y1]))) := k0.trans (Keep.put (by simp))
  (first | refine And.intro (h1.iO) ?_ | (k_types; refine ⟨h1.iO, ?_⟩))
  k_typeOf
  o_head (nsAt_list g1)
  k_types
  refine ⟨by rw [g1]; rfl, ?_⟩
  k_typeOf
  o_head g1
  k_typeOf
  o_head h1.c2
  k_typeOf
  have h2 := h1.upd hc k1 (.list ([.int N.y1] ++ [.int N.y2])) h
  have g2 : (upd (upd (upd σ c (.list [])) c (.list ([] ++ [.int N.y1]))) c (.list ([.int N.y1] ++ [.int N.y2]))) c = some (.list [.int N.y1, .int N.y2]) := upd_self ..
  have k2 : Keep [c] σ (upd (upd (upd σ c (.list [])) c (.list ([] ++ [.int N.y1]))) c (.list ([.int N.y1] ++ [.int N.y2]))) := k1.trans (Keep.put (by simp))
  (first | refine And.intro (h2.iO) ?_ | (k_types; refine ⟨h2.iO, ?_⟩))
  k_typeOf
  o_head h2.r.ns
  k_types
  refine .inr ⟨_, h2.iC, ?_⟩
  refine forL_inv (fun rest l τ => A3 (l "nets" = some (.ref c)) (τ = _) (∀ x ∈ rest, ∃ c0, x = cellAV c0)) (fun v vs l τ F hI hF => ?_) (fun l τ hI => ?_) _ _ _ ⟨rfl, rfl, fun x hx => ?_⟩
  · obtain ⟨e1, rfl, e3⟩ := hI
    obtain ⟨c0, rfl⟩ := e3 v (List.mem_cons_self ..)
    refine ⟨h2.iC, _, rfl, ?_⟩
    k_typeOf
    refine isStateC ?_
    k_typeOf
    exact hF _ _ ⟨(if_neg (by decide)).trans e1, rfl, fun x hx => e3 x (List.mem_cons_of_mem _ hx)⟩
  · obtain ⟨e1, rfl, _⟩ := hI
    refine ⟨h2.iC, ?_⟩
    k_typeOf
    o_head e1
    k_typeOf
    exact q c _ (k2.drop hc) hc (upd_self ..)
  · obtain ⟨c0, _, rfl⟩ := List.mem_map.mp hx
    exact ⟨c0, rfl⟩

/-! ### names of bits -/
noncomputable def bn (x : Str) : Str := ((((Str.empty ++ x) ++ ("[" : Str)) ++ (toString (0 : Int) : Str)) ++ ("]" : Str))
noncomputable abbrev portAV (p : Str × Addr × Int) : AV := .tup [.str p.1, .ref p.2.1]
theorem bitNamesC {r : Addr} {ports : List (Str × Addr × Int)} (hr : σ r = some (.list (ports.map portAV))) (hp : ∀ p ∈ ports, σ p.2.1 = some (.list [.int p.2.2])) (hn : ∀ p ∈ ports, p.1.length ≤ 100) (hl : ports.length ≤ 100)
    (q : ∀ c σ', Keep [] σ σ' → σ c = none → σ' c = some (.list (ports.map fun p => .str (bn p.1))) → Q (.ref c) σ') : CallS prog w (lib w.params) (n + 1) 154 [.ref r] σ Q := by
  refine fnCall0 (kBitNames w.params) rfl ?_
  k_typeOf
  (first | refine fun c hc => ?_ | (k_types; intro c hc))
  have ner : r ≠ c := by first | exact nes hr hc | exact nes' hr hc | (rintro rfl; rw [hr] at hc; cases hc)
  k_types
  refine .inr ⟨ports.map portAV, items_list ((upd_ne ner).trans hr), ?_⟩
  refine forL_inv (fun rest l τ => A3 (l "names" = some (.ref c)) (Keep [c] σ τ) (X2 fun done todo => A3 (ports = done ++ todo) (rest = todo.map portAV) (τ c = some (.list (done.map fun p => .str (bn p.1)))))) (fun v vs l τ F hI hF => ?_) (fun l τ hI => ?_) _ _ _ ⟨rfl, Keep.new hc, [], ports, rfl, rfl, upd_self ..⟩
  · obtain ⟨e1, k1, done, todo, e2, e3, e4⟩ := hI
    cases todo with
    | nil => cases e3
    | cons p todo =>
      cases e3
      have hit : items (.ref r) τ = some (ports.map portAV) := items_list (k1.get hr (by simpa using ner))
      refine ⟨hit, _, rfl, ?_⟩
      have hpm : p ∈ ports := by rw [e2]; simp
      have neb : p.2.1 ≠ c := by intro z; have := hp p hpm; rw [z, hc] at this; cases this
      have hb := k1.get (hp p hpm) (by simpa using neb)
      k_typeOf
      o_head hb
      k_types
      refine .inr ⟨_, items_rng (k := 1) (by decide), ?_⟩
      k_typeOf
      (first | refine And.intro (items_rng (k := 1) (by decide)) ?_ | (k_types; refine ⟨items_rng (k := 1) (by decide), ?_⟩))
      k_types
      simp only [updL_app, String.reduceEq, if_false, e1]
      k_typeOf
      o_head (nsAt_list e4)
      k_types
      refine ⟨by rw [e4]; rfl, ?_⟩
      k_types
      have hn1 := hn p hpm
      have z0 : Str.empty.length = 0 := rfl
      have z1 : (Str.ofString "[").length = 1 := by decide +kernel
      have z2 : (Str.ofString (toString (0 : Int))).length = 1 := by decide +kernel
      have z3 : (Str.ofString "]").length = 1 := by decide +kernel
      refine ⟨by rw [strLen_append]; k_data, by k_data, ?_⟩
      k_types
      refine ⟨by simp only [strLen_append]; k_data, ?_⟩
      k_types
      refine ⟨?_, ?_⟩
      · show (((Str.empty ++ p.1) ++ Str.ofString "[") ++ Str.ofString (toString (0 : Int))).length ≤ _
        simp only [strLen_append]; k_data
      k_types
      refine ⟨?_, ?_⟩
      · show ((((Str.empty ++ p.1) ++ Str.ofString "[") ++ Str.ofString (toString (0 : Int))) ++ Str.ofString "]").length ≤ _
        simp only [strLen_append]; k_data
      k_types
      refine ⟨?_, ?_⟩
      · show ((((Str.empty ++ p.1) ++ Str.ofString "[") ++ Str.ofString (toString (0 : Int))) ++ Str.ofString "]").length ≤ _
        simp only [strLen_append]; k_data
      k_typeOf
      o_head e4
      refine ⟨by have := congrArg List.length e2; simp at this ⊢; k_data, ?_⟩
      k_typeOf
      (first | refine And.intro (items_rng (k := 1) (by decide)) ?_ | (k_types; refine ⟨items_rng (k := 1) (by decide), ?_⟩))
      k_typeOf
      refine hF _ _ ⟨?_, k1.trans (Keep.put (by simp)), done ++ [p], todo, by rw [e2]; simp, rfl, ?_⟩
      · simp only [updL_app, String.reduceEq, if_false, e1]
      · rw [upd_self, List.map_append]; rfl
  · obtain ⟨e1, k1, done, todo, e2, e3, e4⟩ := hI
    cases todo with
    | cons p todo => cases e3
    | nil =>
      refine ⟨items_list (k1.get hr (by simpa using ner)), ?_⟩
      k_typeOf
      o_head e1
      k_types
      rw [List.append_nil] at e2
      exact q c τ (k1.drop hc) hc (by rw [e4, e2])
end


section
variable {prog : Program} {w : World} {n : Nat} {σ : AH} {Q : AV → AH → Prop} {t : NtP} {N : Nt}

theorem idx_nat {xs : List AV} {i : Nat} {v : AV} (h : xs[i]? = some v) : idxOf xs (i : Int) = some v := by
  unfold idxOf; rw [if_pos (Int.natCast_nonneg _)]; simpa using h
theorem cell_at {i : Nat} (h : i < N.cs.length) : ∃ c0, N.cs[i]? = some c0 ∧ idxOf (N.cs.map cellAV) (i : Int) = some (cellAV c0) :=
  ⟨N.cs[i], List.getElem?_eq_getElem h, idx_nat (by simp [h])⟩

theorem stateCellsC (h : NetAt σ t N) (q : ∀ c σ', Keep [] σ σ' → σ c = none → σ' c = some (.list []) → Q (.ref c) σ') : CallS prog w (lib w.params) (n + 2) 175 [.ref t.p.a] σ Q := by
  refine fnCall0 (kStateCells w.params) rfl ?_
  k_typeOf
  (first | refine fun c hc => ?_ | (k_types; intro c hc))
  have h0 := h.keep0 (Keep.new (o := .list []) hc)
  k_typeOf
  o_head h0.r.ns
  k_typeOf
  o_head h0.r.c
  refine ⟨by have := h.len; simp; k_data, ?_⟩
  k_types
  refine .inr ⟨_, items_rng (by have := h.len; simp; k_data), ?_⟩
  refine forL_inv (fun rest l τ => A4 (l "found" = some (.ref c)) (l "netlist" = some (.ref t.p.a)) (τ = _) (∀ x ∈ rest, ∃ i : Nat, i < N.cs.length ∧ x = .int i)) (fun v vs l τ F hI hF => ?_) (fun l τ hI => ?_) _ _ _ ⟨rfl, rfl, rfl, fun x hx => ?_⟩
  · obtain ⟨e1, e2, rfl, e3⟩ := hI
    obtain ⟨i, hi, rfl⟩ := e3 v (List.mem_cons_self ..)
    obtain ⟨c0, -, hx⟩ := cell_at hi
    refine ⟨items_rng (by have := h.len; simp; k_data), _, rfl, ?_⟩
    k_typeOf
    row_witness_with e2
    k_typeOf
    o_head h0.r.ns
    k_typeOf
    o_head h0.r.c
    refine ⟨by have := h.len; k_data, ?_⟩
    rw [hx]
    k_typeOf
    refine isStateC ?_
    k_typeOf
    exact hF _ _ ⟨by (first | exact e1 | (k_units; exact e1)), by (first | exact e2 | (k_units; exact e2)), rfl, fun x hx => e3 x (List.mem_cons_of_mem _ hx)⟩
  · obtain ⟨e1, -, rfl, _⟩ := hI
    refine ⟨items_rng (by have := h.len; simp; k_data), ?_⟩
    k_typeOf
    row_witness_with e1
    k_typeOf
    exact q c _ (Keep.new hc) hc (upd_self ..)
  · obtain ⟨i, hi, rfl⟩ := List.mem_map.mp hx
    exact ⟨i, by simpa using hi, rfl⟩

noncomputable abbrev inP (t : NtP) (N : Nt) : List (Str × Addr × Int) := [(N.i1, t.b1, N.v1), (N.i2, t.b2, N.v2), (N.i3, t.b3, N.v3)]
noncomputable abbrev outP (t : NtP) (N : Nt) : List (Str × Addr × Int) := [(N.o1, t.c1, N.y1), (N.o2, t.c2, N.y2)]
structure Nt.Short (N : Nt) : Prop where
  i1 : N.i1.length ≤ 100
  i2 : N.i2.length ≤ 100
  i3 : N.i3.length ≤ 100
  o1 : N.o1.length ≤ 100
  o2 : N.o2.length ≤ 100

theorem inNamesC (h : NetAt σ t N) (s : N.Short) (q : ∀ c σ', Keep [] σ σ' → σ c = none → σ' c = some (.list [.str (bn N.i1), .str (bn N.i2), .str (bn N.i3)]) → Q (.ref c) σ') : CallS prog w (lib w.params) (n + 1) 154 [.ref t.p.ia] σ Q := by
  refine bitNamesC (ports := inP t N) h.r.i (fun p hp => ?_) (fun p hp => ?_) (by simp) q
  · simp only [inP, List.mem_cons, List.not_mem_nil, or_false] at hp
    rcases hp with rfl | rfl | rfl
    · exact h.b1
    · exact h.b2
    · exact h.b3
  · simp only [inP, List.mem_cons, List.not_mem_nil, or_false] at hp
    rcases hp with rfl | rfl | rfl
    · exact s.i1
    · exact s.i2
    · exact s.i3
theorem outNamesC (h : NetAt σ t N) (s : N.Short) (q : ∀ c σ', Keep [] σ σ' → σ c = none → σ' c = some (.list [.str (bn N.o1), .str (bn N.o2)]) → Q (.ref c) σ') : CallS prog w (lib w.params) (n + 1) 154 [.ref t.p.oa] σ Q := by
  refine bitNamesC (ports := outP t N) h.r.o (fun p hp => ?_) (fun p hp => ?_) (by simp) q
  · simp only [outP, List.mem_cons, List.not_mem_nil, or_false] at hp
    rcases hp with rfl | rfl
    · exact h.c1
    · exact h.c2
  · simp only [outP, List.mem_cons, List.not_mem_nil, or_false] at hp
    rcases hp with rfl | rfl
    · exact s.o1
    · exact s.o2

theorem sourceNamesC (h : NetAt σ t N) (s : N.Short) (q : ∀ c σ', Keep [] σ σ' → σ c = none → σ' c = some (.list [.str (bn N.i1), .str (bn N.i2), .str (bn N.i3)]) → Q (.ref c) σ') : CallS prog w (lib w.params) (n + 2) 161 [.ref t.p.a] σ Q := by
  refine fnCall0 (kSourceNames w.params) rfl ?_
  k_typeOf
  o_head h.r.ns
  k_typeOf
  refine inNamesC h s fun c τ k f g => ?_
  have h1 := h.keep0 k
  k_typeOf
  o_head h1.r.ns
  k_types
  refine .inr ⟨_, h1.iC, ?_⟩
  refine forL_inv (fun rest l τ' => A3 (l "names" = some (.ref c)) (τ' = τ) (∀ x ∈ rest, ∃ c0, x = cellAV c0)) (fun v vs l τ' F hI hF => ?_) (fun l τ' hI => ?_) _ _ _ ⟨rfl, rfl, fun x hx => ?_⟩
  · obtain ⟨e1, rfl, e3⟩ := hI
    obtain ⟨c0, rfl⟩ := e3 v (List.mem_cons_self ..)
    refine ⟨h1.iC, _, rfl, ?_⟩
    k_typeOf
    refine isStateC ?_
    k_typeOf
    exact hF _ _ ⟨(if_neg (by decide)).trans e1, rfl, fun x hx => e3 x (List.mem_cons_of_mem _ hx)⟩
  · obtain ⟨e1, rfl, _⟩ := hI
    refine ⟨h1.iC, ?_⟩
    k_typeOf
    o_head e1
    k_typeOf
    exact q c _ k f g
  · obtain ⟨c0, _, rfl⟩ := List.mem_map.mp hx
    exact ⟨c0, rfl⟩

theorem sinkNamesC (h : NetAt σ t N) (s : N.Short) (q : ∀ c σ', Keep [] σ σ' → σ c = none → σ' c = some (.list [.str (bn N.o1), .str (bn N.o2)]) → Q (.ref c) σ') : CallS prog w (lib w.params) (n + 2) 168 [.ref t.p.a] σ Q := by
  refine fnCall0 (kSinkNames w.params) rfl ?_
  k_typeOf
  o_head h.r.ns
  k_typeOf
  refine outNamesC h s fun c τ k f g => ?_
  have h1 := h.keep0 k
  k_typeOf
  o_head h1.r.ns
  k_types
  refine .inr ⟨_, h1.iC, ?_⟩
  refine forL_inv (fun rest l τ' => A3 (l "names" = some (.ref c)) (τ' = τ) (∀ x ∈ rest, ∃ c0, x = cellAV c0)) (fun v vs l τ' F hI hF => ?_) (fun l τ' hI => ?_) _ _ _ ⟨rfl, rfl, fun x hx => ?_⟩
  · obtain ⟨e1, rfl, e3⟩ := hI
    obtain ⟨c0, rfl⟩ := e3 v (List.mem_cons_self ..)
    refine ⟨h1.iC, _, rfl, ?_⟩
    k_typeOf
    refine isStateC ?_
    k_typeOf
    exact hF _ _ ⟨(if_neg (by decide)).trans e1, rfl, fun x hx => e3 x (List.mem_cons_of_mem _ hx)⟩
  · obtain ⟨e1, rfl, _⟩ := hI
    refine ⟨h1.iC, ?_⟩
    k_typeOf
    o_head e1
    k_typeOf
    exact q c _ k f g
  · obtain ⟨c0, _, rfl⟩ := List.mem_map.mp hx
    exact ⟨c0, rfl⟩

theorem stateFormsC (h : NetAt σ t N) (q : ∀ c σ', Keep [] σ σ' → σ c = none → σ' c = some .dict0 → Q (.ref c) σ') : CallS prog w (lib w.params) (n + 3) 349 [.ref t.p.a] σ Q := by
  refine fnCall0 (kStateForms w.params) rfl ?_
  k_typeOf
  (first | refine fun d hd => ?_ | (k_types; intro d hd))
  have h0 := h.keep0 (Keep.new (o := .dict0) hd)
  k_typeOf
  refine stateCellsC h0 fun c τ k f g => ?_
  k_types
  refine .inr ⟨_, items_list g, ?_⟩
  k_typeOf
  (first | refine And.intro (items_list g) ?_ | (k_types; refine ⟨items_list g, ?_⟩))
  k_typeOf
  refine q d τ ((Keep.new hd).trans k) hd (k.get (upd_self ..) (by simp))
end


section
variable {prog : Program} {w : World} {n : Nat} {σ : AH} {Q : AV → AH → Prop} {t : NtP} {N : Nt}

theorem isDict0_of {σ : AH} {a : Addr} (h : σ a = some .dict0) : isDict0 (.ref a) σ = true := by unfold isDict0; dsimp only; rw [h]
theorem strsOf_map (s : List Str) : strsOf (s.map .str) = some s := by
  induction s with
  | nil => rfl
  | cons x r ih => show (strsOf (r.map .str)).map (x :: ·) = _; rw [ih]; rfl
theorem member_str {s : List Str} {x : Str} (h : x ∈ s) : member (.str x) (.list (s.map .str)) = some true := by
  show (strsOf (s.map .str)).map (·.contains x) = _
  rw [strsOf_map]; simp [h]

theorem memS {x : Str} {es : List (Str × AV)} (h : hasK es x = true) : member (.str x) (.dictS es) = some true := congrArg some h
noncomputable def plD : List (Str × AV) := putK (putK [] (bn "z") (.int 0)) (bn "y") (.int 1)
theorem plHy : hasK (putK (putK [] (bn "z") (.int 0)) (bn "y") (.int 1)) (bn "y") = true := by decide +kernel
theorem plHz : hasK (putK (putK [] (bn "z") (.int 0)) (bn "y") (.int 1)) (bn "z") = true := by decide +kernel
theorem plLy : lookK (putK (putK [] (bn "z") (.int 0)) (bn "y") (.int 1)) (bn "y") = some (.int 1) := by kernel_rfl
theorem plLz : lookK (putK (putK [] (bn "z") (.int 0)) (bn "y") (.int 1)) (bn "z") = some (.int 0) := by kernel_rfl
theorem loneC {r1 r2 : Addr} {s1 s2 : List Str} (h1 : σ r1 = some (.list (s1.map .str))) (h2 : σ r2 = some (.list (s2.map .str))) (a : ∀ x ∈ s1, x ∈ s2) (b : ∀ x ∈ s2, x ∈ s1)
    (q : ∀ c σ', Keep [] σ σ' → σ c = none → σ' c = some (.list []) → Q (.ref c) σ') : CallS prog w (lib w.params) (n + 1) 356 [.ref r1, .ref r2] σ Q := by
  refine fnCall0 (kLoneNames w.params) rfl ?_
  k_typeOf
  (first | refine fun c hc => ?_ | (k_types; intro c hc))
  have k0 : Keep [] σ (upd σ c (.list [])) := Keep.new hc
  have g1 := k0.get h1 (by simp)
  have g2 := k0.get h2 (by simp)
  k_types
  refine .inr ⟨_, items_list g1, ?_⟩
  refine forL_inv (fun rest l τ => A5 (l "lone" = some (.ref c)) (l "first" = some (.ref r1)) (l "second" = some (.ref r2)) (τ = _) (∀ x ∈ rest, ∃ y ∈ s1, x = .str y)) (fun v vs l τ F hI hF => ?_) (fun l τ hI => ?_) _ _ _ ⟨rfl, rfl, rfl, rfl, fun x hx => ?_⟩
  · obtain ⟨e1, e2, e3, rfl, e4⟩ := hI
    obtain ⟨y, hy, rfl⟩ := e4 v (List.mem_cons_self ..)
    refine ⟨items_list g1, _, rfl, ?_⟩
    k_types
    simp only [updL_app, String.reduceEq, if_false, e3]
    k_typeOf
    o_head g2
    k_types
    rw [member_str (a y hy)]
    k_typeOf
    exact hF _ _ ⟨by simp only [updL_app, String.reduceEq, if_false, e1], by simp only [updL_app, String.reduceEq, if_false, e2], by simp only [updL_app, String.reduceEq, if_false, e3], rfl, fun x hx => e4 x (List.mem_cons_of_mem _ hx)⟩
  · obtain ⟨e1, e2, e3, rfl, -⟩ := hI
    refine ⟨items_list g1, ?_⟩
    k_typeOf
    o_head e3
    k_types
    refine .inr ⟨_, items_list g2, ?_⟩
    refine forL_inv (fun rest l τ => A4 (l "lone" = some (.ref c)) (l "first" = some (.ref r1)) (τ = _) (∀ x ∈ rest, ∃ y ∈ s2, x = .str y)) (fun v vs l τ F hI hF => ?_) (fun l τ hI => ?_) _ _ _ ⟨e1, e2, rfl, fun x hx => ?_⟩
    · obtain ⟨e1, e2, rfl, e4⟩ := hI
      obtain ⟨y, hy, rfl⟩ := e4 v (List.mem_cons_self ..)
      refine ⟨items_list g2, _, rfl, ?_⟩
      k_types
      simp only [updL_app, String.reduceEq, if_false, e2]
      k_typeOf
      o_head g1
      k_types
      rw [member_str (b y hy)]
      k_typeOf
      exact hF _ _ ⟨by simp only [updL_app, String.reduceEq, if_false, e1], by simp only [updL_app, String.reduceEq, if_false, e2], rfl, fun x hx => e4 x (List.mem_cons_of_mem _ hx)⟩
    · obtain ⟨e1, e2, rfl, -⟩ := hI
      refine ⟨items_list g2, ?_⟩
      k_typeOf
      o_head e1
      k_typeOf
      exact q c _ k0 hc (upd_self ..)
    · obtain ⟨y, hy, rfl⟩ := List.mem_map.mp hx
      exact ⟨y, hy, rfl⟩
  · obtain ⟨y, hy, rfl⟩ := List.mem_map.mp hx
    exact ⟨y, hy, rfl⟩

/-- the two netlists of the law -/
structure Nt.First (N : Nt) : Prop where
  i1 : N.i1 = "a"
  i2 : N.i2 = "b"
  i3 : N.i3 = "c"
  o1 : N.o1 = "y"
  o2 : N.o2 = "z"
structure Nt.Second (N : Nt) : Prop where
  i1 : N.i1 = "c"
  i2 : N.i2 = "a"
  i3 : N.i3 = "b"
  o1 : N.o1 = "z"
  o2 : N.o2 = "y"
theorem Nt.First.short {N : Nt} (h : N.First) : N.Short := ⟨by rw [h.i1]; decide +kernel, by rw [h.i2]; decide +kernel, by rw [h.i3]; decide +kernel, by rw [h.o1]; decide +kernel, by rw [h.o2]; decide +kernel⟩
theorem Nt.Second.short {N : Nt} (h : N.Second) : N.Short := ⟨by rw [h.i1]; decide +kernel, by rw [h.i2]; decide +kernel, by rw [h.i3]; decide +kernel, by rw [h.o1]; decide +kernel, by rw [h.o2]; decide +kernel⟩


/-! two turns -/
theorem forL_two {body : Loc → AH → Kont → Prop} {bind : AV → Loc → Option Loc} {src : AV} {all : List AV} {K : Kont} {v0 v1 : AV} (I0 I1 I2 : Loc → AH → Prop)
    (s0 : ∀ l σ (F : Loc → AH → Prop), I0 l σ → (∀ l σ, I1 l σ → F l σ) → items src σ = some all ∧ ∃ l', bind v0 l = some l' ∧ body l' σ ⟨F, K.ret, F⟩)
    (s1 : ∀ l σ (F : Loc → AH → Prop), I1 l σ → (∀ l σ, I2 l σ → F l σ) → items src σ = some all ∧ ∃ l', bind v1 l = some l' ∧ body l' σ ⟨F, K.ret, F⟩)
    (done : ∀ l σ, I2 l σ → items src σ = some all ∧ K.next l σ) {l σ} (h : I0 l σ) : forL body bind src all [v0, v1] l σ K := by
  have z : ∀ l σ, I1 l σ → forL body bind src all [v1] l σ K := fun l σ q => by
    obtain ⟨a, l', e, b⟩ := s1 l σ (fun l σ => forL body bind src all [] l σ K) q fun l σ q => done l σ q
    refine ⟨a, ?_⟩
    rw [e]; exact b
  obtain ⟨a, l', e, b⟩ := s0 l σ (fun l σ => forL body bind src all [v1] l σ K) h z
  refine ⟨a, ?_⟩
  rw [e]; exact b
structure matI (d r c : Addr) (t : NtP) (σ : AH) (o : AO) (l : Loc) (τ : AH) : Prop where
  e1 : l "places" = some (.ref d)
  e2 : l "names2" = some (.ref r)
  e3 : l "lone" = some (.ref c)
  e4 : l "n1" = some (.ref t.p.a)
  k : Keep [d] σ τ
  d : τ d = some o
theorem matI.next {d r c : Addr} {t : NtP} {σ : AH} {o : AO} {l l' : Loc} {τ : AH} (h : matI d r c t σ o l τ) (a : l' "places" = l "places") (b : l' "names2" = l "names2") (e : l' "lone" = l "lone") (f : l' "n1" = l "n1") (o' : AO) : matI d r c t σ o' l' (upd τ d o') :=
  ⟨a.trans h.e1, b.trans h.e2, e.trans h.e3, f.trans h.e4, h.k.trans (Keep.put (by simp)), upd_self ..⟩

structure matJ (d r c p : Addr) (σ : AH) (xs : List AV) (l : Loc) (τ : AH) : Prop where
  e1 : l "places" = some (.ref d)
  e2 : l "names1" = some (.ref r)
  e3 : l "lone" = some (.ref c)
  e4 : l "pairs" = some (.ref p)
  k : Keep [p] σ τ
  d : τ p = some (.list xs)
theorem matJ.next {d r c p : Addr} {σ : AH} {xs : List AV} {l l' : Loc} {τ : AH} (h : matJ d r c p σ xs l τ) (a : l' "places" = l "places") (b : l' "names1" = l "names1") (e : l' "lone" = l "lone") (f : l' "pairs" = l "pairs") (ys : List AV) : matJ d r c p σ ys l' (upd τ p (.list ys)) :=
  ⟨a.trans h.e1, b.trans h.e2, e.trans h.e3, f.trans h.e4, h.k.trans (Keep.put (by simp)), upd_self ..⟩


theorem blk_cut {S : StE} : ∀ (k : Nat) (as : List Stmt) (K : Kont), (fun l σ => blk S as l σ K) = fun l σ => blk S (as.take k) l σ ⟨fun l σ => blk S (as.drop k) l σ K, K.ret, K.cont⟩
  | 0, _, _ => funext fun _ => funext fun _ => propext ⟨fun h => .nil h, fun h => h.run⟩
  | _ + 1, [], _ => funext fun _ => funext fun _ => propext ⟨fun h => .nil h, fun h => h.run⟩
  | k + 1, st :: rest, K => funext fun l => funext fun σ => propext ⟨fun h => blk.cons (by have h := h.uncons; rw [blk_cut k rest K] at h; exact h), fun h => blk.cons (by have h := blk.uncons (rest := rest.take k) h; unfold kn; rw [blk_cut k rest K]; exact h)⟩
theorem blk_at {S : StE} (k : Nat) {as : List Stmt} {K : Kont} {l : Loc} {σ : AH} (h : blk S (as.take k) l σ ⟨fun l σ => blk S (as.drop k) l σ K, K.ret, K.cont⟩) : blk S as l σ K := by
  have := congrFun (congrFun (blk_cut (S := S) k as K) l) σ
  exact this ▸ h

theorem mat1 {t2 : NtP} {N2 : Nt} {K : Kont} (h1 : NetAt σ t N) (h2 : NetAt σ t2 N2) (f1 : N.First) (f2 : N2.Second)
    (q : ∀ l c τ, l "lone" = some (.ref c) → l "n1" = some (.ref t.p.a) → l "n2" = some (.ref t2.p.a) → Keep [] σ τ → σ c = none → τ c = some (.list []) → K.next l τ) :
    blk (sk20 prog w (n + 3) dMatched.scope.names) (dMatched.body.take 6) (argLoc ["n1", "n2"] [.ref t.p.a, .ref t2.p.a]) σ K := by
  k_typeOf
  o_head h1.r.ns
  k_typeOf
  refine inNamesC h1 f1.short fun a1 τ1 k1 z1 g1 => ?_
  have h1 := h1.keep0 k1
  have h2 := h2.keep0 k1
  k_typeOf
  o_head h2.r.ns
  k_typeOf
  refine inNamesC h2 f2.short fun a2 τ2 k2 z2 g2 => ?_
  have h1 := h1.keep0 k2
  have h2 := h2.keep0 k2
  have g1 := k2.get g1 (by simp)
  rw [f1.i1, f1.i2, f1.i3] at g1
  rw [f2.i1, f2.i2, f2.i3] at g2
  k_typeOf
  refine loneC (s1 := [bn "a", bn "b", bn "c"]) (s2 := [bn "c", bn "a", bn "b"]) g1 g2 (by simp) (by simp) fun a3 τ3 k3 z3 g3 => ?_
  have h1 := h1.keep0 k3
  have h2 := h2.keep0 k3
  k_typeOf
  o_head h1.r.ns
  k_typeOf
  refine outNamesC h1 f1.short fun a4 τ4 k4 z4 g4 => ?_
  have h1 := h1.keep0 k4
  have h2 := h2.keep0 k4
  have g3 := k4.get g3 (by simp)
  k_typeOf
  o_head h2.r.ns
  k_typeOf
  refine outNamesC h2 f2.short fun a5 τ5 k5 z5 g5 => ?_
  have h1 := h1.keep0 k5
  have h2 := h2.keep0 k5
  have g4 := k5.get g4 (by simp)
  have g3 := k5.get g3 (by simp)
  rw [f1.o1, f1.o2] at g4
  rw [f2.o1, f2.o2] at g5
  k_typeOf
  refine loneC (s1 := [bn "y", bn "z"]) (s2 := [bn "z", bn "y"]) g4 g5 (by simp) (by simp) fun a6 τ6 k6 z6 g6 => ?_
  have h1 := h1.keep0 k6
  have h2 := h2.keep0 k6
  have g3 := k6.get g3 (by simp)
  k_typeOf
  o_head g3
  k_typeOf
  o_head g6
  k_typeOf
  (first | refine fun a7 z7 => ?_ | (k_types; intro a7 z7))
  have k7 : Keep [] τ6 (upd τ6 a7 (.list [])) := Keep.new z7
  have h1 := h1.keep0 k7
  have h2 := h2.keep0 k7
  have g7 : upd τ6 a7 (.list []) a7 = some (.list []) := upd_self ..
  k_typeOf
  refine stateFormsC h1 fun d1 τ8 k8 z8 g8 => ?_
  have h1 := h1.keep0 k8
  have h2 := h2.keep0 k8
  have g7 := k8.get g7 (by simp)
  k_typeOf
  refine stateFormsC h2 fun d2 τ9 k9 z9 g9 => ?_
  have h1 := h1.keep0 k9
  have h2 := h2.keep0 k9
  have g7 := k9.get g7 (by simp)
  have g8 := k9.get g8 (by simp)
  k_typeOf
  o_head g8
  k_typeOf
  (first | refine fun a10 z10 => ?_ | (k_types; intro a10 z10))
  have k10 : Keep [] τ9 (upd τ9 a10 (.list [])) := Keep.new z10
  have h1 := h1.keep0 k10
  have h2 := h2.keep0 k10
  have g7 := k10.get g7 (by simp)
  have g8 := k10.get g8 (by simp)
  have g9 := k10.get g9 (by simp)
  have g10 : upd τ9 a10 (.list []) a10 = some (.list []) := upd_self ..
  k_typeOf
  o_head g9
  k_typeOf
  (first | refine fun a11 z11 => ?_ | (k_types; intro a11 z11))
  have k11 : Keep [] (upd τ9 a10 (.list [])) (upd (upd τ9 a10 (.list [])) a11 (.list [])) := Keep.new z11
  have h1 := h1.keep0 k11
  have h2 := h2.keep0 k11
  have g7 := k11.get g7 (by simp)
  have g8 := k11.get g8 (by simp)
  have g10 := k11.get g10 (by simp)
  have g11 : upd (upd τ9 a10 (.list [])) a11 (.list []) a11 = some (.list []) := upd_self ..
  k_typeOf
  refine loneC (s1 := []) (s2 := []) g10 g11 (by simp) (by simp) fun a12 τ12 k12 z12 g12 => ?_
  have h1 := h1.keep0 k12
  have h2 := h2.keep0 k12
  have g7 := k12.get g7 (by simp)
  have g8 := k12.get g8 (by simp)
  k_typeOf
  o_head g7
  k_typeOf
  o_head g12
  k_typeOf
  (first | refine fun a13 z13 => ?_ | (k_types; intro a13 z13))
  have k13 : Keep [] τ12 (upd τ12 a13 (.list [])) := Keep.new z13
  have h1 := h1.keep0 k13
  have h2 := h2.keep0 k13
  have h1b := h1
  have h2b := h2
  have g8 := k13.get g8 (by simp)
  have g13 : upd τ12 a13 (.list []) a13 = some (.list []) := upd_self ..
  k_types
  refine .inl ⟨isDict0_of g8, ?_⟩
  k_typeOf
  refine q _ a13 _ rfl rfl rfl ((((((((((((k1.trans k2).trans k3).trans k4).trans k5).trans k6).trans k7).trans k8).trans k9).trans k10).trans k11).trans k12).trans k13) ?_ g13
  exact (((((((((((k1.trans k2).trans k3).trans k4).trans k5).trans k6).trans k7).trans k8).trans k9).trans k10).trans k11).trans k12).fresh z13

theorem mat2 {t2 : NtP} {N2 : Nt} {K : Kont} {l : Loc} {a13 : Addr} (h1 : NetAt σ t N) (h2 : NetAt σ t2 N2) (f2 : N2.Second) (e1 : l "lone" = some (.ref a13)) (e2 : l "n1" = some (.ref t.p.a)) (e3 : l "n2" = some (.ref t2.p.a)) (g13 : σ a13 = some (.list []))
    (q : ∀ l d τ, l "lone" = some (.ref a13) → l "n1" = some (.ref t.p.a) → l "places" = some (.ref d) → Keep [] σ τ → τ d = some (.dictS plD) → K.next l τ) :
    blk (sk20 prog w (n + 3) dMatched.scope.names) ((dMatched.body.drop 6).take 3) l σ K := by
  k_typeOf
  (first | refine fun a14 z14 => ?_ | (k_types; intro a14 z14))
  have k14 : Keep [] σ (upd σ a14 .dict0) := Keep.new z14
  have h2 := h2.keep0 k14
  have g14 : upd σ a14 .dict0 a14 = some .dict0 := upd_self ..
  k_typeOf
  row_witness_with e3
  k_typeOf
  refine sinkNamesC h2 f2.short fun a15 τ15 k15 z15 g15 => ?_
  have g14 := k15.get g14 (by simp)
  rw [f2.o1, f2.o2] at g15
  k_typeOf
  o_head g15
  k_types
  refine .inr ⟨_, items_rng (k := 2) (by decide), ?_⟩
  have kA : Keep [] σ τ15 := k14.trans k15
  refine forL_two (v0 := .int 0) (v1 := .int 1) (matI a14 a15 a13 t τ15 .dict0) (matI a14 a15 a13 t τ15 (.dictS (putK [] (bn "z") (.int 0)))) (matI a14 a15 a13 t τ15 (.dictS plD)) (fun l τ F hI hF => ?_) (fun l τ F hI hF => ?_) (fun l τ hI => ?_) ⟨rfl, rfl, by (first | exact e1 | (k_units; exact e1)), by (first | exact e2 | (k_units; exact e2)), Keep.refl, g14⟩
  · have g := hI.k.get g15 (by have := ne_of_ao g15 g14 (by simp); simpa using this)
    refine ⟨items_rng (k := 2) (by decide), _, rfl, ?_⟩
    k_types
    simp only [updL_app, String.reduceEq, if_false, hI.e1, hI.e2, hI.e3, hI.e4]
    k_types
    simp only [updL_app, String.reduceEq, if_false, hI.e1, hI.e2, hI.e3, hI.e4]
    k_typeOf
    o_head g
    k_typeOf
    o_head hI.d
    k_typeOf
    exact hF _ _ (hI.next (by simp only [updL_app, String.reduceEq, if_false]) (by simp only [updL_app, String.reduceEq, if_false]) (by simp only [updL_app, String.reduceEq, if_false]) (by simp only [updL_app, String.reduceEq, if_false]) _)
  · have g := hI.k.get g15 (by have := ne_of_ao g15 g14 (by simp); simpa using this)
    refine ⟨items_rng (k := 2) (by decide), _, rfl, ?_⟩
    k_types
    simp only [updL_app, String.reduceEq, if_false, hI.e1, hI.e2, hI.e3, hI.e4]
    k_types
    simp only [updL_app, String.reduceEq, if_false, hI.e1, hI.e2, hI.e3, hI.e4]
    k_typeOf
    o_head g
    k_typeOf
    o_head hI.d
    k_typeOf
    exact hF _ _ (hI.next (by simp only [updL_app, String.reduceEq, if_false]) (by simp only [updL_app, String.reduceEq, if_false]) (by simp only [updL_app, String.reduceEq, if_false]) (by simp only [updL_app, String.reduceEq, if_false]) _)

  · refine ⟨items_rng (k := 2) (by decide), ?_⟩
    k_typeOf
    exact q _ a14 τ hI.e3 hI.e4 hI.e1 (((kA.weaken (S' := [a14]) (by simp)).trans hI.k).drop z14) hI.d

theorem mat3 {K : Kont} {l : Loc} {a13 a14 : Addr} (h1 : NetAt σ t N) (f1 : N.First) (e1 : l "lone" = some (.ref a13)) (e2 : l "n1" = some (.ref t.p.a)) (e3 : l "places" = some (.ref a14)) (g13 : σ a13 = some (.list [])) (gd : σ a14 = some (.dictS plD))
    (q : ∀ c d τ, Keep [] σ τ → σ c = none → τ c = some (.list [.tup [.str (bn "y"), .int 0, .int 1], .tup [.str (bn "z"), .int 1, .int 0]]) → K.ret (.tup [.ref c, .ref d]) τ) :
    blk (sk20 prog w (n + 3) dMatched.scope.names) (dMatched.body.drop 9) l σ K := by
  k_typeOf
  (first | refine fun a17 z17 => ?_ | (k_types; intro a17 z17))
  have n1 : a13 ≠ a17 := by first | exact nes g13 z17 | exact nes' g13 z17 | (rintro rfl; rw [g13] at z17; cases z17)
  have k17 := Keep.new (S := []) (o := .list []) z17
  have h1 := h1.keep0 k17
  have g13 := k17.get g13 (by simp)
  have gd := k17.get gd (by simp)
  have g17 := upd_self σ a17 (.list [])
  k_typeOf
  row_witness_with e2
  k_typeOf
  refine sinkNamesC h1 f1.short fun a18 τ18 k18 z18 g18 => ?_
  have g13 := k18.get g13 (by simp)
  have gd := k18.get gd (by simp)
  have g17 := k18.get g17 (by simp)
  rw [f1.o1, f1.o2] at g18
  k_typeOf
  o_head g18
  k_types
  obtain ⟨D, eD⟩ : ∃ D, D = plD := ⟨_, rfl⟩
  have dHy : hasK D (bn "y") = true := eD ▸ plHy
  have dHz : hasK D (bn "z") = true := eD ▸ plHz
  have dLy : lookK D (bn "y") = some (.int 1) := eD ▸ plLy
  have dLz : lookK D (bn "z") = some (.int 0) := eD ▸ plLz
  rw [← eD] at gd
  clear eD
  refine .inr ⟨_, items_rng (k := 2) (by decide), ?_⟩
  refine forL_two (v0 := .int 0) (v1 := .int 1) (matJ a14 a18 a13 a17 τ18 []) (matJ a14 a18 a13 a17 τ18 ([] ++ [.tup [.str (bn "y"), .int 0, .int 1]])) (matJ a14 a18 a13 a17 τ18 ([.tup [.str (bn "y"), .int 0, .int 1]] ++ [.tup [.str (bn "z"), .int 1, .int 0]])) (fun l τ F hJ hF => ?_) (fun l τ F hJ hF => ?_) (fun l τ hJ => ?_) ⟨by (first | exact e3 | (k_units; exact e3)), rfl, by (first | exact e1 | (k_units; exact e1)), rfl, Keep.refl, g17⟩
  · have g := hJ.k.get g18 (by have := ne_of_ao g18 g17 (by simp); simpa using this)
    have gd := hJ.k.get gd (by have := ne_of_ao gd g17 (by simp); simpa using this)
    refine ⟨items_rng (k := 2) (by decide), _, rfl, ?_⟩
    k_typeOf
    (first | refine lk hJ.e1 ?_ | refine lk hJ.e2 ?_ | refine lk hJ.e3 ?_ | refine lk hJ.e4 ?_ | (k_types; (first | refine lk hJ.e1 ?_ | refine lk hJ.e2 ?_ | refine lk hJ.e3 ?_ | refine lk hJ.e4 ?_ | simp (config := { iota := false }) only [updL_app, String.reduceEq, if_false, if_true, hJ.e1, hJ.e2, hJ.e3, hJ.e4])))
    k_typeOf
    o_head g
    k_typeOf
    (first | refine lk hJ.e1 ?_ | refine lk hJ.e2 ?_ | refine lk hJ.e3 ?_ | refine lk hJ.e4 ?_ | (k_types; (first | refine lk hJ.e1 ?_ | refine lk hJ.e2 ?_ | refine lk hJ.e3 ?_ | refine lk hJ.e4 ?_ | simp (config := { iota := false }) only [updL_app, String.reduceEq, if_false, if_true, hJ.e1, hJ.e2, hJ.e3, hJ.e4])))
    k_types
    rw [gd]
    dsimp only
    rw [memS dHy]
    k_typeOf
    (first | refine lk hJ.e1 ?_ | refine lk hJ.e2 ?_ | refine lk hJ.e3 ?_ | refine lk hJ.e4 ?_ | (k_types; (first | refine lk hJ.e1 ?_ | refine lk hJ.e2 ?_ | refine lk hJ.e3 ?_ | refine lk hJ.e4 ?_ | simp (config := { iota := false }) only [updL_app, String.reduceEq, if_false, if_true, hJ.e1, hJ.e2, hJ.e3, hJ.e4])))
    k_typeOf
    o_head (nsAt_list hJ.d)
    k_types
    refine ⟨by rw [hJ.d]; rfl, ?_⟩
    k_typeOf
    (first | refine lk hJ.e1 ?_ | refine lk hJ.e2 ?_ | refine lk hJ.e3 ?_ | refine lk hJ.e4 ?_ | (k_types; (first | refine lk hJ.e1 ?_ | refine lk hJ.e2 ?_ | refine lk hJ.e3 ?_ | refine lk hJ.e4 ?_ | simp (config := { iota := false }) only [updL_app, String.reduceEq, if_false, if_true, hJ.e1, hJ.e2, hJ.e3, hJ.e4])))
    k_typeOf
    o_head g
    k_typeOf
    (first | refine lk hJ.e1 ?_ | refine lk hJ.e2 ?_ | refine lk hJ.e3 ?_ | refine lk hJ.e4 ?_ | (k_types; (first | refine lk hJ.e1 ?_ | refine lk hJ.e2 ?_ | refine lk hJ.e3 ?_ | refine lk hJ.e4 ?_ | simp (config := { iota := false }) only [updL_app, String.reduceEq, if_false, if_true, hJ.e1, hJ.e2, hJ.e3, hJ.e4])))
    k_typeOf
    (first | refine lk hJ.e1 ?_ | refine lk hJ.e2 ?_ | refine lk hJ.e3 ?_ | refine lk hJ.e4 ?_ | (k_types; (first | refine lk hJ.e1 ?_ | refine lk hJ.e2 ?_ | refine lk hJ.e3 ?_ | refine lk hJ.e4 ?_ | simp (config := { iota := false }) only [updL_app, String.reduceEq, if_false, if_true, hJ.e1, hJ.e2, hJ.e3, hJ.e4])))
    k_typeOf
    o_head g
    k_typeOf
    o_head gd
    k_typeOf
    o_head dLy
    k_typeOf
    o_head hJ.d
    k_typeOf
    exact hF _ _ (hJ.next (by first | rfl | k_units) (by first | rfl | k_units) (by first | rfl | k_units) (by first | rfl | k_units) _)
  · have g := hJ.k.get g18 (by have := ne_of_ao g18 g17 (by simp); simpa using this)
    have gd := hJ.k.get gd (by have := ne_of_ao gd g17 (by simp); simpa using this)
    refine ⟨items_rng (k := 2) (by decide), _, rfl, ?_⟩
    k_typeOf
    (first | refine lk hJ.e1 ?_ | refine lk hJ.e2 ?_ | refine lk hJ.e3 ?_ | refine lk hJ.e4 ?_ | (k_types; (first | refine lk hJ.e1 ?_ | refine lk hJ.e2 ?_ | refine lk hJ.e3 ?_ | refine lk hJ.e4 ?_ | simp (config := { iota := false }) only [updL_app, String.reduceEq, if_false, if_true, hJ.e1, hJ.e2, hJ.e3, hJ.e4])))
    k_typeOf
    o_head g
    k_typeOf
    (first | refine lk hJ.e1 ?_ | refine lk hJ.e2 ?_ | refine lk hJ.e3 ?_ | refine lk hJ.e4 ?_ | (k_types; (first | refine lk hJ.e1 ?_ | refine lk hJ.e2 ?_ | refine lk hJ.e3 ?_ | refine lk hJ.e4 ?_ | simp (config := { iota := false }) only [updL_app, String.reduceEq, if_false, if_true, hJ.e1, hJ.e2, hJ.e3, hJ.e4])))
    k_types
    rw [gd]
    dsimp only
    rw [memS dHz]
    k_typeOf
    (first | refine lk hJ.e1 ?_ | refine lk hJ.e2 ?_ | refine lk hJ.e3 ?_ | refine lk hJ.e4 ?_ | (k_types; (first | refine lk hJ.e1 ?_ | refine lk hJ.e2 ?_ | refine lk hJ.e3 ?_ | refine lk hJ.e4 ?_ | simp (config := { iota := false }) only [updL_app, String.reduceEq, if_false, if_true, hJ.e1, hJ.e2, hJ.e3, hJ.e4])))
    k_typeOf
    o_head (nsAt_list hJ.d)
    k_types
    refine ⟨by rw [hJ.d]; rfl, ?_⟩
    k_typeOf
    (first | refine lk hJ.e1 ?_ | refine lk hJ.e2 ?_ | refine lk hJ.e3 ?_ | refine lk hJ.e4 ?_ | (k_types; (first | refine lk hJ.e1 ?_ | refine lk hJ.e2 ?_ | refine lk hJ.e3 ?_ | refine lk hJ.e4 ?_ | simp (config := { iota := false }) only [updL_app, String.reduceEq, if_false, if_true, hJ.e1, hJ.e2, hJ.e3, hJ.e4])))
    k_typeOf
    o_head g
    k_typeOf
    (first | refine lk hJ.e1 ?_ | refine lk hJ.e2 ?_ | refine lk hJ.e3 ?_ | refine lk hJ.e4 ?_ | (k_types; (first | refine lk hJ.e1 ?_ | refine lk hJ.e2 ?_ | refine lk hJ.e3 ?_ | refine lk hJ.e4 ?_ | simp (config := { iota := false }) only [updL_app, String.reduceEq, if_false, if_true, hJ.e1, hJ.e2, hJ.e3, hJ.e4])))
    k_typeOf
    (first | refine lk hJ.e1 ?_ | refine lk hJ.e2 ?_ | refine lk hJ.e3 ?_ | refine lk hJ.e4 ?_ | (k_types; (first | refine lk hJ.e1 ?_ | refine lk hJ.e2 ?_ | refine lk hJ.e3 ?_ | refine lk hJ.e4 ?_ | simp (config := { iota := false }) only [updL_app, String.reduceEq, if_false, if_true, hJ.e1, hJ.e2, hJ.e3, hJ.e4])))
    k_typeOf
    o_head g
    k_typeOf
    o_head gd
    k_typeOf
    o_head dLz
    k_typeOf
    o_head hJ.d
    k_typeOf
    exact hF _ _ (hJ.next (by first | rfl | k_units) (by first | rfl | k_units) (by first | rfl | k_units) (by first | rfl | k_units) _)
  · refine ⟨items_rng (k := 2) (by decide), ?_⟩
    have g13 := hJ.k.get g13 (by simpa using n1)
    k_typeOf
    row_witness_with hJ.e4
    k_typeOf
    row_witness_with hJ.e3
    k_typeOf
    o_head g13
    k_types
    intro ns' hp hs c hc
    k_typeOf
    have kk : Keep [a17] σ τ := ((k17.weaken (by simp)).trans (k18.weaken (by simp))).trans hJ.k
    refine q a17 c _ ((kk.drop z17).trans (Keep.new hc)) z17 ?_
    have ne : a17 ≠ c := by first | exact nes hJ.d hc | exact nes' hJ.d hc | (rintro rfl; rw [hJ.d] at hc; cases hc)
    exact (upd_ne ne).trans hJ.d

theorem matchedC {t2 : NtP} {N2 : Nt} (h1 : NetAt σ t N) (h2 : NetAt σ t2 N2) (f1 : N.First) (f2 : N2.Second)
    (q : ∀ c d σ', Keep [] σ σ' → σ c = none → σ' c = some (.list [.tup [.str (bn "y"), .int 0, .int 1], .tup [.str (bn "z"), .int 1, .int 0]]) → Q (.tup [.ref c, .ref d]) σ') :
    CallS prog w (lib w.params) (n + 4) 363 [.ref t.p.a, .ref t2.p.a] σ Q := by
  refine fnCall0 (kMatched w.params) rfl ?_
  refine blk_at 6 (mat1 h1 h2 f1 f2 fun l c τ e1 e2 e3 k z g => ?_)
  refine blk_at 3 (mat2 (h1.keep0 k) (h2.keep0 k) f2 e1 e2 e3 g fun l d τ' e1 e2 e3 k' g' => ?_)
  refine mat3 ((h1.keep0 k).keep0 k') f1 e1 e2 e3 (k'.get g (by simp)) g' fun c d τ'' k'' z'' g'' => ?_
  exact q c d τ'' ((k.trans k').trans k'') ((k.trans k').fresh z'') g''
end



/-! ### netlists as the law builds them -/
structure Nt.Good (N : Nt) : Prop where
  v1 : N.v1 = 2
  v2 : N.v2 = 3
  v3 : N.v3 = 4
  out : ∀ (i : Nat) c, N.cs[i]? = some c → c.2.1 = 5 + (i : Int)
  ar : ∀ (i : Nat) c, N.cs[i]? = some c → c.2.2.length = c.1.ar
  ins : ∀ (i : Nat) c, N.cs[i]? = some c → ∀ x ∈ c.2.2, 2 ≤ x ∧ x < 5 + (i : Int)
  y1 : 2 ≤ N.y1 ∧ N.y1 < 5 + (N.cs.length : Int)
  y2 : 2 ≤ N.y2 ∧ N.y2 < 5 + (N.cs.length : Int)

section
variable {K : Type} [DecidableEq K]
theorem hasK_any (es : List (K × AV)) (k : K) : hasK es k = es.any fun p => decide (p.1 = k) := by
  unfold hasK lookK
  rw [Option.isSome_map]
  induction es with
  | nil => rfl
  | cons p r ih =>
    rw [List.find?_cons, List.any_cons]
    cases decide (p.1 = k) with
    | true => rfl
    | false => exact ih
theorem putK_new {es : List (K × AV)} {k : K} {v : AV} (h : hasK es k = false) : putK es k v = es ++ [(k, v)] := by
  unfold putK; rw [hasK_any] at h; rw [h]; rfl
theorem hasK_false {es : List (K × AV)} {k : K} (h : ∀ p ∈ es, p.1 ≠ k) : hasK es k = false := by
  rw [hasK_any, List.any_eq_false]
  intro p hp; simpa using h p hp
end
/-- the dict of what is taken -/
noncomputable def tki (m : Nat) : List (Int × AV) := (List.range m).map fun (j : Nat) => ((j : Int), .bool true)
theorem tki_has (m : Nat) : hasK (tki m) (m : Int) = false := hasK_false fun p hp => by
  obtain ⟨j, hj, rfl⟩ := List.mem_map.mp hp
  have := List.mem_range.mp hj
  show (j : Int) ≠ m
  k_data
theorem tki_put (m : Nat) : putK (tki m) (m : Int) (.bool true) = tki (m + 1) := by
  rw [putK_new (tki_has m)]
  unfold tki
  rw [List.range_succ, List.map_append]
  rfl
theorem tki_len (m : Nat) : (tki m).length = m := by simp [tki]
/-- the dict of drivers -/
noncomputable def drv (m : Nat) : List (Int × AV) := (List.range m).map fun (j : Nat) => (5 + (j : Int), .int (j : Int))
theorem drv_has (m : Nat) : hasK (drv m) (5 + (m : Int)) = false := hasK_false fun p hp => by
  obtain ⟨j, hj, rfl⟩ := List.mem_map.mp hp
  have := List.mem_range.mp hj
  show 5 + (j : Int) ≠ 5 + m
  k_data
theorem drv_put (m : Nat) : putK (drv m) (5 + (m : Int)) (.int (m : Int)) = drv (m + 1) := by
  rw [putK_new (drv_has m)]
  unfold drv
  rw [List.range_succ, List.map_append]
  rfl
theorem drv_len (m : Nat) : (drv m).length = m := by simp [drv]
/-- a dict of ints, perhaps still empty -/
noncomputable def dO (es : List (Int × AV)) : AO := match es with | [] => .dict0 | _ => .dictI es
theorem dO_asI (es : List (Int × AV)) : asI (dO es) = some es := by cases es <;> rfl
theorem dO_ne (es : List (Int × AV)) (xs : List AV) : dO es ≠ .list xs := by unfold dO; cases es <;> simp
theorem dO_put (es : List (Int × AV)) (k : Int) (v : AV) : AO.dictI (putK es k v) = dO (putK es k v) := by
  unfold dO
  have : putK es k v ≠ [] := by
    unfold putK
    split
    · rename_i h; intro z; rw [List.map_eq_nil_iff] at z; rw [z] at h; simp at h
    · simp
  cases h : putK es k v with
  | nil => exact absurd h this
  | cons _ _ => rfl
theorem dO_ty (es : List (Int × AV)) : bmTy .get (some (dO es)) = true := by cases es <;> rfl
theorem memD {es : List (Int × AV)} {k : Int} : member (.int k) (dO es) = some (hasK es k) := memI (dO_asI es)
/-- a store into such a dict -/
theorem dO_cases (es : List (Int × AV)) : (es = [] ∧ dO es = .dict0) ∨ dO es = .dictI es := by cases es with
  | nil => exact .inl ⟨rfl, rfl⟩
  | cons _ _ => exact .inr rfl

section
variable {prog : Program} {w : World} {n : Nat} {σ : AH} {Q : AV → AH → Prop} {t : NtP} {N : Nt}

theorem NetAt.port {τ : AH} (h : NetAt τ t N) {p} (hp : p ∈ inP t N) : τ p.2.1 = some (.list [.int p.2.2]) := by
  simp only [inP, List.mem_cons, List.not_mem_nil, or_false] at hp
  rcases hp with rfl | rfl | rfl
  · exact h.b1
  · exact h.b2
  · exact h.b3
theorem inP_val (g : N.Good) {k : Nat} {p} (hp : (inP t N)[k]? = some p) : p.2.2 = 2 + (k : Int) := by
  match k, hp with
  | 0, hp => cases hp; exact g.v1
  | 1, hp => cases hp; exact g.v2
  | 2, hp => cases hp; exact g.v3
  | k + 3, hp => cases hp
theorem drop_cons {α : Type} {xs : List α} {k : Nat} {x : α} {r : List α} (h : xs.drop k = x :: r) : xs[k]? = some x ∧ r = xs.drop (k + 1) := by
  have h0 : (xs.drop k)[0]? = some x := by rw [h]; rfl
  rw [List.getElem?_drop] at h0
  refine ⟨by simpa using h0, ?_⟩
  have : (xs.drop k).drop 1 = r := by rw [h]; rfl
  rw [List.drop_drop] at this
  exact this.symm

theorem driversC (h : NetAt σ t N) (g : N.Good) (q : ∀ f σ', Keep [] σ σ' → σ f = none → σ' f = some (dO (drv N.cs.length)) → Q (.ref f) σ') : CallS prog w (lib w.params) (n + 2) 182 [.ref t.p.a] σ Q := by
  refine fnCall0 (kDrivers w.params) rfl ?_
  have hlen := h.len
  k_typeOf
  (first | refine fun c hc => ?_ | (k_types; intro c hc))
  have h0 := h.keep0 (Keep.new (o := .dictI (tki 2)) hc)
  have k0 : Keep [c] σ (upd σ c (.dictI (tki 2))) := Keep.new hc
  have nc : t.p.a ≠ c := by first | exact nes h.r.a hc | exact nes' h.r.a hc | (rintro rfl; rw [h.r.a] at hc; cases hc)
  k_types
  rw [show (putAll [] ((fun (x : List (Int × AV)) => (0, AV.bool true) :: x) ((fun (x : List (Int × AV)) => (1, AV.bool true) :: x) []))) = tki 2 from rfl]
  rw [h0.r.ns]
  k_types
  refine .inr ⟨_, h0.iI, ?_⟩
  refine forL_inv (fun rest l τ => A4 (l "taken" = some (.ref c)) (l "netlist" = some (.ref t.p.a)) (Keep [c] σ τ) (∃ k, A3 (k ≤ 3) (rest = ((inP t N).drop k).map portAV) (τ c = some (.dictI (tki (2 + k)))))) (fun v vs l τ F hI hF => ?_) (fun l τ hI => ?_) _ _ _ ⟨rfl, rfl, k0, 0, by decide, rfl, upd_self ..⟩
  · obtain ⟨e1, e2, k1, k, -, e3, e4⟩ := hI
    have h1 := h.keep0 (k1.drop hc)
    cases hd : (inP t N).drop k with
    | nil => rw [hd] at e3; cases e3
    | cons p r =>
      obtain ⟨hp, rfl⟩ := drop_cons hd
      rw [hd] at e3
      cases e3
      have hv := inP_val g hp
      have hk : k + 1 ≤ 3 := (List.getElem?_eq_some_iff.mp hp).1
      refine ⟨h1.iI, _, rfl, ?_⟩
      have hb := h1.port (List.mem_of_getElem? hp)
      rw [hv] at hb
      k_types
      refine .inr ⟨_, items_list hb, ?_⟩
      k_typeOf
      (first | refine And.intro (items_list hb) ?_ | (k_types; refine ⟨items_list hb, ?_⟩))
      k_typeOf
      row_witness_with e1
      k_typeOf
      o_head e4
      k_types
      rw [show (2 + (k : Int)) = ((2 + k : Nat) : Int) by k_data]
      try (refine Br.ffd (tki_has _) ?_)
      k_typeOf
      row_witness_with e1
      k_typeOf
      o_head e4
      k_types
      refine ⟨by rw [tki_len]; k_data, ?_⟩
      k_types
      rw [tki_put]
      have k2 : Keep [c] σ (upd τ c (.dictI (tki (2 + k + 1)))) := k1.trans (Keep.put (by simp))
      have h2 := h.keep0 (k2.drop hc)
      have hb2 := h2.port (List.mem_of_getElem? hp)
      rw [hv] at hb2
      refine ⟨items_list hb2, ?_⟩
      k_typeOf
      exact hF _ _ ⟨by (first | exact e1 | (k_units; exact e1)), by (first | exact e2 | (k_units; exact e2)), k2, k + 1, hk, rfl, upd_self ..⟩
  · obtain ⟨e1, e2, k1, k, hk, e3, e4⟩ := hI
    have h1 := h.keep0 (k1.drop hc)
    have hk3 : k = 3 := by
      have := congrArg List.length e3
      simp at this
      k_data
    subst hk3
    refine ⟨h1.iI, ?_⟩
    k_typeOf
    (first | refine fun f hf => ?_ | (k_types; intro f hf))
    have k2 : Keep [c] σ (upd τ f .dict0) := k1.trans (Keep.new hf)
    have h2 := h.keep0 (k2.drop hc)
    have ncf : c ≠ f := by first | exact nes e4 hf | exact nes' e4 hf | (rintro rfl; rw [e4] at hf; cases hf)
    have f0 := k1.fresh hf
    k_typeOf
    row_witness_with e2
    k_typeOf
    o_head h2.r.ns
    k_typeOf
    o_head h2.r.c
    refine ⟨by simp; k_data, ?_⟩
    k_types
    have hR : (N.cs.map cellAV).length = N.cs.length := by simp
    rw [hR]
    refine .inr ⟨_, items_rng (by k_data), ?_⟩
    refine forL_inv (fun rest l τ' => A5 (l "taken" = some (.ref c)) (l "netlist" = some (.ref t.p.a)) (l "found" = some (.ref f)) (Keep [c, f] σ τ') (∃ k, A4 (rest = ((List.range N.cs.length).drop k).map (fun (i : Nat) => AV.int (i : Int))) (k ≤ N.cs.length) (τ' c = some (.dictI (tki (5 + k)))) (τ' f = some (dO (drv k))))) (fun v vs l τ' F hI hF => ?_) (fun l τ' hI => ?_) _ _ _ ⟨by (first | exact e1 | (k_units; exact e1)), by (first | exact e2 | (k_units; exact e2)), rfl, k2.weaken (by simp), 0, rfl, by k_data, (upd_ne ncf).trans e4, upd_self ..⟩
    · obtain ⟨e1, e2, e3, k3, k, e5, hk, e6, e7⟩ := hI
      have k3' : Keep [] σ τ' := (k3.weaken (S' := [c, f]) (by simp)).drop hc |>.drop f0
      have h3 := h.keep0 k3'
      cases hd : (List.range N.cs.length).drop k with
      | nil => rw [hd] at e5; cases e5
      | cons i r =>
        obtain ⟨hp, rfl⟩ := drop_cons hd
        rw [hd] at e5
        cases e5
        obtain ⟨hi, hi2⟩ := List.getElem?_eq_some_iff.mp hp
        simp only [List.getElem_range] at hi2
        subst hi2
        simp only [List.length_range] at hi
        obtain ⟨c0, hc0, hx⟩ := cell_at hi
        have ho := g.out k c0 hc0
        refine ⟨items_rng (by k_data), _, rfl, ?_⟩
        k_typeOf
        (first | refine lk e1 ?_ | refine lk e2 ?_ | refine lk e3 ?_ | (k_types; (first | refine lk e1 ?_ | refine lk e2 ?_ | refine lk e3 ?_ | simp (config := { iota := false }) only [updL_app, String.reduceEq, if_false, if_true, e1, e2, e3])))
        k_typeOf
        o_head h3.r.ns
        k_typeOf
        o_head h3.r.c
        refine ⟨by k_data, ?_⟩
        rw [hx]
        k_types
        rw [ho]
        (first | refine lk e1 ?_ | refine lk e2 ?_ | refine lk e3 ?_ | (k_types; (first | refine lk e1 ?_ | refine lk e2 ?_ | refine lk e3 ?_ | simp (config := { iota := false }) only [updL_app, String.reduceEq, if_false, if_true, e1, e2, e3])))
        k_typeOf
        o_head e6
        k_types
        rw [show (5 + (k : Int)) = ((5 + k : Nat) : Int) by k_data]
        try (refine Br.ffd (tki_has _) ?_)
        k_typeOf
        (first | refine lk e1 ?_ | refine lk e2 ?_ | refine lk e3 ?_ | (k_types; (first | refine lk e1 ?_ | refine lk e2 ?_ | refine lk e3 ?_ | simp (config := { iota := false }) only [updL_app, String.reduceEq, if_false, if_true, e1, e2, e3])))
        k_typeOf
        o_head e6
        k_types
        refine ⟨by rw [tki_len]; k_data, ?_⟩
        k_typeOf
        (first | refine lk e1 ?_ | refine lk e2 ?_ | refine lk e3 ?_ | (k_types; (first | refine lk e1 ?_ | refine lk e2 ?_ | refine lk e3 ?_ | simp (config := { iota := false }) only [updL_app, String.reduceEq, if_false, if_true, e1, e2, e3])))
        k_types
        rw [tki_put, upd_ne ncf.symm]
        have kk : Keep [c, f] τ' (upd (upd τ' c (.dictI (tki (5 + k + 1)))) f (dO (drv (k + 1)))) := (Keep.put (by simp)).trans (Keep.put (by simp))
        have g1 : upd (upd τ' c (.dictI (tki (5 + k + 1)))) f (dO (drv (k + 1))) c = some (.dictI (tki (5 + (k + 1)))) := (upd_ne ncf).trans (upd_self ..)
        have fin := hF (updL (updL l "index" (.int (k : Int))) "net" (.int ((5 + k : Nat) : Int))) _ ⟨by (first | exact e1 | (k_units; exact e1)), by (first | exact e2 | (k_units; exact e2)), by (first | exact e3 | (k_units; exact e3)), k3.trans kk, k + 1, rfl, by k_data, g1, upd_self ..⟩
        have hput : AO.dictI (putK (drv k) ((5 + k : Nat) : Int) (.int (k : Int))) = dO (drv (k + 1)) := by
          rw [dO_put]; congr 1; exact drv_put k
        rcases dO_cases (drv k) with ⟨ez, e⟩ | e
        · rw [e] at e7
          rw [e7]
          k_types
          rw [ez] at hput
          rw [hput]
          exact fin
        · rw [e] at e7
          rw [e7]
          k_types
          refine ⟨by rw [drv_len]; k_data, ?_⟩
          rw [hput]
          refine blk.nil ?_
          exact fin
    · obtain ⟨e1, e2, e3, k3, k, e5, hk, e6, e7⟩ := hI
      have hkk : k = N.cs.length := by
        have := congrArg List.length e5
        simp at this
        k_data
      subst hkk
      refine ⟨items_rng (by k_data), ?_⟩
      k_typeOf
      row_witness_with e3
      k_typeOf
      exact q f τ' ((k3.weaken (S' := [c, f]) (by simp)).drop hc |>.drop f0) f0 e7
end


noncomputable abbrev nats (l : List Nat) : List AV := l.map fun (i : Nat) => AV.int (i : Int)
theorem nats_app (l : List Nat) (i : Nat) : nats l ++ [.int (i : Int)] = nats (l ++ [i]) := by simp [nats]
/-- what a cell waits for -/
noncomputable def depOf (x : Int) : Option Nat := if 5 ≤ x then some (x - 5).toNat else none
noncomputable def Nt.dp (N : Nt) (i : Nat) : List Nat := match N.cs[i]? with | some c => c.2.2.filterMap depOf | none => []
theorem drv_look {m : Nat} {x : Int} (h2 : 2 ≤ x) (h : x < 5 + (m : Int)) : lookK (drv m) x = (depOf x).map fun (j : Nat) => AV.int (j : Int) := by
  unfold lookK
  by_cases h5 : 5 ≤ x
  · obtain ⟨j, hj⟩ : ∃ j : Nat, x = 5 + (j : Int) := ⟨(x - 5).toNat, by k_data⟩
    subst hj
    have e : depOf (5 + (j : Int)) = some j := by unfold depOf; rw [if_pos h5]; congr 1; k_data
    rw [e]
    have : ∀ m : Nat, j < m → (drv m).find? (fun p => decide (p.1 = 5 + (j : Int))) = some (5 + (j : Int), .int (j : Int)) := by
      intro m
      induction m with
      | zero => intro h; k_data
      | succ m ih =>
        intro hm
        have hs : drv (m + 1) = drv m ++ [(5 + (m : Int), .int (m : Int))] := by unfold drv; rw [List.range_succ, List.map_append]; rfl
        rw [hs, List.find?_append]
        by_cases hjm : j < m
        · rw [ih hjm]; rfl
        · have : j = m := by k_data
          subst this
          have hn : (drv j).find? (fun p => decide (p.1 = 5 + (j : Int))) = none := by
            rw [List.find?_eq_none]
            intro p hp
            obtain ⟨i, hi, rfl⟩ := List.mem_map.mp hp
            have := List.mem_range.mp hi
            simp; k_data
          rw [hn]; simp
    rw [this m (by k_data)]; rfl
  · have e : depOf x = none := by unfold depOf; rw [if_neg h5]
    rw [e]
    have hn : (drv m).find? (fun p => decide (p.1 = x)) = none := by
      rw [List.find?_eq_none]
      intro p hp
      obtain ⟨i, hi, rfl⟩ := List.mem_map.mp hp
      simp; k_data
    rw [hn]; rfl

/-! ### the table of users -/
structure US (σ τ : AH) (u r : Addr) (f : Nat → List Nat) (as : List (Nat × Addr)) : Prop where
  u : τ u = some (dO (as.map fun p => ((p.1 : Int), AV.ref p.2)))
  k : (as.map (·.1)).Nodup
  a : (as.map (·.2)).Nodup
  e : ∀ p ∈ as, σ p.2 = none ∧ p.2 ≠ r ∧ τ p.2 = some (.list (nats (f p.1)))
  z : ∀ j, j ∉ as.map (·.1) → f j = []
theorem US.lookN {σ τ u r f as} (h : US σ τ u r f as) {j : Nat} (hj : j ∉ as.map (·.1)) : lookK (as.map fun p => ((p.1 : Int), AV.ref p.2)) (j : Int) = none := by
  unfold lookK
  rw [Option.map_eq_none_iff, List.find?_eq_none]
  intro p hp
  obtain ⟨q, hq, rfl⟩ := List.mem_map.mp hp
  have : q.1 ≠ j := fun e => hj (List.mem_map.mpr ⟨q, hq, e⟩)
  simp; k_data
theorem US.lookS {σ τ u r f as} (h : US σ τ u r f as) {j : Nat} {a : Addr} (hj : (j, a) ∈ as) : lookK (as.map fun p => ((p.1 : Int), AV.ref p.2)) (j : Int) = some (.ref a) := by
  have hk := h.k
  clear h
  induction as with
  | nil => cases hj
  | cons p r ih =>
    unfold lookK
    rw [List.map_cons, List.find?_cons]
    rw [List.map_cons, List.nodup_cons] at hk
    rcases List.mem_cons.mp hj with rfl | hj
    · simp
    · have hne : p.1 ≠ j := fun e => hk.1 (e ▸ List.mem_map.mpr ⟨_, hj, rfl⟩)
      have : decide ((p.1 : Int) = (j : Int)) = false := by simp; k_data
      simp only [this]
      exact ih hj hk.2
theorem US.has {σ τ u r f as} (h : US σ τ u r f as) {j : Nat} {b : Bool} (e : hasK (as.map fun p => ((p.1 : Int), AV.ref p.2)) (j : Int) = b) : (b = true ∧ ∃ a, (j, a) ∈ as) ∨ (b = false ∧ j ∉ as.map (·.1)) := by
  by_cases hj : j ∈ as.map (·.1)
  · obtain ⟨p, hp, rfl⟩ := List.mem_map.mp hj
    refine .inl ⟨?_, p.2, hp⟩
    rw [← e]; unfold hasK; rw [h.lookS hp]; rfl
  · refine .inr ⟨?_, hj⟩
    rw [← e]; unfold hasK; rw [h.lookN hj]; rfl
theorem US.new {σ τ : AH} {u r : Addr} {f : Nat → List Nat} {as : List (Nat × Addr)} (h : US σ τ u r f as) {j : Nat} {c : Addr} (hj : j ∉ as.map (·.1)) (hc : τ c = none) (hr : τ r ≠ none) (k : Keep [] σ τ) :
    US σ (upd (upd τ c (.list [])) u (dO (putK (as.map fun p => ((p.1 : Int), AV.ref p.2)) (j : Int) (.ref c)))) u r f (as ++ [(j, c)]) := by
  have hcu : c ≠ u := by first | exact nes h.u hc | exact nes' h.u hc | (rintro rfl; rw [h.u] at hc; cases hc)
  refine ⟨?_, ?_, ?_, fun p hp => ?_, fun i hi => ?_⟩
  · rw [upd_self, putK_new (by unfold hasK; rw [h.lookN hj]; rfl)]; simp
  · rw [List.map_append, List.nodup_append]
    exact ⟨h.k, by simp, fun a ha b hb => by simp at hb; subst hb; rintro rfl; exact hj ha⟩
  · rw [List.map_append, List.nodup_append]
    refine ⟨h.a, by simp, fun a ha b hb => ?_⟩
    simp at hb; subst hb; rintro rfl
    obtain ⟨p, hp, e⟩ := List.mem_map.mp ha
    have := (h.e p hp).2.2
    rw [e, hc] at this; cases this
  · rcases List.mem_append.mp hp with hp | hp
    · obtain ⟨z1, z2, z3⟩ := h.e p hp
      have n1 : p.2 ≠ u := fun e => dO_ne _ _ (Option.some.inj (h.u.symm.trans (e ▸ z3)))
      have n2 : p.2 ≠ c := by intro e; rw [e, hc] at z3; cases z3
      exact ⟨z1, z2, (upd_ne n1).trans ((upd_ne n2).trans z3)⟩
    · simp only [List.mem_singleton] at hp; subst hp
      refine ⟨k.fresh hc, by rintro rfl; exact hr hc, (upd_ne hcu).trans ?_⟩
      rw [upd_self, h.z j hj]; rfl
  · rw [List.map_append, List.mem_append, not_or] at hi
    exact h.z i hi.1
theorem US.app {σ τ : AH} {u r : Addr} {f : Nat → List Nat} {as : List (Nat × Addr)} (h : US σ τ u r f as) {j i : Nat} {c : Addr} (hj : (j, c) ∈ as) :
    US σ (upd τ c (.list (nats (f j) ++ [.int (i : Int)]))) u r (fun x => if x = j then f x ++ [i] else f x) as := by
  obtain ⟨-, -, z⟩ := h.e _ hj
  have ncu : u ≠ c := fun e => dO_ne _ _ (Option.some.inj (h.u.symm.trans (e ▸ z)))
  refine ⟨(upd_ne ncu).trans h.u, h.k, h.a, fun p hp => ?_, fun x hx => ?_⟩
  · obtain ⟨z1, z2, z3⟩ := h.e p hp
    refine ⟨z1, z2, ?_⟩
    by_cases e : p.2 = c
    · have : p = (j, c) := by
        have hk := h.a
        clear h z z1 z2 z3 ncu
        induction as with
        | nil => cases hp
        | cons q r ih =>
          rw [List.map_cons, List.nodup_cons] at hk
          rcases List.mem_cons.mp hp with rfl | hp'
          · rcases List.mem_cons.mp hj with hj' | hj'
            · exact hj'.symm
            · exact absurd (List.mem_map.mpr ⟨_, hj', e.symm⟩) hk.1
          · rcases List.mem_cons.mp hj with hj' | hj'
            · subst hj'; exact absurd (List.mem_map.mpr ⟨_, hp', e⟩) hk.1
            · exact ih hj' hp' hk.2
      subst this
      rw [upd_self, if_pos rfl, nats_app]
    · rw [upd_ne e, z3]
      have : p.1 ≠ j := by
        intro e2
        have hk := h.k
        have : lookK (as.map fun p => ((p.1 : Int), AV.ref p.2)) (j : Int) = some (.ref p.2) := e2 ▸ h.lookS (j := p.1) (a := p.2) hp
        rw [h.lookS hj] at this
        simp at this
        exact e this.symm
      rw [if_neg this]
  · rw [if_neg, h.z x hx]
    rintro rfl; exact hx (List.mem_map.mpr ⟨_, hj, rfl⟩)
theorem US.other {σ τ : AH} {u r x : Addr} {f : Nat → List Nat} {as : List (Nat × Addr)} {o : AO} (h : US σ τ u r f as) (hu : x ≠ u) (hx : x = r ∨ ∃ es, τ x = some (dO es)) : US σ (upd τ x o) u r f as := by
  refine ⟨(upd_ne hu.symm).trans h.u, h.k, h.a, fun p hp => ?_, h.z⟩
  obtain ⟨z1, z2, z3⟩ := h.e p hp
  refine ⟨z1, z2, (upd_ne ?_).trans z3⟩
  rcases hx with rfl | ⟨es, hx⟩
  · exact z2
  · intro e; rw [e, hx] at z3; exact dO_ne _ _ (Option.some.inj z3)

/-! the table of waiting -/
noncomputable def wl (f : Nat → Int) (m : Nat) : List (Int × AV) := (List.range m).map fun (i : Nat) => ((i : Int), .int (f i))
theorem wl_len (f : Nat → Int) (m : Nat) : (wl f m).length = m := by simp [wl]
theorem wl_succ (f : Nat → Int) (m : Nat) : wl f (m + 1) = wl f m ++ [((m : Int), .int (f m))] := by unfold wl; rw [List.range_succ, List.map_append]; rfl
theorem wl_has (f : Nat → Int) (m : Nat) : hasK (wl f m) (m : Int) = false := hasK_false fun p hp => by
  obtain ⟨j, hj, rfl⟩ := List.mem_map.mp hp
  have := List.mem_range.mp hj
  show (j : Int) ≠ m
  k_data
theorem wl_new (f : Nat → Int) (m : Nat) : putK (wl f m) (m : Int) (.int (f m)) = wl f (m + 1) := by rw [putK_new (wl_has f m), wl_succ]
theorem wl_look {f : Nat → Int} {m i : Nat} (h : i < m) : lookK (wl f m) (i : Int) = some (.int (f i)) := by
  induction m with
  | zero => k_data
  | succ m ih =>
    unfold lookK
    rw [wl_succ, List.find?_append]
    by_cases e : i < m
    · have := ih e
      unfold lookK at this
      obtain ⟨p, hp, e2⟩ := Option.map_eq_some_iff.mp this
      rw [hp]
      simp [e2]
    · have : i = m := by k_data
      subst this
      have hn : (wl f i).find? (fun p => decide (p.1 = (i : Int))) = none := by
        have := wl_has f i
        rw [hasK_any, List.any_eq_false] at this
        rw [List.find?_eq_none]
        exact this
      rw [hn]; simp
theorem wl_put {f : Nat → Int} {m i : Nat} (h : i < m) (v : Int) : putK (wl f m) (i : Int) (.int v) = wl (fun j => if j = i then v else f j) m := by
  unfold putK
  rw [if_pos]
  · unfold wl
    rw [List.map_map]
    refine List.map_congr_left fun j hj => ?_
    by_cases e : j = i
    · subst e; simp
    · have : ¬ ((j : Int) = (i : Int)) := by k_data
      simp [e, this]
  · have := wl_look (f := f) h
    unfold lookK at this
    obtain ⟨p, hp, -⟩ := Option.map_eq_some_iff.mp this
    rw [List.any_eq_true]
    have q := List.find?_some hp
    exact ⟨p, List.mem_of_find?_eq_some hp, q⟩


theorem set_dO {τ : AH} {u : Addr} {es : List (Int × AV)} {A : List AV → Prop} {B : List (Int × AV) → Prop} (h : τ u = some (dO es)) (q : B es) :
    (match τ u with
      | some (.list xs) => A xs
      | some o => (match asI o with
          | some es => B es
          | none => False)
      | none => False) := by
  rw [h]
  cases es with
  | nil => exact q
  | cons _ _ => exact q
theorem item_dO {τ : AH} {u : Addr} {es : List (Int × AV)} {k : Int} {v : AV} {A : List AV → Prop} {B : AV → Prop} (h : τ u = some (dO es)) (e : lookK es k = some v) (q : B v) :
    (match τ u with
      | some (.list xs) => A xs
      | some o => (match asI o with
          | some es => (match lookK es k with | some v => B v | none => False)
          | none => False)
      | none => False) := by
  rw [h]
  cases es with
  | nil => cases e
  | cons _ _ => show (match lookK _ k with | some v => B v | none => False); rw [e]; exact q
noncomputable def Nt.U (N : Nt) (k j : Nat) : List Nat := (List.range k).flatMap fun i => List.replicate ((N.dp i).count j) i
noncomputable def Nt.U2 (N : Nt) (k : Nat) (done : List Int) (j : Nat) : List Nat := N.U k j ++ List.replicate ((done.filterMap depOf).count j) k
theorem Nt.U2_nil (N : Nt) (k : Nat) : N.U2 k [] = N.U k := by funext j; simp [Nt.U2]
theorem Nt.U2_all {N : Nt} {k : Nat} {c} (h : N.cs[k]? = some c) : N.U2 k c.2.2 = N.U (k + 1) := by
  funext j
  unfold Nt.U2 Nt.U
  rw [List.range_succ, List.flatMap_append]
  have e : N.dp k = c.2.2.filterMap depOf := by unfold Nt.dp; rw [h]
  simp [e]
theorem Nt.U2_some {N : Nt} {k : Nat} {done : List Int} {x : Int} {j : Nat} (e : depOf x = some j) : N.U2 k (done ++ [x]) = fun i => if i = j then N.U2 k done i ++ [k] else N.U2 k done i := by
  funext i
  unfold Nt.U2
  rw [List.filterMap_append, List.count_append]
  by_cases h : i = j
  · subst h; simp [e, List.replicate_succ']
  · have : ¬ (j = i) := fun z => h z.symm
    simp [e, h, this, List.count_cons]
theorem Nt.U2_none {N : Nt} {k : Nat} {done : List Int} {x : Int} (e : depOf x = none) : N.U2 k (done ++ [x]) = N.U2 k done := by
  funext i
  unfold Nt.U2
  rw [List.filterMap_append]
  simp [e]
theorem Nt.dp_len {N : Nt} (g : N.Good) (i : Nat) : (N.dp i).length ≤ 3 := by
  unfold Nt.dp
  cases h : N.cs[i]? with
  | none => simp
  | some c =>
    have := g.ar i c h
    refine Nat.le_trans (List.length_filterMap_le ..) ?_
    rw [this]; cases c.1 <;> decide
theorem Nt.U_len {N : Nt} (g : N.Good) (k j : Nat) : (N.U k j).length ≤ 3 * k := by
  induction k with
  | zero => simp [Nt.U]
  | succ k ih =>
    unfold Nt.U at ih ⊢
    rw [List.range_succ, List.flatMap_append, List.length_append]
    have := N.dp_len g k
    have h2 := List.count_le_length (a := j) (l := N.dp k)
    have e : ([k].flatMap fun i => List.replicate ((N.dp i).count j) i).length = (N.dp k).count j := by simp
    rw [e]
    k_data
theorem Nt.U2_len {N : Nt} (g : N.Good) (k : Nat) (done : List Int) (j : Nat) : (N.U2 k done j).length ≤ 3 * k + done.length := by
  unfold Nt.U2
  have := N.U_len g k j
  have h2 := List.count_le_length (a := j) (l := done.filterMap depOf)
  have h3 := List.length_filterMap_le depOf done
  simp
  k_data
noncomputable def Nt.rd (N : Nt) (k : Nat) : List Nat := (List.range k).filter fun i => (N.dp i).length == 0
theorem Nt.rd_succ (N : Nt) (k : Nat) : N.rd (k + 1) = N.rd k ++ (if (N.dp k).length == 0 then [k] else []) := by
  unfold Nt.rd
  rw [List.range_succ, List.filter_append]
  congr 1
  cases h : (N.dp k).length == 0 <;> simp [h]
noncomputable def Nt.wf (N : Nt) (i : Nat) : Int := ((N.dp i).length : Int)
section
variable {prog : Program} {w : World} {n : Nat} {σ : AH} {Q : AV → AH → Prop} {t : NtP} {N : Nt}
theorem Keep.fr {σ τ : AH} {a : Addr} {o : AO} (k : Keep [] σ τ) (h : σ a = none) : Keep [] σ (upd τ a o) := ((k.weaken (S' := [a]) (by simp)).trans (Keep.put (by simp))).drop h
structure OL (t : NtP) (u wa r d : Addr) (l : Loc) : Prop where
  cells : l "cells" = some (.ref t.p.ca)
  users : l "users" = some (.ref u)
  waiting : l "waiting" = some (.ref wa)
  ready : l "ready" = some (.ref r)
  driven : l "driven" = some (.ref d)

theorem ord1 {K : Kont} {d : Addr} (h : NetAt σ t N) (g : N.Good) (hd : σ d = some (dO (drv N.cs.length)))
    (q : ∀ l u wa r τ as, OL t u wa r d l → Keep [] σ τ → wa ≠ u → τ wa = some (dO (wl N.wf N.cs.length)) → τ r = some (.list (nats (N.rd N.cs.length))) → US σ τ u r (N.U N.cs.length) as → σ r = none → σ wa = none → σ u = none → K.next l τ) :
    blk (sk20 prog w (n + 1) dOrdered.scope.names) (dOrdered.body.take 5) (argLoc ["netlist", "driven"] [.ref t.p.a, .ref d]) σ K := by
  have hlen := h.len
  k_typeOf
  o_head h.r.ns
  k_typeOf
  (first | refine fun wa hwa => ?_ | (k_types; intro wa hwa))
  k_typeOf
  (first | refine fun u hu => ?_ | (k_types; intro u hu))
  k_typeOf
  (first | refine fun r hr => ?_ | (k_types; intro r hr))
  have k0 : Keep [] σ (upd (upd (upd σ wa .dict0) u .dict0) r (.list [])) := ((Keep.new hwa).trans (Keep.new hu)).trans (Keep.new hr)
  obtain ⟨nru, nrw, r0⟩ : r ≠ u ∧ r ≠ wa ∧ σ r = none := by
    obtain ⟨a, b⟩ := upd_none hr
    obtain ⟨c, d⟩ := upd_none b
    exact ⟨a, c, d⟩
  obtain ⟨nuw, u0⟩ := upd_none hu
  have h0 := h.keep0 k0
  k_typeOf
  o_head h0.r.c
  refine ⟨by simp; k_data, ?_⟩
  k_types
  have hR : (N.cs.map cellAV).length = N.cs.length := by simp
  rw [hR]
  refine .inr ⟨_, items_rng (by k_data), ?_⟩
  refine forL_inv (fun rest l τ => A3 (OL t u wa r d l) (Keep [] σ τ) (X2 fun k as => A6 (rest = ((List.range N.cs.length).drop k).map (fun (i : Nat) => AV.int (i : Int))) (k ≤ N.cs.length) (as.length ≤ 3 * k) (τ wa = some (dO (wl N.wf k))) (τ r = some (.list (nats (N.rd k)))) (US σ τ u r (N.U k) as))) (fun v vs l τ F hI hF => ?_) (fun l τ hI => ?_) _ _ _ ⟨⟨rfl, rfl, rfl, rfl, rfl⟩, k0, 0, [], rfl, by k_data, by simp, (upd_ne nrw.symm).trans ((upd_ne nuw.symm).trans (upd_self ..)), upd_self .., ⟨(upd_ne nru.symm).trans (upd_self ..), by simp, by simp, by simp, fun j _ => rfl⟩⟩
  · obtain ⟨hl, k1, k, as, e5, hk, hal, e6, e7, e8⟩ := hI
    have h1 := h.keep0 k1
    have hd1 := k1.get hd (by simp)
    cases hd' : (List.range N.cs.length).drop k with
    | nil => rw [hd'] at e5; cases e5
    | cons i r' =>
      obtain ⟨hp, rfl⟩ := drop_cons hd'
      rw [hd'] at e5
      cases e5
      obtain ⟨hi, hi2⟩ := List.getElem?_eq_some_iff.mp hp
      simp only [List.getElem_range] at hi2
      subst hi2
      simp only [List.length_range] at hi
      obtain ⟨c0, hc0, hx⟩ := cell_at hi
      refine ⟨items_rng (by k_data), _, rfl, ?_⟩
      k_typeOf
      row_witness_with hl.cells
      k_typeOf
      o_head h1.r.c
      refine ⟨by k_data, ?_⟩
      rw [hx]
      k_typeOf
      refine isStateC ?_
      k_typeOf
      row_witness_with hl.cells
      k_typeOf
      o_head h1.r.c
      refine ⟨by k_data, ?_⟩
      rw [hx]
      k_types
      refine .inr ⟨_, rfl, ?_⟩
      have har := g.ar k c0 hc0
      have har3 : c0.2.2.length ≤ 3 := by rw [har]; cases c0.1 <;> decide
      have hins := g.ins k c0 hc0
      refine forL_inv (fun rest l τ => A4 (OL t u wa r d l) (l "index" = some (.int (k : Int))) (Keep [] σ τ) (X3 fun done todo as => A7 (c0.2.2 = done ++ todo) (rest = todo.map AV.int) (l "count" = some (.int ((done.filterMap depOf).length : Int))) (as.length ≤ 3 * k + done.length) (τ wa = some (dO (wl N.wf k))) (τ r = some (.list (nats (N.rd k)))) (US σ τ u r (N.U2 k done) as))) (fun v vs l τ F hI hF => ?_) (fun l τ hI => ?_) _ _ _ ⟨⟨by (first | exact hl.cells | (k_units; exact hl.cells)), by (first | exact hl.users | (k_units; exact hl.users)), by (first | exact hl.waiting | (k_units; exact hl.waiting)), by (first | exact hl.ready | (k_units; exact hl.ready)), by (first | exact hl.driven | (k_units; exact hl.driven))⟩, by first | rfl | k_units, k1, [], c0.2.2, as, rfl, rfl, by first | rfl | (k_units; rfl), by simpa using hal, e6, e7, by rw [Nt.U2_nil]; exact e8⟩
      · obtain ⟨hl, ei, k2, done, todo, as, f1, f2, f3, f4, f5, f6, f7⟩ := hI
        cases todo with
        | nil => cases f2
        | cons x todo =>
          cases f2
          have hxm : x ∈ c0.2.2 := by rw [f1]; simp
          have hxb := hins x hxm
          have h2 := h.keep0 k2
          have hd2 := k2.get hd (by simp)
          have hdl : (done ++ [x]).length ≤ 3 := by have := congrArg List.length f1; simp at this ⊢; k_data
          simp only [List.length_append, List.length_cons, List.length_nil] at hdl
          have f1' : c0.2.2 = (done ++ [x]) ++ todo := by rw [f1]; simp
          refine ⟨rfl, _, rfl, ?_⟩
          k_typeOf
          row_witness_with hl.driven
          k_typeOf
          have nsd : nsAt τ d = none := by unfold nsAt; rw [hd2]; cases (drv N.cs.length) <;> rfl
          o_head nsd
          k_types
          refine ⟨by rw [hd2]; exact dO_ty _, ?_⟩
          k_typeOf
          o_head hd2
          k_typeOf
          o_head dO_asI
          k_types
          rw [drv_look (m := N.cs.length) hxb.1 (by k_data)]
          have hf2 : ∀ j, depOf x = some j → (((done ++ [x]).filterMap depOf).length : Int) = ((done.filterMap depOf).length : Int) + 1 := fun j e => by rw [List.filterMap_append]; simp [e]
          cases hdx : depOf x with
          | none =>
            k_typeOf
            refine hF _ _ ⟨⟨by (first | exact hl.cells | (k_units; exact hl.cells)), by (first | exact hl.users | (k_units; exact hl.users)), by (first | exact hl.waiting | (k_units; exact hl.waiting)), by (first | exact hl.ready | (k_units; exact hl.ready)), by (first | exact hl.driven | (k_units; exact hl.driven))⟩, by (first | exact ei | (k_units; exact ei)), k2, done ++ [x], todo, as, f1', rfl, ?_, by simp; k_data, f5, f6, ?_⟩
            · k_units
              rw [f3, List.filterMap_append]; simp [hdx]
            · rw [Nt.U2_none hdx]; exact f7
          | some j =>
            have hj : j < k := by
              unfold depOf at hdx
              split at hdx
              · simp at hdx; k_data
              · cases hdx
            obtain ⟨c1, hc1, hx1⟩ := cell_at (N := N) (i := j) (by k_data)
            k_types
            try (refine Br.ttd (by simp) ?_)
            k_typeOf
            row_witness_with hl.cells
            k_typeOf
            o_head h2.r.c
            refine ⟨by k_data, ?_⟩
            rw [hx1]
            k_typeOf
            refine isStateC ?_
            k_typeOf
            row_witness_with f3
            k_typeOf
            row_witness_with hl.users
            k_types
            rw [f7.u]
            dsimp (config := { iota := false }) only
            show (match member (.int (j : Int)) (dO _) with | some r => _ | none => _)
            rw [memD]
            rcases f7.has (j := j) rfl with ⟨hb, a, ha⟩ | ⟨hb, hn⟩
            · rw [hb]
              k_types
              k_typeOf
              row_witness_with hl.users
              k_types
              refine item_dO f7.u (f7.lookS ha) ?_
              k_types
              obtain ⟨-, -, hal2⟩ := f7.e _ ha
              rw [nsAt_list hal2]
              k_types
              refine ⟨by rw [hal2]; rfl, ?_⟩
              k_typeOf
              row_witness_with ei
              k_typeOf
              o_head hal2
              refine ⟨by have := N.U2_len g k done j; simp; k_data, ?_⟩
              k_typeOf
              have nwa : wa ≠ a := ne_of_ao f5 hal2 (dO_ne _ _)
              refine hF _ _ ⟨⟨by (first | exact hl.cells | (k_units; exact hl.cells)), by (first | exact hl.users | (k_units; exact hl.users)), by (first | exact hl.waiting | (k_units; exact hl.waiting)), by (first | exact hl.ready | (k_units; exact hl.ready)), by (first | exact hl.driven | (k_units; exact hl.driven))⟩, by (first | exact ei | (k_units; exact ei)), k2.fr (f7.e _ ha).1, done ++ [x], todo, as, f1', rfl, ?_, by simp; k_data, (upd_ne nwa).trans f5, (upd_ne (f7.e _ ha).2.1.symm).trans f6, ?_⟩
              · k_units
                rw [hf2 j hdx]
              · rw [Nt.U2_some hdx]; exact f7.app ha
            · rw [hb]
              k_typeOf
              (first | refine fun c hc => ?_ | (k_types; intro c hc))
              k_typeOf
              row_witness_with hl.users
              k_types
              have nuc : u ≠ c := by first | exact nes f7.u hc | exact nes' f7.u hc | (rintro rfl; rw [f7.u] at hc; cases hc)
              refine set_dO ((upd_ne nuc).trans f7.u) ?_
              refine ⟨by simp; k_data, ?_⟩
              rw [dO_put]
              have f8 := f7.new hn hc (by rw [f6]; simp) k2
              have ha : (j, c) ∈ as ++ [(j, c)] := by simp
              have hal : (as ++ [(j, c)]).length = as.length + 1 := by simp
              have f5' : upd (upd τ c (.list [])) u (dO (putK (as.map fun p => ((p.1 : Int), AV.ref p.2)) (j : Int) (.ref c))) wa = some (dO (wl N.wf k)) := by
                rw [upd_ne (Ne.symm nuw), upd_ne (by first | exact nes f5 hc | exact nes' f5 hc | (rintro rfl; rw [f5] at hc; cases hc))]; exact f5
              have f6' : upd (upd τ c (.list [])) u (dO (putK (as.map fun p => ((p.1 : Int), AV.ref p.2)) (j : Int) (.ref c))) r = some (.list (nats (N.rd k))) := by
                rw [upd_ne nru, upd_ne (by first | exact nes f6 hc | exact nes' f6 hc | (rintro rfl; rw [f6] at hc; cases hc))]; exact f6
              have k3 : Keep [] σ (upd (upd τ c (.list [])) u (dO (putK (as.map fun p => ((p.1 : Int), AV.ref p.2)) (j : Int) (.ref c)))) := by
                have q : Keep [u] σ (upd (upd τ c (.list [])) u (dO (putK (as.map fun p => ((p.1 : Int), AV.ref p.2)) (j : Int) (.ref c)))) := ((k2.trans (Keep.new hc)).weaken (by simp)).trans (Keep.put (by simp))
                exact q.drop (upd_none hu).2
              revert f8 ha hal f5' f6' k3
              generalize upd (upd τ c (.list [])) u (dO (putK (as.map fun p => ((p.1 : Int), AV.ref p.2)) (j : Int) (.ref c))) = τ3
              generalize as ++ [(j, c)] = as3
              intro f8 ha hal f5' f6' k3
              k_typeOf
              row_witness_with hl.users
              k_types
              refine item_dO f8.u (f8.lookS ha) ?_
              k_types
              obtain ⟨-, -, hal2⟩ := f8.e _ ha
              rw [nsAt_list hal2]
              k_types
              refine ⟨by rw [hal2]; rfl, ?_⟩
              k_typeOf
              row_witness_with ei
              k_typeOf
              o_head hal2
              refine ⟨by have := N.U2_len g k done j; simp; k_data, ?_⟩
              k_typeOf
              have nwa : wa ≠ c := ne_of_ao f5' hal2 (dO_ne _ _)
              refine hF _ _ ⟨⟨by (first | exact hl.cells | (k_units; exact hl.cells)), by (first | exact hl.users | (k_units; exact hl.users)), by (first | exact hl.waiting | (k_units; exact hl.waiting)), by (first | exact hl.ready | (k_units; exact hl.ready)), by (first | exact hl.driven | (k_units; exact hl.driven))⟩, by (first | exact ei | (k_units; exact ei)), k3.fr (f8.e _ ha).1, done ++ [x], todo, as3, f1', rfl, ?_, by simp; k_data, (upd_ne nwa).trans f5', (upd_ne (f8.e _ ha).2.1.symm).trans f6', ?_⟩
              · k_units
                rw [hf2 j hdx]
              · rw [Nt.U2_some hdx]; exact f8.app ha
      · obtain ⟨hl, ei, k2, done, todo, as, f1, f2, f3, f4, f5, f6, f7⟩ := hI
        have ht : todo = [] := by cases todo with
          | nil => rfl
          | cons _ _ => cases f2
        subst ht
        rw [List.append_nil] at f1
        subst f1
        rw [Nt.U2_all hc0] at f7
        have hw : ((c0.2.2.filterMap depOf).length : Int) = N.wf k := by unfold Nt.wf Nt.dp; rw [hc0]
        rw [hw] at f3
        refine ⟨rfl, ?_⟩
        k_typeOf
        row_witness_with f3
        k_typeOf
        row_witness_with hl.waiting
        k_typeOf
        row_witness_with ei
        k_types
        refine set_dO f5 ?_
        refine ⟨by rw [wl_len]; k_data, ?_⟩
        rw [dO_put, wl_new]
        have g1 : upd τ wa (dO (wl N.wf (k + 1))) wa = some (dO (wl N.wf (k + 1))) := upd_self ..
        have nwr : r ≠ wa := fun e => dO_ne _ _ (Option.some.inj (f5.symm.trans (e ▸ f6)))
        have g2 : upd τ wa (dO (wl N.wf (k + 1))) r = some (.list (nats (N.rd k))) := (upd_ne nwr).trans f6
        have g3 := f7.other (o := dO (wl N.wf (k + 1))) nuw.symm (.inr ⟨_, f5⟩)
        have g4 := k2.fr (o := dO (wl N.wf (k + 1))) hwa
        revert g1 g2 g3 g4
        generalize upd τ wa (dO (wl N.wf (k + 1))) = τ4
        intro g1 g2 g3 g4
        k_typeOf
        row_witness_with f3
        k_types
        have hdp : N.wf k = ((N.dp k).length : Int) := rfl
        have hrd := N.rd_succ k
        (refine Br.mk (fun hc => ?_) (fun hc => ?_))
        · have hz : ((N.dp k).length == 0) = true := by rw [hdp] at hc; simpa using hc
          rw [hz, if_pos rfl] at hrd
          k_typeOf
          row_witness_with hl.ready
          k_typeOf
          o_head (nsAt_list g2)
          k_types
          refine ⟨by rw [g2]; rfl, ?_⟩
          k_typeOf
          row_witness_with ei
          k_typeOf
          o_head g2
          refine ⟨by have := List.length_filter_le (fun i => (N.dp i).length == 0) (List.range k); unfold Nt.rd; simp at this ⊢; k_data, ?_⟩
          k_types
          rw [nats_app, ← hrd]
          have nwr2 : wa ≠ r := nwr.symm
          exact hF _ _ ⟨hl, g4.fr r0, k + 1, as, rfl, by k_data, by k_data, (upd_ne nwr2).trans g1, upd_self .., g3.other nru (.inl rfl)⟩
        · have hz : ((N.dp k).length == 0) = false := by rw [hdp] at hc; simpa using hc
          rw [hz, if_neg (by decide), List.append_nil] at hrd
          k_typeOf
          exact hF _ _ ⟨hl, g4, k + 1, as, rfl, by k_data, by k_data, g1, by rw [hrd]; exact g2, g3⟩
  · obtain ⟨hl, k1, k, as, e5, hk, hal, e6, e7, e8⟩ := hI
    have hkk : k = N.cs.length := by
      have := congrArg List.length e5
      simp at this
      k_data
    subst hkk
    refine ⟨items_rng (by k_data), ?_⟩
    k_typeOf
    exact q l u wa r τ as hl k1 nuw.symm e6 e7 e8 r0 hwa u0
end


/-! ### the order, in plain lists -/
structure OI (N : Nt) (R : List Nat) (T : Nat) : Prop where
  nd : R.Nodup
  lt : ∀ i ∈ R, i < N.cs.length
  mem : ∀ i, i < N.cs.length → (i ∈ R ↔ ∀ j ∈ N.dp i, j ∈ R.take T)
  top : ∀ (p i : Nat), R[p]? = some i → ∀ j ∈ N.dp i, j ∈ R.take p
  le : T ≤ R.length
noncomputable def offP (P : List Nat) (j : Nat) : Bool := !P.contains j
noncomputable def Nt.wt (N : Nt) (P : List Nat) (i : Nat) : Int := ((N.dp i).countP (offP P) : Int)
theorem Nt.wt_nil (N : Nt) : N.wt [] = N.wf := by
  funext i
  unfold Nt.wt Nt.wf
  congr 1
  rw [List.countP_eq_length]
  intro a _; rfl
theorem Nt.dp_lt {N : Nt} (g : N.Good) {i j : Nat} (h : j ∈ N.dp i) : j < i := by
  unfold Nt.dp at h
  cases hc : N.cs[i]? with
  | none => rw [hc] at h; cases h
  | some c =>
    rw [hc] at h
    obtain ⟨x, hx, e⟩ := List.mem_filterMap.mp h
    have := g.ins i c hc x hx
    unfold depOf at e
    split at e
    · simp at e; k_data
    · cases e
theorem Nt.U_count (N : Nt) (k j i : Nat) : (N.U k j).count i = if i < k then (N.dp i).count j else 0 := by
  induction k with
  | zero => simp [Nt.U]
  | succ k ih =>
    unfold Nt.U at ih ⊢
    rw [List.range_succ, List.flatMap_append, List.count_append, ih]
    have e : ([k].flatMap fun i => List.replicate ((N.dp i).count j) i) = List.replicate ((N.dp k).count j) k := by simp
    rw [e, List.count_replicate]
    by_cases h : i = k
    · subst h; simp
    · have h2 : ¬ (k = i) := fun z => h z.symm
      by_cases h3 : i < k
      · simp [h3, h2, Nat.lt_succ_of_lt h3]
      · have : ¬ i < k + 1 := by k_data
        simp [h3, this, h2]
theorem Nt.U_lt {N : Nt} {k j i : Nat} (h : i ∈ N.U k j) : i < k := by
  have := List.count_pos_iff.mpr h
  rw [N.U_count] at this
  by_cases z : i < k
  · exact z
  · rw [if_neg z] at this; k_data
theorem OI.init (N : Nt) : OI N (N.rd N.cs.length) 0 := by
  have hm : ∀ i, i ∈ N.rd N.cs.length ↔ i < N.cs.length ∧ N.dp i = [] := fun i => by
    unfold Nt.rd; rw [List.mem_filter, List.mem_range]; simp
  refine ⟨List.nodup_range.filter _, fun i h => ((hm i).mp h).1, fun i hi => ?_, fun p i h j hj => ?_, Nat.zero_le _⟩
  · rw [hm]
    constructor
    · intro ⟨_, e⟩; rw [e]; simp
    · intro h
      refine ⟨hi, ?_⟩
      cases e : N.dp i with
      | nil => rfl
      | cons a r => rw [e] at h; have := h a (List.mem_cons_self ..); simp at this
  · have := ((hm i).mp (List.mem_of_getElem? h)).2
    rw [this] at hj; cases hj
theorem nodup_len : ∀ (l m : List Nat), l.Nodup → (∀ x ∈ l, x ∈ m) → l.length ≤ m.length
  | [], _, _, _ => Nat.zero_le _
  | x :: l, m, nd, h => by
    rw [List.nodup_cons] at nd
    have hx := h x (List.mem_cons_self ..)
    have := nodup_len l (m.erase x) nd.2 fun y hy => (List.mem_erase_of_ne (by rintro rfl; exact nd.1 hy)).mpr (h y (List.mem_cons_of_mem _ hy))
    rw [List.length_erase_of_mem hx] at this
    have := List.length_pos_of_mem hx
    simp; k_data
theorem OI.len {N R T} (h : OI N R T) : R.length ≤ N.cs.length := by
  have := nodup_len R (List.range N.cs.length) h.nd fun x hx => List.mem_range.mpr (h.lt x hx)
  simpa using this
theorem OI.full {N : Nt} {R : List Nat} (g : N.Good) (h : OI N R R.length) : ∀ i, i < N.cs.length → i ∈ R := by
  intro i
  induction i using Nat.strongRecOn with
  | ind i ih =>
    intro hi
    rw [h.mem i hi, List.take_length]
    intro j hj
    exact ih j (Nt.dp_lt g hj) (Nat.lt_trans (Nt.dp_lt g hj) hi)
theorem OI.fullLen {N : Nt} {R : List Nat} (g : N.Good) (h : OI N R R.length) : R.length = N.cs.length := by
  have a := h.len
  have b := nodup_len (List.range N.cs.length) R List.nodup_range fun x hx => h.full g x (List.mem_range.mp hx)
  simp at b; k_data

/-- within a turn: those added are A -/
structure OJ (N : Nt) (P : List Nat) (done A : List Nat) : Prop where
  nd : A.Nodup
  mem : ∀ i, i ∈ A ↔ i ∈ done ∧ N.wt P i = (done.count i : Int)
noncomputable def OJ.f (N : Nt) (P done : List Nat) (i : Nat) : Int := N.wt P i - (done.count i : Int)
theorem OJ.f_nil (N : Nt) (P : List Nat) : OJ.f N P [] = N.wt P := by funext i; simp [OJ.f]
theorem OJ.f_put (N : Nt) (P done : List Nat) (i : Nat) : (fun j => if j = i then OJ.f N P done i - 1 else OJ.f N P done j) = OJ.f N P (done ++ [i]) := by
  funext j
  unfold OJ.f
  rw [List.count_append]
  by_cases h : j = i
  · subst h; simp; k_data
  · have : ¬ (i = j) := fun z => h z.symm
    simp [h, this, List.count_cons]
theorem OJ.step {N : Nt} {P L done todo A : List Nat} {i : Nat} (h : OJ N P done A) (e : L = done ++ i :: todo) (hL : ∀ i, (L.count i : Int) ≤ N.wt P i) :
    (OJ.f N P done i - 1 = 0 → OJ N P (done ++ [i]) (A ++ [i])) ∧ (OJ.f N P done i - 1 ≠ 0 → OJ N P (done ++ [i]) A) := by
  have hi := hL i
  rw [e, List.count_append, List.count_cons_self] at hi
  have cn : ∀ j, j ≠ i → (done ++ [i]).count j = done.count j := fun j hj => by
    rw [List.count_append]
    have : ¬ (i = j) := fun z => hj z.symm
    simp [this, List.count_cons]
  have ci : (done ++ [i]).count i = done.count i + 1 := by rw [List.count_append]; simp
  have other : ∀ j, j ≠ i → (j ∈ A ↔ j ∈ done ++ [i] ∧ N.wt P j = ((done ++ [i]).count j : Int)) := fun j hj => by
    rw [h.mem, cn j hj]; simp [hj]
  unfold OJ.f
  refine ⟨fun z => ⟨?_, fun j => ?_⟩, fun z => ⟨h.nd, fun j => ?_⟩⟩
  · rw [List.nodup_append]
    refine ⟨h.nd, by simp, fun a ha b hb => ?_⟩
    simp at hb; subst hb; rintro rfl
    have := ((h.mem _).mp ha).2
    k_data
  · by_cases hj : j = i
    · subst hj
      rw [ci]
      simp only [List.mem_append, List.mem_singleton, or_true, true_and, true_iff]
      k_data
    · rw [List.mem_append, List.mem_singleton, or_iff_left hj]
      exact other j hj
  · by_cases hj : j = i
    · subst hj
      rw [ci]
      constructor
      · intro ha
        have := ((h.mem _).mp ha).2
        k_data
      · intro ⟨_, hb⟩
        k_data
    · exact other j hj
theorem countP_le_eq {α : Type} {p q : α → Bool} (hpq : ∀ x, p x = true → q x = true) : ∀ (l : List α), l.countP p ≤ l.countP q ∧ (l.countP p = l.countP q → ∀ x ∈ l, q x = true → p x = true)
  | [] => ⟨Nat.le_refl _, fun _ x hx => by cases hx⟩
  | a :: l => by
    obtain ⟨h1, h2⟩ := countP_le_eq hpq l
    rw [List.countP_cons, List.countP_cons]
    by_cases hp : p a = true
    · have hq := hpq a hp
      simp only [hp, hq, if_true]
      refine ⟨by k_data, fun e x hx => ?_⟩
      rcases List.mem_cons.mp hx with rfl | hx
      · intro _; exact hp
      · exact h2 (by k_data) x hx
    · by_cases hq : q a = true
      · simp only [hp, hq, if_true, Bool.false_eq_true, if_false]
        refine ⟨by k_data, fun e => ?_⟩
        k_data
      · simp only [hp, hq, Bool.false_eq_true, if_false]
        refine ⟨by k_data, fun e x hx hqx => ?_⟩
        rcases List.mem_cons.mp hx with rfl | hx
        · exact absurd hqx hq
        · exact h2 (by k_data) x hx hqx
theorem wt_snoc (l P : List Nat) (j : Nat) (hj : j ∉ P) : (l.countP (offP (P ++ [j])) : Int) = (l.countP (offP P) : Int) - (l.count j : Int) := by
  induction l with
  | nil => rfl
  | cons a l ih =>
    rw [List.countP_cons, List.countP_cons, List.count_cons]
    by_cases h : a = j
    · subst h
      have e1 : offP P a = true := by simp [offP, hj]
      have e2 : offP (P ++ [a]) a = false := by simp [offP]
      simp only [e1, e2, if_true, Bool.false_eq_true, if_false, beq_self_eq_true]
      k_data
    · have e1 : offP (P ++ [j]) a = offP P a := by simp [offP, h]
      have e2 : (a == j) = false := by simpa using h
      rw [e1, e2]
      simp only [Bool.false_eq_true, if_false]
      k_data
theorem OI.out {N R T j} (h : OI N R T) (hj : R[T]? = some j) : j ∉ R.take T := by
  intro m
  obtain ⟨p, hp, e⟩ := List.mem_iff_getElem.mp m
  rw [List.length_take] at hp
  rw [List.getElem_take] at e
  have hT := (List.getElem?_eq_some_iff.mp hj)
  obtain ⟨hT, e2⟩ := hT
  have := (List.pairwise_iff_getElem.mp h.nd) p T (by k_data) hT (by k_data)
  exact this (e.trans e2.symm)
theorem OI.bound {N R T j} (h : OI N R T) (hj : R[T]? = some j) (i : Nat) : (((N.U N.cs.length j).count i : Nat) : Int) ≤ N.wt (R.take T) i := by
  rw [N.U_count]
  unfold Nt.wt
  split
  · have := (countP_le_eq (p := (· == j)) (q := offP (R.take T)) (fun x hx => by
      have : x = j := by simpa using hx
      subst this
      have := h.out hj
      simp [offP, this]) (N.dp i)).1
    unfold List.count
    k_data
  · k_data
theorem OI.next {N R T j A} (h : OI N R T) (hj : R[T]? = some j) (a : OJ N (R.take T) (N.U N.cs.length j) A) :
    OI N (R ++ A) (T + 1) ∧ N.wt ((R ++ A).take (T + 1)) = OJ.f N (R.take T) (N.U N.cs.length j) := by
  obtain ⟨hT, e2⟩ := List.getElem?_eq_some_iff.mp hj
  have ho := h.out hj
  have tk : (R ++ A).take (T + 1) = R.take T ++ [j] := by
    rw [List.take_append_of_le_length (by k_data), List.take_add_one, hj]; rfl
  have sub : ∀ x, (x == j) = true → offP (R.take T) x = true := fun x hx => by
    have : x = j := by simpa using hx
    subst this
    simp [offP, ho]
  have inA : ∀ i, i ∈ A → i < N.cs.length ∧ j ∈ N.dp i ∧ ∀ k ∈ N.dp i, k ∈ R.take T ++ [j] := fun i hi => by
    obtain ⟨m1, m2⟩ := (a.mem i).mp hi
    have hl := Nt.U_lt m1
    have hp := List.count_pos_iff.mpr m1
    rw [N.U_count, if_pos hl] at m2 hp
    refine ⟨hl, List.count_pos_iff.mp hp, fun k hk => ?_⟩
    have := (countP_le_eq sub (N.dp i)).2 (by unfold Nt.wt List.count at m2; k_data) k hk
    rw [List.mem_append, List.mem_singleton]
    by_cases hkP : k ∈ R.take T
    · exact .inl hkP
    · refine .inr (by simpa using this (by simp [offP, hkP]))
  have hR : ∀ i, i ∈ R → i < N.cs.length ∧ ∀ k ∈ N.dp i, k ∈ R.take T := fun i hi => ⟨h.lt i hi, (h.mem i (h.lt i hi)).mp hi⟩
  refine ⟨⟨?_, fun i hi => ?_, fun i hi => ?_, fun p i hp k hk => ?_, by simp; k_data⟩, ?_⟩
  · rw [List.nodup_append]
    refine ⟨h.nd, a.nd, fun x hx y hy => ?_⟩
    rintro rfl
    exact ho ((hR x hx).2 j (inA x hy).2.1)
  · rcases List.mem_append.mp hi with hi | hi
    · exact h.lt i hi
    · exact (inA i hi).1
  · rw [tk, List.mem_append]
    constructor
    · rintro (hi | hi)
      · intro k hk; exact List.mem_append_left _ ((hR i hi).2 k hk)
      · exact (inA i hi).2.2
    · intro hall
      by_cases hji : j ∈ N.dp i
      · right
        rw [a.mem]
        have hc : (N.U N.cs.length j).count i = (N.dp i).count j := by rw [N.U_count, if_pos hi]
        refine ⟨List.count_pos_iff.mp (by rw [hc]; exact List.count_pos_iff.mpr hji), ?_⟩
        rw [hc]
        unfold Nt.wt List.count
        congr 1
        refine List.countP_congr fun k hk => ?_
        have := hall k hk
        rw [List.mem_append, List.mem_singleton] at this
        constructor
        · intro hq
          rcases this with z | z
          · simp [offP, z] at hq
          · simpa using z
        · exact sub k
      · left
        rw [h.mem i hi]
        intro k hk
        have := hall k hk
        rw [List.mem_append, List.mem_singleton] at this
        rcases this with z | z
        · exact z
        · subst z; exact absurd hk hji
  · by_cases hpl : p < R.length
    · rw [List.getElem?_append_left hpl] at hp
      rw [List.take_append_of_le_length (by k_data)]
      exact h.top p i hp k hk
    · rw [List.getElem?_append_right (by k_data)] at hp
      have hiA := List.mem_of_getElem? hp
      have := (inA i hiA).2.2 k hk
      rw [← tk] at this
      exact List.take_subset_take_left _ (by k_data) this
  · funext i
    rw [tk]
    unfold Nt.wt OJ.f
    rw [wt_snoc _ _ _ ho, N.U_count]
    unfold Nt.wt
    split
    · rfl
    · rename_i hi
      have : N.dp i = [] := by
        unfold Nt.dp
        rw [List.getElem?_eq_none (by k_data)]
      rw [this]; simp


theorem nsAt_dO {σ : AH} {a : Addr} {es : List (Int × AV)} (h : σ a = some (dO es)) : nsAt σ a = none := by unfold nsAt; rw [h]; cases es <;> rfl
theorem US.frsh {σ τ : AH} {u r c : Addr} {f : Nat → List Nat} {as : List (Nat × Addr)} {o : AO} (h : US σ τ u r f as) (hc : τ c = none) : US σ (upd τ c o) u r f as := by
  refine ⟨(upd_ne (by first | exact nes h.u hc | exact nes' h.u hc | (rintro rfl; rw [h.u] at hc; cases hc))).trans h.u, h.k, h.a, fun p hp => ?_, h.z⟩
  obtain ⟨z1, z2, z3⟩ := h.e p hp
  exact ⟨z1, z2, (upd_ne (by intro e; rw [e, hc] at z3; cases z3)).trans z3⟩
theorem US.iter {σ τ : AH} {u r c : Addr} {f : Nat → List Nat} {as : List (Nat × Addr)} (h : US σ τ u r f as) (hc : τ c = none) (hr : τ r ≠ none) (j : Nat) :
    ∃ b, (lookK (as.map fun p => ((p.1 : Int), AV.ref p.2)) (j : Int)).getD (.ref c) = .ref b ∧ upd τ c (.list []) b = some (.list (nats (f j))) ∧ b ≠ r := by
  by_cases hj : j ∈ as.map (·.1)
  · obtain ⟨p, hp, rfl⟩ := List.mem_map.mp hj
    obtain ⟨z1, z2, z3⟩ := h.e p hp
    refine ⟨p.2, by rw [h.lookS hp]; rfl, (upd_ne (by intro e; rw [e, hc] at z3; cases z3)).trans z3, z2⟩
  · refine ⟨c, by rw [h.lookN hj]; rfl, ?_, by rintro rfl; exact hr hc⟩
    rw [upd_self, h.z j hj]; rfl
section
variable {prog : Program} {w : World} {n : Nat} {σ : AH} {Q : AV → AH → Prop} {t : NtP} {N : Nt}
structure OW (N : Nt) (σ : AH) (u wa r : Addr) (R : List Nat) (T : Nat) (l : Loc) (τ : AH) : Prop where
  users : l "users" = some (.ref u)
  waiting : l "waiting" = some (.ref wa)
  ready : l "ready" = some (.ref r)
  turn : l "turn" = some (.int (T : Int))
  k : Keep [] σ τ
  hw : τ wa = some (dO (wl (N.wt (R.take T)) N.cs.length))
  hr : τ r = some (.list (nats R))
  us : ∃ as, US σ τ u r (N.U N.cs.length) as
  oi : OI N R T

theorem ord2 {K : Kont} {l : Loc} {u wa r : Addr} {τ : AH} (g : N.Good) (hlen : N.cs.length ≤ 5) (l1 : l "users" = some (.ref u)) (l2 : l "waiting" = some (.ref wa)) (l3 : l "ready" = some (.ref r)) (hk : Keep [] σ τ) (nuw : wa ≠ u)
    (hwf : σ wa = none) (hrf : σ r = none) (huf : σ u = none) (hw : τ wa = some (dO (wl N.wf N.cs.length))) (hr : τ r = some (.list (nats (N.rd N.cs.length)))) (hus : ∃ as, US σ τ u r (N.U N.cs.length) as)
    (q : ∀ R τ, Keep [] σ τ → τ r = some (.list (nats R)) → OI N R R.length → K.ret (.ref r) τ) :
    blk (sk20 prog w (n + 1) dOrdered.scope.names) (dOrdered.body.drop 5) l τ K := by
  k_typeOf
  (first | refine And.intro (N.cs.length + 1) ?_ | (k_types; refine ⟨N.cs.length + 1, ?_⟩))
  refine while_inv (fun m l τ => X2 fun R T => (OW N σ u wa r R T l τ) ∧ (T + m = N.cs.length)) (fun l τ F hI => ?_) (fun m l τ F hI hF => ?_) _ _ _ ⟨N.rd N.cs.length, 0, ⟨by (first | exact l1 | (k_units; exact l1)), by (first | exact l2 | (k_units; exact l2)), by (first | exact l3 | (k_units; exact l3)), by first | rfl | (k_units; rfl), hk, by rw [List.take_zero, N.wt_nil]; exact hw, hr, hus, OI.init N⟩, by k_data⟩
  · obtain ⟨R, T, h, hT⟩ := hI
    have h1 := h.oi.len
    have h2 := h.oi.le
    k_typeOf
    row_witness_with h.turn
    k_typeOf
    row_witness_with h.ready
    k_typeOf
    o_head h.hr
    refine ⟨by simp; k_data, ?_⟩
    k_types
    try (refine Br.ffd (by simp; k_data) ?_)
    k_typeOf
    row_witness_with h.ready
    k_typeOf
    refine q R τ h.k h.hr ?_
    have : T = R.length := by k_data
    rw [← this]; exact h.oi
  · obtain ⟨R, T, h, hT⟩ := hI
    have h1 := h.oi.len
    have h2 := h.oi.le
    k_typeOf
    row_witness_with h.turn
    k_typeOf
    row_witness_with h.ready
    k_typeOf
    o_head h.hr
    refine ⟨by simp; k_data, ?_⟩
    k_types
    (refine Br.mk (fun hc => ?_) (fun hc => ?_))
    · have hlt : T < R.length := by simpa using hc
      obtain ⟨j, hj⟩ : ∃ j, R[T]? = some j := ⟨_, List.getElem?_eq_getElem hlt⟩
      obtain ⟨as, us⟩ := h.us
      k_typeOf
      row_witness_with h.users
      k_typeOf
      have nsu : nsAt τ u = none := nsAt_dO us.u
      o_head nsu
      k_types
      refine ⟨by rw [us.u]; exact dO_ty _, ?_⟩
      k_typeOf
      row_witness_with h.ready
      k_typeOf
      row_witness_with h.turn
      k_typeOf
      o_head h.hr
      refine ⟨by simp; k_data, ?_⟩
      have hx : idxOf (nats R) (T : Int) = some (.int (j : Int)) := idx_nat (by simp [hj])
      o_head hx
      k_typeOf
      (first | refine fun c hc2 => ?_ | (k_types; intro c hc2))
      k_types
      have nuc : u ≠ c := by first | exact nes us.u hc2 | exact nes' us.u hc2 | (rintro rfl; rw [us.u] at hc2; cases hc2)
      have nwc : wa ≠ c := by first | exact nes h.hw hc2 | exact nes' h.hw hc2 | (rintro rfl; rw [h.hw] at hc2; cases hc2)
      have nrc : r ≠ c := by first | exact nes h.hr hc2 | exact nes' h.hr hc2 | (rintro rfl; rw [h.hr] at hc2; cases hc2)
      rw [show upd τ c (.list []) u = _ from (upd_ne nuc).trans us.u]
      k_typeOf
      o_head dO_asI
      k_types
      obtain ⟨b, hb1, hb2, nbr⟩ := us.iter hc2 (by rw [h.hr]; simp) j
      rw [hb1]
      refine .inr ⟨_, items_list hb2, ?_⟩
      have us1 := us.frsh (o := .list []) hc2
      have k1 := h.k.trans (Keep.new (o := .list []) hc2)
      have w1 : upd τ c (.list []) wa = some (dO (wl (N.wt (R.take T)) N.cs.length)) := (upd_ne nwc).trans h.hw
      have r1 : upd τ c (.list []) r = some (.list (nats R)) := (upd_ne nrc).trans h.hr
      have nwr : wa ≠ r := fun e => dO_ne _ _ (Option.some.inj (h.hw.symm.trans (e ▸ h.hr)))
      have nwb : wa ≠ b := fun e => dO_ne _ _ (Option.some.inj (w1.symm.trans (e ▸ hb2)))
      have hsub : ∀ i, i ∈ N.U N.cs.length j → i < N.cs.length := fun i hi => Nt.U_lt hi
      have hbd := h.oi.bound hj
      have hnx := fun A => h.oi.next (A := A) hj
      generalize hP : R.take T = P at *
      generalize hL : N.U N.cs.length j = L at *
      refine forL_inv (fun rest l τ => A7 (l "users" = some (.ref u)) (l "waiting" = some (.ref wa)) (l "ready" = some (.ref r)) (l "turn" = some (.int (T : Int))) (Keep [] σ τ) (τ b = some (.list (nats L))) (X3 fun done todo A => A6 (L = done ++ todo) (rest = nats todo) (τ wa = some (dO (wl (OJ.f N P done) N.cs.length))) (τ r = some (.list (nats (R ++ A)))) (OJ N P done A) (∃ as, US σ τ u r (N.U N.cs.length) as))) (fun v vs l τ F hI hF => ?_) (fun l τ hI => ?_) _ _ _ ⟨h.users, h.waiting, h.ready, h.turn, k1, hb2, [], L, [], rfl, rfl, by rw [OJ.f_nil]; exact w1, by rw [List.append_nil]; exact r1, ⟨by simp, by simp⟩, as, us1⟩
      · obtain ⟨e1, e2, e3, e4, k2, b2, done, todo, A, f1, f2, f3, f4, f5, as2, f6⟩ := hI
        cases todo with
        | nil => cases f2
        | cons i todo =>
          cases f2
          have hi : i < N.cs.length := hsub i (by rw [f1]; simp)
          have hA : (R ++ A).length ≤ 20 := by
            have : A.length ≤ (List.range N.cs.length).length := nodup_len A _ f5.nd fun x hx => by
              have := ((f5.mem x).mp hx).1
              exact List.mem_range.mpr (hsub x (by rw [f1]; exact List.mem_append_left _ this))
            simp at this ⊢; k_data
          obtain ⟨s1, s2⟩ := f5.step f1 hbd
          have f1' : L = (done ++ [i]) ++ todo := by rw [f1]; simp
          refine ⟨items_list b2, _, rfl, ?_⟩
          k_typeOf
          row_witness_with e2
          k_types
          refine item_dO f3 (wl_look hi) ?_
          k_typeOf
          row_witness_with e2
          refine set_dO f3 ?_
          refine ⟨by rw [wl_len]; k_data, ?_⟩
          rw [dO_put, wl_put hi, OJ.f_put]
          have k3 := k2.fr (o := dO (wl (OJ.f N P (done ++ [i])) N.cs.length)) hwf
          have w3 : upd τ wa (dO (wl (OJ.f N P (done ++ [i])) N.cs.length)) wa = some (dO (wl (OJ.f N P (done ++ [i])) N.cs.length)) := upd_self ..
          have r3 : upd τ wa (dO (wl (OJ.f N P (done ++ [i])) N.cs.length)) r = some (.list (nats (R ++ A))) := (upd_ne nwr.symm).trans f4
          have b3 : upd τ wa (dO (wl (OJ.f N P (done ++ [i])) N.cs.length)) b = some (.list (nats L)) := (upd_ne nwb.symm).trans b2
          have u3 := f6.other (o := dO (wl (OJ.f N P (done ++ [i])) N.cs.length)) nuw (.inr ⟨_, f3⟩)
          revert k3 w3 r3 b3 u3
          generalize upd τ wa (dO (wl (OJ.f N P (done ++ [i])) N.cs.length)) = τ3
          intro k3 w3 r3 b3 u3
          have fi : OJ.f N P (done ++ [i]) i = OJ.f N P done i - 1 := by rw [← OJ.f_put]; simp
          k_typeOf
          row_witness_with e2
          k_types
          refine item_dO w3 (wl_look hi) ?_
          k_types
          rw [fi]
          (refine Br.mk (fun hc => ?_) (fun hc => ?_))
          · k_typeOf
            row_witness_with e3
            k_typeOf
            o_head (nsAt_list r3)
            k_types
            refine ⟨by rw [r3]; rfl, ?_⟩
            k_typeOf
            o_head r3
            refine ⟨by simp at hA ⊢; k_data, ?_⟩
            k_types
            rw [nats_app, List.append_assoc]
            have nru : r ≠ u := fun e => dO_ne _ _ (Option.some.inj (u3.u.symm.trans (e ▸ r3)))
            exact hF _ _ ⟨by (first | exact e1 | (k_units; exact e1)), by (first | exact e2 | (k_units; exact e2)), by (first | exact e3 | (k_units; exact e3)), by (first | exact e4 | (k_units; exact e4)), k3.fr hrf, (upd_ne nbr).trans b3, done ++ [i], todo, A ++ [i], f1', rfl, (upd_ne nwr).trans w3, upd_self .., s1 (by simpa using hc), as2, u3.other nru (.inl rfl)⟩
          · k_typeOf
            exact hF _ _ ⟨by (first | exact e1 | (k_units; exact e1)), by (first | exact e2 | (k_units; exact e2)), by (first | exact e3 | (k_units; exact e3)), by (first | exact e4 | (k_units; exact e4)), k3, b3, done ++ [i], todo, A, f1', rfl, w3, r3, s2 (by simpa using hc), as2, u3⟩
      · obtain ⟨e1, e2, e3, e4, k2, b2, done, todo, A, f1, f2, f3, f4, f5, as2, f6⟩ := hI
        have ht : todo = [] := by cases todo with
          | nil => rfl
          | cons _ _ => cases f2
        subst ht
        rw [List.append_nil] at f1
        subst f1
        obtain ⟨o1, o2⟩ := hnx A f5
        refine ⟨items_list b2, ?_⟩
        k_typeOf
        row_witness_with e4
        k_typeOf
        exact hF _ _ ⟨R ++ A, T + 1, ⟨by (first | exact e1 | (k_units; exact e1)), by (first | exact e2 | (k_units; exact e2)), by (first | exact e3 | (k_units; exact e3)), by k_units; simp, k2, by rw [o2]; exact f3, f4, ⟨as2, f6⟩, o1⟩, by k_data⟩
    · have hge : ¬ T < R.length := by simpa using hc
      k_typeOf
      row_witness_with h.ready
      k_typeOf
      refine q R τ h.k h.hr ?_
      have : T = R.length := by k_data
      rw [← this]; exact h.oi

theorem orderedC {d : Addr} (h : NetAt σ t N) (g : N.Good) (hd : σ d = some (dO (drv N.cs.length)))
    (q : ∀ r R τ, Keep [] σ τ → σ r = none → τ r = some (.list (nats R)) → OI N R R.length → Q (.ref r) τ) : CallS prog w (lib w.params) (n + 2) 189 [.ref t.p.a, .ref d] σ Q := by
  refine fnCall0 (kOrdered w.params) rfl ?_
  refine blk_at 5 (ord1 h g hd fun l u wa r τ as hl k nuw hw hr hus r0 wa0 u0 => ?_)
  refine ord2 g h.len hl.users hl.waiting hl.ready k nuw wa0 r0 u0 hw hr ⟨as, hus⟩ fun R τ' k' hr' ho => ?_
  exact q r R τ' k' r0 hr' ho

theorem combOrderC (h : NetAt σ t N) (g : N.Good)
    (q : ∀ r R τ, Keep [] σ τ → σ r = none → τ r = some (.list (nats R)) → OI N R R.length → Q (.ref r) τ) : CallS prog w (lib w.params) (n + 3) 196 [.ref t.p.a] σ Q := by
  refine fnCall0 (kCombOrder w.params) rfl ?_
  have hlen := h.len
  k_typeOf
  refine driversC h g fun f τ1 k1 z1 g1 => ?_
  have h1 := h.keep0 k1
  k_typeOf
  refine orderedC h1 g g1 fun r R τ2 k2 z2 g2 ho => ?_
  have h2 := h1.keep0 k2
  have hR := ho.fullLen g
  k_typeOf
  o_head g2
  refine ⟨by simp; k_data, ?_⟩
  k_typeOf
  refine stateCellsC h2 fun c τ3 k3 z3 g3 => ?_
  have h3 := h2.keep0 k3
  k_typeOf
  o_head g3
  k_typeOf
  o_head h3.r.ns
  k_typeOf
  o_head h3.r.c
  refine ⟨by simp; k_data, ?_⟩
  k_types
  try (refine Br.ffd (by simp; k_data) ?_)
  k_typeOf
  exact q r R τ3 ((k1.trans k2).trans k3) (k1.fresh z2) (k3.get g2 (by simp)) ho
end


/-! ### what a netlist means -/
noncomputable def baseV (b1 b2 b3 : Bool) (x : Int) : Bool := if x = 1 then true else if x = 2 then b1 else if x = 3 then b2 else if x = 4 then b3 else false
noncomputable def envF (e : Int → Bool) (cs : List (Kd × Int × List Int)) : Int → Bool := cs.foldl (fun e c x => if x = c.2.1 then c.1.sem (c.2.2.map e) else e x) e
noncomputable def Nt.env (N : Nt) (b1 b2 b3 : Bool) : Int → Bool := envF (baseV b1 b2 b3) N.cs
theorem envF_app (e : Int → Bool) (s t) : envF e (s ++ t) = envF (envF e s) t := by unfold envF; rw [List.foldl_append]
theorem Nt.env_take {N : Nt} (g : N.Good) (e : Int → Bool) : ∀ (m k : Nat) (x : Int), k ≤ m → m ≤ N.cs.length → x < 5 + (k : Int) → envF e (N.cs.take m) x = envF e (N.cs.take k) x := by
  intro m
  induction m with
  | zero => intro k x hk hm hx; have : k = 0 := by k_data
            subst this; rfl
  | succ m ih =>
    intro k x hk hm hx
    by_cases hkm : k = m + 1
    · subst hkm; rfl
    · rw [List.take_add_one, List.getElem?_eq_getElem (by k_data), envF_app]
      have ho := g.out m _ (List.getElem?_eq_getElem (by k_data))
      show (if x = _ then _ else envF e (N.cs.take m) x) = _
      rw [if_neg (by rw [ho]; k_data)]
      exact ih k x (by k_data) (by k_data) hx
theorem Nt.env_low {N : Nt} (g : N.Good) (b1 b2 b3 : Bool) {x : Int} (hx : x < 5) : N.env b1 b2 b3 x = baseV b1 b2 b3 x := by
  have := N.env_take g (baseV b1 b2 b3) N.cs.length 0 x (by k_data) (Nat.le_refl _) (by k_data)
  rw [List.take_length] at this
  exact this
theorem Nt.env_cell {N : Nt} (g : N.Good) (b1 b2 b3 : Bool) {i : Nat} {c} (hc : N.cs[i]? = some c) : N.env b1 b2 b3 (5 + (i : Int)) = c.1.sem (c.2.2.map (N.env b1 b2 b3)) := by
  obtain ⟨hi, he⟩ := List.getElem?_eq_some_iff.mp hc
  have h1 := N.env_take g (baseV b1 b2 b3) N.cs.length (i + 1) (5 + (i : Int)) (by k_data) (Nat.le_refl _) (by k_data)
  rw [List.take_length] at h1
  unfold Nt.env
  rw [h1, List.take_add_one, hc, envF_app]
  show (if 5 + (i : Int) = c.2.1 then _ else _) = _
  rw [if_pos (g.out i c hc).symm]
  congr 1
  refine List.map_congr_left fun x hx => ?_
  have h2 := N.env_take g (baseV b1 b2 b3) N.cs.length i x (by k_data) (Nat.le_refl _) (g.ins i c hc x hx).2
  rw [List.take_length] at h2
  exact h2.symm

section
variable {K : Type} [DecidableEq K]
theorem look_app {es : List (K × AV)} {k : K} (v : AV) (x : K) (h : lookK es k = none) : lookK (es ++ [(k, v)]) x = if x = k then some v else lookK es x := by
  induction es with
  | nil =>
    rw [List.nil_append, look_cons]
    by_cases z : x = k
    · rw [if_pos z, if_pos z.symm]
    · rw [if_neg z, if_neg fun e => z e.symm]
  | cons p r ih =>
    rw [look_cons] at h
    by_cases q : p.1 = k
    · rw [if_pos q] at h; exact nS h.symm
    · rw [if_neg q] at h
      rw [List.cons_append, look_cons, look_cons, ih h]
      by_cases z : p.1 = x
      · subst z; rw [if_pos rfl, if_pos rfl, if_neg q]
      · rw [if_neg z, if_neg z]
theorem look_map_ne (es : List (K × AV)) {k x : K} (v : AV) (h : x ≠ k) : lookK (es.map fun p => if p.1 = k then (p.1, v) else p) x = lookK es x := by
  induction es with
  | nil => rfl
  | cons p r ih =>
    rw [List.map_cons]
    by_cases q : p.1 = k
    · have ne : p.1 ≠ x := fun e => h (e.symm.trans q)
      rw [if_pos q, look_cons, look_cons, if_neg ne, if_neg ne, ih]
    · rw [if_neg q, look_cons, look_cons, ih]
theorem look_map_same {es : List (K × AV)} {k : K} {b : AV} (v : AV) (h : lookK es k = some b) : lookK (es.map fun p => if p.1 = k then (p.1, v) else p) k = some v := by
  induction es with
  | nil => exact nS h
  | cons p r ih =>
    rw [List.map_cons]
    by_cases q : p.1 = k
    · rw [if_pos q, look_cons, if_pos q]
    · rw [look_cons, if_neg q] at h
      rw [if_neg q, look_cons, if_neg q]
      exact ih h
theorem lookK_put (es : List (K × AV)) (k : K) (v : AV) (x : K) : lookK (putK es k v) x = if x = k then some v else lookK es x := by
  unfold putK
  rw [look_any]
  cases h : lookK es k with
  | none => rw [if_neg (show ¬ (none : Option AV).isSome = true from Bool.false_ne_true)]; exact look_app v x h
  | some b =>
    rw [if_pos (show (some b).isSome = true from rfl)]
    by_cases z : x = k
    · subst z; rw [if_pos rfl]; exact look_map_same v h
    · rw [if_neg z]; exact look_map_ne es v z
theorem hasK_put (es : List (K × AV)) (k : K) (v : AV) (x : K) : hasK (putK es k v) x = (decide (x = k) || hasK es x) := by
  unfold hasK
  rw [lookK_put]
  by_cases h : x = k <;> simp [h]
theorem putK_len (es : List (K × AV)) (k : K) (v : AV) : (putK es k v).length ≤ es.length + 1 := by
  unfold putK
  split <;> simp
end

structure Li where
  a : Int
  b : Int
  c : Int
noncomputable def Li.env (L : Li) (g : G) (N : Nt) (α : Nat → Bool) : Int → Bool := N.env (g.lit α L.a) (g.lit α L.b) (g.lit α L.c)
structure Li.In (L : Li) (g : G) : Prop where
  a : g.In L.a
  b : g.In L.b
  c : g.In L.c
theorem Li.In.ext {L : Li} {g g' : G} (h : L.In g) (e : Ext g g') : L.In g' := ⟨h.a.ext e, h.b.ext e, h.c.ext e⟩
theorem Li.env_ext {L : Li} {g g' : G} {N : Nt} (h : L.In g) (e : Ext g g') (α) : L.env g' N α = L.env g N α := by
  unfold Li.env
  rw [lit_ext h.a e, lit_ext h.b e, lit_ext h.c e]
/-- a literal that bears a net's value -/
structure Bears (g : G) (N : Nt) (L : Li) (x l : Int) : Prop where
  inn : g.In l
  val : ∀ α, α 0 = false → g.lit α l = L.env g N α x
theorem Bears.ext {g g' : G} {N : Nt} {L : Li} {x l : Int} (h : Bears g N L x l) (hL : L.In g) (e : Ext g g') : Bears g' N L x l :=
  ⟨h.inn.ext e, fun α hα => by rw [lit_ext h.inn e, h.val α hα, Li.env_ext hL e]⟩
noncomputable def Kn (g : G) (N : Nt) (L : Li) (es : List (Int × AV)) : Prop := ∀ x v, lookK es x = some v → ∃ l, v = .int l ∧ Bears g N L x l
theorem Kn.ext {g g' : G} {N : Nt} {L : Li} {es} (h : Kn g N L es) (hL : L.In g) (e : Ext g g') : Kn g' N L es := fun x v z =>
  let ⟨l, a, b⟩ := h x v z; ⟨l, a, b.ext hL e⟩
theorem Kn.put {g : G} {N : Nt} {L : Li} {es} (h : Kn g N L es) {x l : Int} (b : Bears g N L x l) : Kn g N L (putK es x (.int l)) := fun y v z => by
  rw [lookK_put] at z
  split at z
  · rename_i e; subst e; cases z; exact ⟨l, rfl, b⟩
  · exact h y v z
theorem Kn.get {g : G} {N : Nt} {L : Li} {es} (h : Kn g N L es) {x : Int} (hx : hasK es x = true) : ∃ l, lookK es x = some (.int l) ∧ Bears g N L x l := by
  unfold hasK at hx
  obtain ⟨v, hv⟩ := Option.isSome_iff_exists.mp hx
  obtain ⟨l, rfl, b⟩ := h x v hv
  exact ⟨l, hv, b⟩
/-- the first entries -/
noncomputable def kn0 (L : Li) : List (Int × AV) := [(0, .int 0), (1, .int 1), (2, .int L.a), (3, .int L.b), (4, .int L.c)]
theorem Kn.init {g : G} {N : Nt} {L : Li} (w : g.WF) (gd : N.Good) (hL : L.In g) : Kn g N L (kn0 L) := fun x v h => by
  have e : ∀ y, y < 5 → ∀ α, L.env g N α y = baseV (g.lit α L.a) (g.lit α L.b) (g.lit α L.c) y := fun y hy α => Nt.env_low gd _ _ _ hy
  have one : ∀ (y l : Int), y < 5 → g.In l → (∀ α, α 0 = false → g.lit α l = baseV (g.lit α L.a) (g.lit α L.b) (g.lit α L.c) y) → y = x → AV.int l = v → ∃ l, v = .int l ∧ Bears g N L x l := fun y l hy hl hv e1 e2 =>
    ⟨l, e2.symm, e1 ▸ ⟨hl, fun α hα => (hv α hα).trans (e y hy α).symm⟩⟩
  unfold kn0 at h
  rw [look_cons, look_cons, look_cons, look_cons, look_cons] at h
  exact iElse h (one 0 0 (by decide) w.In0 fun α hα => w.lit0 hα) fun h => iElse h (one 1 1 (by decide) w.In1 fun α hα => w.lit1 hα) fun h => iElse h (one 2 L.a (by decide) hL.a fun _ _ => rfl) fun h =>
    iElse h (one 3 L.b (by decide) hL.b fun _ _ => rfl) fun h => iElse h (one 4 L.c (by decide) hL.c fun _ _ => rfl) fun h => nS h

noncomputable def NtP.lists (t : NtP) : List Addr := [t.p.ia, t.p.oa, t.p.ca, t.b1, t.b2, t.b3, t.c1, t.c2]
theorem NetAt.keepG {σ τ : AH} {t : NtP} {N : Nt} {p : AP} {g : G} (h : NetAt σ t N) (ha : AigAt σ p g) (hs : p.na ∉ t.lists) (k : Keep [p.na, p.ta] σ τ) : NetAt τ t N := by
  simp only [NtP.lists, List.mem_cons, List.not_mem_nil, or_false, not_or] at hs
  obtain ⟨s1, s2, s3, s4, s5, s6, s7, s8⟩ := hs
  have ls : ∀ {a xs}, σ a = some (.list xs) → p.na ≠ a → a ∉ [p.na, p.ta] := fun {a xs} e n m => by
    simp only [List.mem_cons, List.not_mem_nil, or_false] at m
    rcases m with m | m
    · exact n m.symm
    · rw [m, ha.t] at e; exact g.tO_ne _ (Option.some.inj e)
  have n1 : t.p.a ∉ [p.na, p.ta] := fun m => by
    simp only [List.mem_cons, List.not_mem_nil, or_false] at m
    rcases m with m | m
    · have := h.r.a; rw [m, ha.n] at this; cases this
    · have := h.r.a; rw [m, ha.t] at this; exact g.tO_ne2 _ _ (Option.some.inj this)
  have n2 : t.p.d ∉ [p.na, p.ta] := fun m => by
    simp only [List.mem_cons, List.not_mem_nil, or_false] at m
    rcases m with m | m
    · have := h.r.d; rw [m, ha.n] at this; cases this
    · have := h.r.d; rw [m, ha.t] at this; exact g.tO_ne3 _ (Option.some.inj this)
  exact ⟨⟨k.get h.r.a n1, k.get h.r.d n2, k.get h.r.i (ls h.r.i s1), k.get h.r.o (ls h.r.o s2), k.get h.r.c (ls h.r.c s3), h.r.io, h.r.ic, h.r.oc⟩,
    k.get h.b1 (ls h.b1 s4), k.get h.b2 (ls h.b2 s5), k.get h.b3 (ls h.b3 s6), k.get h.c1 (ls h.c1 s7), k.get h.c2 (ls h.c2 s8), h.len⟩


section
variable {prog : Program} {w : World} {n : Nat} {σ : AH} {Q : AV → AH → Prop} {t : NtP} {N : Nt} {p : AP} {g : G} {m : Nat} {L : Li}

theorem depOf_some {x : Int} {j : Nat} (h : depOf x = some j) : x = 5 + (j : Int) := by
  unfold depOf at h
  split at h
  · simp at h; k_data
  · cases h
theorem depOf_low {x : Int} (h : depOf x = none) : x < 5 := by
  unfold depOf at h
  split at h
  · cases h
  · k_data
/-- what is known so far -/
structure KS (t : NtP) (N : Nt) (L : Li) (p : AP) (d : Addr) (m : Nat) (σ : AH) (R : List Nat) (k : Nat) (τ : AH) (g0 g : G) (es : List (Int × AV)) : Prop where
  aig : AigAt τ p g
  ok : g.OkN (m + 3 * k)
  wf : g.WF
  ext : Ext g0 g
  li : L.In g
  net : NetAt τ t N
  keep : Keep [p.na, p.ta] σ τ
  d : τ d = some (.dictI es)
  kn : Kn g N L es
  len : es.length ≤ 5 + k
  low : ∀ x : Int, 0 ≤ x → x < 5 → hasK es x = true
  hi : ∀ j ∈ R.take k, hasK es (5 + (j : Int)) = true

theorem kn0_step {k : Nat} (hk : k < 3) : ∃ l, idxOf [AV.int 2, .int 3, .int 4] (k : Int) = some (.int (2 + (k : Int))) ∧ idxOf [AV.int L.a, .int L.b, .int L.c] (k : Int) = some (.int l) ∧ putK ((kn0 L).take (2 + k)) (2 + (k : Int)) (.int l) = (kn0 L).take (2 + (k + 1)) := by
  match k, hk with
  | 0, _ => exact ⟨L.a, rfl, rfl, rfl⟩
  | 1, _ => exact ⟨L.b, rfl, rfl, rfl⟩
  | 2, _ => exact ⟨L.c, rfl, rfl, rfl⟩
theorem All2.mapEq {β : Type} {R : Int → Int → Prop} {f h : Int → β} {as bs : List Int} (r : All2 R as bs) (e : ∀ a b, R a b → h b = f a) : bs.map h = as.map f := by
  induction r with
  | nil => rfl
  | cons x _ ih => rw [List.map_cons, List.map_cons, e _ _ x, ih]
theorem All2.memR {R : Int → Int → Prop} {as bs : List Int} (r : All2 R as bs) : ∀ b ∈ bs, ∃ a, R a b := by
  induction r with
  | nil => intro b h; cases h
  | cons x _ ih =>
    intro b h
    rcases List.mem_cons.mp h with rfl | h
    · exact ⟨_, x⟩
    · exact ih b h
structure AL (t : NtP) (p : AP) (d : Addr) (l : Loc) : Prop where
  aig : l "aig" = some (.ref p.a)
  net : l "netlist" = some (.ref t.p.a)
  known : l "known" = some (.ref d)
theorem addLogicC {a : Addr} (h : AigAt σ p g) (ok : g.OkN m) (hm : m ≤ 800) (wf : g.WF) (gd : N.Good) (hn : NetAt σ t N) (hs : p.na ∉ t.lists) (ha : σ a = some (.list [.int L.a, .int L.b, .int L.c])) (hL : L.In g)
    (q : ∀ f x y g' τ, AigAt τ p g' → g'.OkN (m + 15) → g'.WF → Ext g g' → Keep [p.na, p.ta] σ τ → σ f = none → τ f = some (.list [.int x, .int y]) → Bears g' N L N.y1 x → Bears g' N L N.y2 y → Q (.ref f) τ) :
    CallS prog w (lib w.params) (n + 5) 370 [.ref p.a, .ref t.p.a, .ref a] σ Q := by
  refine fnCall0 (kAddLogic w.params) rfl ?_
  have hlen := hn.len
  k_typeOf
  (first | refine fun d hd => ?_ | (k_types; intro d hd))
  k_types
  have kd : Keep [] σ (upd σ d (.dictI [(0, .int 0), (1, .int 1)])) := Keep.new hd
  have n0 := hn.keep0 kd
  have a0 := h.keep0 kd
  rw [show (putAll [] ((fun (x : List (Int × AV)) => (0, AV.int 0) :: x) ((fun (x : List (Int × AV)) => (1, AV.int 1) :: x) []))) = [(0, .int 0), (1, .int 1)] from rfl]
  rw [n0.r.ns]
  k_typeOf
  refine sourcesC n0 fun c τ1 k1 z1 g1 => ?_
  have n1 := n0.keep0 k1
  have a1 := a0.keep0 k1
  have d1 : τ1 d = some (.dictI [(0, .int 0), (1, .int 1)]) := k1.get (upd_self ..) (by simp)
  have ha1 : τ1 a = some (.list [.int L.a, .int L.b, .int L.c]) := k1.get (kd.get ha (by simp)) (by simp)
  rw [gd.v1, gd.v2, gd.v3] at g1
  have kA : Keep [] σ τ1 := kd.trans k1
  k_typeOf
  o_head g1
  k_types
  refine .inr ⟨_, items_rng (k := 3) (by decide), ?_⟩
  have kB : Keep [d] σ τ1 := kA.weaken (by simp)
  have nda : d ≠ a := by first | exact nes ha hd | exact nes' ha hd | (rintro rfl; rw [ha] at hd; cases hd)
  have ndc : d ≠ c := by first | exact nes g1 d1 | exact nes' g1 d1 | (rintro rfl; rw [g1] at d1; cases d1)
  refine forL_inv (fun rest l τ => A5 (AL t p d l) (l "sources" = some (.ref c)) (l "literals" = some (.ref a)) (Keep [d] τ1 τ) (∃ k, A3 (k ≤ 3) (rest = ((List.range 3).drop k).map (fun (i : Nat) => AV.int (i : Int))) (τ d = some (.dictI ((kn0 L).take (2 + k)))))) (fun v vs l τ F hI hF => ?_) (fun l τ hI => ?_) _ _ _ ⟨⟨rfl, rfl, rfl⟩, rfl, rfl, Keep.refl, 0, by decide, rfl, d1⟩
  · obtain ⟨hl, e1, e2, k2, k, hk, e3, e4⟩ := hI
    cases hd' : (List.range 3).drop k with
    | nil => rw [hd'] at e3; cases e3
    | cons i r' =>
      obtain ⟨hp, rfl⟩ := drop_cons hd'
      rw [hd'] at e3
      cases e3
      obtain ⟨hi, hi2⟩ := List.getElem?_eq_some_iff.mp hp
      simp only [List.getElem_range] at hi2
      subst hi2
      simp only [List.length_range] at hi
      obtain ⟨lk, f1, f2, f3⟩ := kn0_step (L := L) hi
      have ha2 := k2.get ha1 (by simpa using nda.symm)
      have hg2 := k2.get g1 (by simpa using ndc.symm)
      refine ⟨items_rng (k := 3) (by decide), _, rfl, ?_⟩
      k_typeOf
      row_witness_with e2
      k_typeOf
      o_head ha2
      refine ⟨by k_data, ?_⟩
      rw [f2]
      k_typeOf
      row_witness_with hl.known
      k_typeOf
      row_witness_with e1
      k_typeOf
      o_head hg2
      refine ⟨by k_data, ?_⟩
      rw [f1]
      k_typeOf
      o_head e4
      k_types
      refine ⟨by simp [kn0]; k_data, ?_⟩
      k_types
      rw [f3]
      exact hF _ _ ⟨⟨by (first | exact hl.aig | (k_units; exact hl.aig)), by (first | exact hl.net | (k_units; exact hl.net)), by (first | exact hl.known | (k_units; exact hl.known))⟩, by (first | exact e1 | (k_units; exact e1)), by (first | exact e2 | (k_units; exact e2)), k2.trans (Keep.put (by simp)), k + 1, by k_data, rfl, upd_self ..⟩
  · obtain ⟨hl, e1, e2, k2, k, hk, e3, e4⟩ := hI
    have hk3 : k = 3 := by
      have := congrArg List.length e3
      simp at this
      k_data
    subst hk3
    refine ⟨items_rng (k := 3) (by decide), ?_⟩
    have kC : Keep [] σ τ := (kB.trans k2).drop hd
    have n2 := hn.keep0 kC
    have a2 := h.keep0 kC
    have e4 : τ d = some (.dictI (kn0 L)) := e4
    clear d1 e1 e2 k2 a1 n1 ha1 g1 z1 k1
    k_typeOf
    row_witness_with hl.net
    k_typeOf
    refine combOrderC n2 gd fun r R τ3 k3 z3 g3 ho => ?_
    have n3 := n2.keep0 k3
    have a3 := a2.keep0 k3
    have d3 := k3.get e4 (by simp)
    have kD : Keep [] σ τ3 := kC.trans k3
    have hRl := ho.fullLen gd
    k_types
    refine .inr ⟨_, items_list g3, ?_⟩
    have nap : ∀ {x}, σ x = none → x ≠ p.na := fun {x} e => by first | exact nes h.n e | exact nes' h.n e | (rintro rfl; rw [h.n] at e; cases e)
    have tap : ∀ {x}, σ x = none → x ≠ p.ta := fun {x} e => by first | exact nes h.t e | exact nes' h.t e | (rintro rfl; rw [h.t] at e; cases e)
    have hrna : r ∉ [p.na, p.ta] := by simp [nap (kC.fresh z3), tap (kC.fresh z3)]
    have hdr : d ≠ r := by first | exact nes e4 z3 | exact nes' e4 z3 | (rintro rfl; rw [e4] at z3; cases z3)
    refine forL_inv (fun rest l τ => A3 (AL t p d l) (τ r = some (.list (nats R))) (X3 fun k g' es => A3 (k ≤ R.length) (rest = (R.drop k).map (fun (i : Nat) => AV.int (i : Int))) (KS t N L p d m σ R k τ g g' es))) (fun v vs l τ F hI hF => ?_) (fun l τ hI => ?_) _ _ _ ⟨hl, g3, 0, g, kn0 L, by k_data, rfl, ⟨a3, ok.up (by k_data), wf, Ext.refl g, hL, n3, kD.weaken (by simp), d3, Kn.init wf gd hL, by simp [kn0], fun x h0 h5 => ?_, by simp⟩⟩
    · obtain ⟨hl, hr3, k, g', es, hk, e3, ks⟩ := hI
      cases hd' : R.drop k with
      | nil => rw [hd'] at e3; cases e3
      | cons i r' =>
        obtain ⟨hp, rfl⟩ := drop_cons hd'
        rw [hd'] at e3
        cases e3
        have hkl := (List.getElem?_eq_some_iff.mp hp).1
        have hi := ho.lt i (List.mem_of_getElem? hp)
        have hen := ho.len
        obtain ⟨c0, hc0, hx⟩ := cell_at hi
        have hout := gd.out i c0 hc0
        have har := gd.ar i c0 hc0
        have har3 : c0.2.2.length ≤ 3 := by rw [har]; cases c0.1 <;> decide
        have hins := gd.ins i c0 hc0
        have htop := ho.top k i hp
        have hdom : ∀ x ∈ c0.2.2, hasK es x = true := fun x hx => by
          have hb := hins x hx
          cases hdx : depOf x with
          | none => exact ks.low x (by k_data) (depOf_low hdx)
          | some j =>
            rw [depOf_some hdx]
            refine ks.hi j (htop j ?_)
            unfold Nt.dp
            rw [hc0]
            exact List.mem_filterMap.mpr ⟨x, hx, hdx⟩
        refine ⟨items_list hr3, _, rfl, ?_⟩
        k_typeOf
        row_witness_with hl.net
        k_typeOf
        o_head ks.net.r.ns
        k_typeOf
        o_head ks.net.r.c
        refine ⟨by k_data, ?_⟩
        rw [hx]
        k_typeOf
        (first | refine fun ro hro => ?_ | (k_types; intro ro hro))
        k_types
        refine .inr ⟨_, rfl, ?_⟩
        have ndo : d ≠ ro := by first | exact nes ks.d hro | exact nes' ks.d hro | (rintro rfl; rw [ks.d] at hro; cases hro)
        have kk : Keep [ro] τ (upd τ ro (.list [])) := Keep.put (by simp)
        refine forL_inv (fun rest l τ' => A7 (AL t p d l) (l "row" = some (.ref ro)) (l "kind" = some (.str c0.1.str)) (l "param" = some .none) (l "out" = some (.int c0.2.1)) (Keep [ro] τ τ') (X3 fun done todo lits => A4 (c0.2.2 = done ++ todo) (rest = todo.map AV.int) (τ' ro = some (.list (lits.map AV.int))) (All2 (Bears g' N L) done lits))) (fun v vs l τ' F' hI hF' => ?_) (fun l τ' hI => ?_) _ _ _ ⟨⟨by (first | exact hl.aig | (k_units; exact hl.aig)), by (first | exact hl.net | (k_units; exact hl.net)), by (first | exact hl.known | (k_units; exact hl.known))⟩, rfl, rfl, rfl, rfl, kk, [], c0.2.2, [], rfl, rfl, upd_self .., .nil⟩
        · obtain ⟨hl, e1, e2, e4, e5, k4, done, todo, lits, f1, f2, f3, f4⟩ := hI
          cases todo with
          | nil => cases f2
          | cons x todo =>
            cases f2
            have hxm : x ∈ c0.2.2 := by rw [f1]; simp
            obtain ⟨lx, hlx, hbx⟩ := ks.kn.get (hdom x hxm)
            have f1' : c0.2.2 = (done ++ [x]) ++ todo := by rw [f1]; simp
            have d4 := k4.get ks.d (by simpa using ndo)
            have hll := f4.length
            have hdl : done.length ≤ 3 := by have := congrArg List.length f1; simp at this ⊢; k_data
            refine ⟨rfl, _, rfl, ?_⟩
            k_typeOf
            row_witness_with e1
            k_typeOf
            o_head (nsAt_list f3)
            k_types
            refine ⟨by rw [f3]; rfl, ?_⟩
            k_typeOf
            row_witness_with hl.known
            k_typeOf
            refine literalOfC d4 rfl hlx ?_
            k_typeOf
            o_head f3
            refine ⟨by simp; k_data, ?_⟩
            k_typeOf
            exact hF' _ _ ⟨⟨by (first | exact hl.aig | (k_units; exact hl.aig)), by (first | exact hl.net | (k_units; exact hl.net)), by (first | exact hl.known | (k_units; exact hl.known))⟩, by (first | exact e1 | (k_units; exact e1)), by (first | exact e2 | (k_units; exact e2)), by (first | exact e4 | (k_units; exact e4)), by (first | exact e5 | (k_units; exact e5)), k4.trans (Keep.put (by simp)), done ++ [x], todo, lits ++ [lx], f1', rfl, by rw [upd_self]; simp, f4.append (.cons hbx .nil)⟩
        · obtain ⟨hl, e1, e2, e4, e5, k4, done, todo, lits, f1, f2, f3, f4⟩ := hI
          have ht : todo = [] := by cases todo with
            | nil => rfl
            | cons _ _ => cases f2
          subst ht
          rw [List.append_nil] at f1
          subst f1
          have k5 : Keep [] τ τ' := k4.drop hro
          have a5 := ks.aig.keep0 k5
          have hll : lits.length = c0.1.ar := by rw [← f4.length]; exact har
          have hin : ∀ x ∈ lits, g'.In x := fun x hx => let ⟨_, b⟩ := f4.memR x hx; b.inn
          have sem := cell_sem ks.wf c0.1 hll hin
          refine ⟨rfl, ?_⟩
          k_typeOf
          row_witness_with hl.aig
          k_typeOf
          row_witness_with e2
          k_typeOf
          row_witness_with e4
          k_typeOf
          row_witness_with e1
          k_typeOf
          refine cellC a5 ks.ok (by k_data) f3 hll fun τ6 a6 k6 => ?_
          k_typeOf
          row_witness_with hl.known
          k_typeOf
          row_witness_with e5
          k_types
          have hdk : Keep [p.na, p.ta] τ τ6 := (k5.weaken (by simp)).trans k6
          have hdna : d ∉ [p.na, p.ta] := by simp [nap hd, tap hd]
          rw [hdk.get ks.d hdna]
          have hlen6 := ks.len
          refine ⟨by k_data, ?_⟩
          k_types
          have hokc := G.cell_ok ks.ok c0.1 lits
          have hb : Bears (g'.cell c0.1 lits).1 N L c0.2.1 (g'.cell c0.1 lits).2 := by
            refine ⟨sem.inn, fun α hα => ?_⟩
            rw [sem.val α hα, hout, Li.env_ext ks.li sem.ext]
            unfold Li.env
            rw [Nt.env_cell gd _ _ _ hc0]
            congr 1
            exact f4.mapEq fun x y b => b.val α hα
          have k7 : Keep [d] τ6 (upd τ6 d (.dictI (putK es c0.2.1 (.int (g'.cell c0.1 lits).2)))) := Keep.put (by simp)
          have na7 : ∀ x ∈ [d], x ≠ p.a ∧ x ≠ p.d ∧ x ≠ p.na ∧ x ≠ p.ia ∧ x ≠ p.oa ∧ x ≠ p.ta := fun x hx => by
            simp only [List.mem_singleton] at hx; subst hx
            exact ⟨ne_of_ao (hdk.get ks.d hdna) a6.a (by simp), ne_of_ao (hdk.get ks.d hdna) a6.d (by simp), ne_of_ao (hdk.get ks.d hdna) a6.n (by simp), ne_of_ao (hdk.get ks.d hdna) a6.i (by simp), ne_of_ao (hdk.get ks.d hdna) a6.o (by simp), tap hd⟩
          have K7 : Keep [p.na, p.ta] σ (upd τ6 d (.dictI (putK es c0.2.1 (.int (g'.cell c0.1 lits).2)))) := (((ks.keep.trans hdk).weaken (S' := [d, p.na, p.ta]) (by simp)).trans (k7.weaken (by simp))).drop hd
          refine hF _ _ ⟨hl, ?_, k + 1, (g'.cell c0.1 lits).1, putK es c0.2.1 (.int (g'.cell c0.1 lits).2), by k_data, rfl, a6.keep k7 na7, hokc.up (by k_data), sem.wf, ks.ext.trans sem.ext, ks.li.ext sem.ext, hn.keepG h hs K7, K7, upd_self .., (ks.kn.ext ks.li sem.ext).put hb, Nat.le_trans (putK_len ..) (by k_data), fun x h0 h5 => ?_, fun j hj => ?_⟩
          · exact (upd_ne hdr.symm).trans (hdk.get hr3 hrna)
          · rw [hasK_put, ks.low x h0 h5, Bool.or_true]
          · rw [hasK_put]
            rw [List.take_add_one, hp] at hj
            rcases List.mem_append.mp hj with hj | hj
            · rw [ks.hi j hj, Bool.or_true]
            · simp at hj; subst hj; rw [hout]; simp
    · obtain ⟨hl, hr3, k, g', es, hk, e3, ks⟩ := hI
      have hkk : k = R.length := by
        have := congrArg List.length e3
        simp at this
        k_data
      subst hkk
      refine ⟨items_list hr3, ?_⟩
      have hfull := ho.full gd
      have hdom : ∀ x, 2 ≤ x → x < 5 + (N.cs.length : Int) → hasK es x = true := fun x h2 h5 => by
        cases hdx : depOf x with
        | none => exact ks.low x (by k_data) (depOf_low hdx)
        | some j =>
          have hj := depOf_some hdx
          rw [hj]
          refine ks.hi j ?_
          rw [List.take_length]
          exact hfull j (by k_data)
      k_typeOf
      (first | refine fun f hf => ?_ | (k_types; intro f hf))
      have kf : Keep [] τ (upd τ f (.list [])) := Keep.new hf
      have nf := ks.net.keep0 kf
      have af := ks.aig.keep0 kf
      k_typeOf
      row_witness_with hl.net
      k_typeOf
      o_head nf.r.ns
      k_typeOf
      refine sinksC nf fun c τ7 k7 z7 g7 => ?_
      have k8 : Keep [] τ τ7 := kf.trans k7
      have f7 : τ7 f = some (.list []) := k7.get (upd_self ..) (by simp)
      have ncf : c ≠ f := by first | exact nes upd_self z7 | exact nes' upd_self z7 | (rintro rfl; rw [upd_self] at z7; cases z7)
      refine .inr ⟨_, items_list g7, ?_⟩
      refine forL_inv (fun rest l τ' => A4 (AL t p d l) (l "found" = some (.ref f)) (Keep [f] τ7 τ') (X3 fun done todo lits => A4 ([N.y1, N.y2] = done ++ todo) (rest = todo.map AV.int) (τ' f = some (.list (lits.map AV.int))) (All2 (Bears g' N L) done lits))) (fun v vs l τ' F' hI hF' => ?_) (fun l τ' hI => ?_) _ _ _ ⟨⟨by (first | exact hl.aig | (k_units; exact hl.aig)), by (first | exact hl.net | (k_units; exact hl.net)), by (first | exact hl.known | (k_units; exact hl.known))⟩, rfl, Keep.refl, [], [N.y1, N.y2], [], rfl, rfl, f7, .nil⟩
      · obtain ⟨hl, e1, k9, done, todo, lits, f1, f2, f3, f4⟩ := hI
        cases todo with
        | nil => cases f2
        | cons x todo =>
          cases f2
          have hxm : x ∈ [N.y1, N.y2] := by rw [f1]; simp
          have hxd : hasK es x = true := by
            simp only [List.mem_cons, List.not_mem_nil, or_false] at hxm
            rcases hxm with rfl | rfl
            · exact hdom _ gd.y1.1 gd.y1.2
            · exact hdom _ gd.y2.1 gd.y2.2
          obtain ⟨lx, hlx, hbx⟩ := ks.kn.get hxd
          have f1' : [N.y1, N.y2] = (done ++ [x]) ++ todo := by rw [f1]; simp
          have ndf : d ≠ f := by first | exact nes ks.d hf | exact nes' ks.d hf | (rintro rfl; rw [ks.d] at hf; cases hf)
          have d4 := k9.get (k8.get ks.d (by simp)) (by simpa using ndf)
          have g9 := k9.get g7 (by simpa using ncf)
          have hll := f4.length
          have hdl : done.length ≤ 2 := by have := congrArg List.length f1; simp at this ⊢; k_data
          refine ⟨items_list g9, _, rfl, ?_⟩
          k_typeOf
          row_witness_with e1
          k_typeOf
          o_head (nsAt_list f3)
          k_types
          refine ⟨by rw [f3]; rfl, ?_⟩
          k_typeOf
          row_witness_with hl.known
          k_typeOf
          refine literalOfC d4 rfl hlx ?_
          k_typeOf
          o_head f3
          refine ⟨by simp; k_data, ?_⟩
          k_typeOf
          exact hF' _ _ ⟨⟨by (first | exact hl.aig | (k_units; exact hl.aig)), by (first | exact hl.net | (k_units; exact hl.net)), by (first | exact hl.known | (k_units; exact hl.known))⟩, by (first | exact e1 | (k_units; exact e1)), k9.trans (Keep.put (by simp)), done ++ [x], todo, lits ++ [lx], f1', rfl, by rw [upd_self]; simp, f4.append (.cons hbx .nil)⟩
      · obtain ⟨hl, e1, k9, done, todo, lits, f1, f2, f3, f4⟩ := hI
        have ht : todo = [] := by cases todo with
          | nil => rfl
          | cons _ _ => cases f2
        subst ht
        rw [List.append_nil] at f1
        subst f1
        have g9 := k9.get g7 (by simpa using ncf)
        cases f4 with
        | cons b1 r1 =>
          cases r1 with
          | cons b2 r2 =>
            cases r2
            refine ⟨items_list g9, ?_⟩
            k_typeOf
            row_witness_with e1
            k_typeOf
            have kz : Keep [] τ τ' := ((k8.weaken (S' := [f]) (by simp)).trans k9).drop hf
            have hf0 : σ f = none := ks.keep.fresh hf
            exact q f _ _ g' τ' (ks.aig.keep0 kz) (ks.ok.up (by k_data)) ks.wf ks.ext (ks.keep.trans (kz.weaken (by simp))) hf0 f3 b1 b2
    · have : x = 0 ∨ x = 1 ∨ x = 2 ∨ x = 3 ∨ x = 4 := by k_data
      rcases this with rfl | rfl | rfl | rfl | rfl <;> rfl
end


/-! ### the joint graph -/
noncomputable def nmI : Nat → Str | 0 => bn "a" | 1 => bn "b" | _ => bn "c"
noncomputable def shD : Nat → List (Str × AV) | 0 => [] | k + 1 => putK (shD k) (nmI k) (.int (2 * ((k + 1 : Nat) : Int)))
noncomputable def sO (k : Nat) : AO := match k with | 0 => .dict0 | k + 1 => .dictS (shD (k + 1))
theorem sO_asS (k : Nat) : asS (sO k) = some (shD k) := by cases k <;> rfl
theorem sO_len (k : Nat) : (shD k).length ≤ k := by
  induction k with
  | zero => exact Nat.le_refl _
  | succ k ih => exact Nat.le_trans (putK_len ..) (by k_data)
noncomputable def gI : Nat → G | 0 => ⟨[none], [], []⟩ | k + 1 => { gI k with nd := (gI k).nd ++ [none], ins := (gI k).ins ++ [((gI k).nd.length : Int)] }
theorem gI_len (k : Nat) : (gI k).nd.length = k + 1 := by
  induction k with
  | zero => rfl
  | succ k ih => show ((gI k).nd ++ [none]).length = _; rw [List.length_append, ih]; rfl
theorem gI_ins (k : Nat) : (gI k).ins.length = k := by
  induction k with
  | zero => rfl
  | succ k ih => show ((gI k).ins ++ [((gI k).nd.length : Int)]).length = _; rw [List.length_append, ih]; rfl
noncomputable def lts (k : Nat) : List AV := (List.range k).map fun (i : Nat) => AV.int (2 * ((i + 1 : Nat) : Int))
theorem lts_succ (k : Nat) : lts k ++ [.int (2 * ((k + 1 : Nat) : Int))] = lts (k + 1) := by unfold lts; rw [List.range_succ, List.map_append]; rfl
theorem gI_wf : (gI 3).WF := by
  have nd : (gI 3).nd = [none, none, none, none] := rfl
  refine ⟨rfl, fun i l r h => ?_, fun q hq => by cases hq⟩
  rw [nd] at h
  match i, h with
  | 0, h => cases h
  | 1, h => cases h
  | 2, h => cases h
  | 3, h => cases h
  | i + 4, h => cases h
noncomputable abbrev L1 : Li := ⟨2, 4, 6⟩
noncomputable abbrev L2 : Li := ⟨6, 2, 4⟩
theorem L1_in : L1.In (gI 3) := ⟨⟨by decide, by decide⟩, ⟨by decide, by decide⟩, ⟨by decide, by decide⟩⟩
theorem L2_in : L2.In (gI 3) := ⟨⟨by decide, by decide⟩, ⟨by decide, by decide⟩, ⟨by decide, by decide⟩⟩
noncomputable abbrev nm2 : List Str := [bn "c", bn "a", bn "b"]
noncomputable abbrev ot2 : List AV := [.int 6, .int 2, .int 4]
theorem shA : lookK (shD 3) (bn "a") = some (.int 2) := by kernel_rfl
theorem shB : lookK (shD 3) (bn "b") = some (.int 4) := by kernel_rfl
theorem shC : lookK (shD 3) (bn "c") = some (.int 6) := by kernel_rfl
theorem step2 {k : Nat} (hk : k < 3) : ∃ x v, nm2[k]? = some x ∧ hasK (shD 3) x = true ∧ lookK (shD 3) x = some v ∧ ot2.take k ++ [v] = ot2.take (k + 1) := by
  match k, hk with
  | 0, _ => exact ⟨_, _, rfl, by unfold hasK; rw [shC]; rfl, shC, rfl⟩
  | 1, _ => exact ⟨_, _, rfl, by unfold hasK; rw [shA]; rfl, shA, rfl⟩
  | 2, _ => exact ⟨_, _, rfl, by unfold hasK; rw [shB]; rfl, shB, rfl⟩
theorem mem_match {τ : AH} {s : Addr} {o : AO} {x : AV} {b : Bool} {Q : Bool → Prop} (h : τ s = some o) (hm : member x o = some b) (q : Q b) :
    (match τ s with
      | some o => (match member x o with | some r => Q r | none => False)
      | none => False) := by
  rw [h]
  show (match member x o with | some r => Q r | none => False)
  rw [hm]
  exact q
section
variable {prog : Program} {w : World} {n : Nat} {σ : AH} {Q : AV → AH → Prop} {t t2 : NtP} {N N2 : Nt}
structure JL (t t2 : NtP) (p : AP) (l : Loc) : Prop where
  aig : l "aig" = some (.ref p.a)
  n1 : l "n1" = some (.ref t.p.a)
  n2 : l "n2" = some (.ref t2.p.a)

theorem joint1 {K : Kont} (h1 : NetAt σ t N) (f1 : N.First)
    (q : ∀ l p s a τ, JL t t2 p l → l "shared" = some (.ref s) → l "literals" = some (.ref a) → AigAt τ p (gI 3) → Keep [] σ τ → σ p.na = none → σ p.ia = none → σ p.ta = none → τ s = some (sO 3) → τ a = some (.list (lts 3)) → a ≠ p.na → s ≠ p.na → s ≠ p.ta → K.next l τ) :
    blk (sk20 prog w (n + 6) dJointAig.scope.names) (dJointAig.body.take 4) (argLoc ["n1", "n2"] [.ref t.p.a, .ref t2.p.a]) σ K := by
  k_typeOf
  refine aigC fun p τ1 a1 k1 zn zi zt => ?_
  k_typeOf
  (first | refine fun s hs => ?_ | (k_types; intro s hs))
  k_typeOf
  (first | refine fun a ha => ?_ | (k_types; intro a ha))
  k_types
  have k2 : Keep [] τ1 (upd (upd τ1 s .dict0) a (.list [])) := (Keep.new hs).trans (Keep.new ha)
  have a2 := a1.keep0 k2
  have n2 := h1.keep0 (k1.trans k2)
  obtain ⟨nas, a0⟩ := upd_none ha
  have s2 : upd (upd τ1 s .dict0) a (.list []) s = some (sO 0) := (upd_ne nas.symm).trans (upd_self ..)
  have l2 : upd (upd τ1 s .dict0) a (.list []) a = some (.list (lts 0)) := upd_self ..
  revert a2 n2 s2 l2 k2
  generalize upd (upd τ1 s .dict0) a (.list []) = τ2
  intro k2 a2 n2 s2 l2
  have nan : a ≠ p.na := by first | exact nes a1.n a0 | exact nes' a1.n a0 | (rintro rfl; rw [a1.n] at a0; cases a0)
  have nai : a ≠ p.ia := by first | exact nes a1.i a0 | exact nes' a1.i a0 | (rintro rfl; rw [a1.i] at a0; cases a0)
  have nsn : s ≠ p.na := by first | exact nes a1.n hs | exact nes' a1.n hs | (rintro rfl; rw [a1.n] at hs; cases hs)
  have nsi : s ≠ p.ia := by first | exact nes a1.i hs | exact nes' a1.i hs | (rintro rfl; rw [a1.i] at hs; cases hs)
  have nst : s ≠ p.ta := by first | exact nes a1.t hs | exact nes' a1.t hs | (rintro rfl; rw [a1.t] at hs; cases hs)
  have nso : s ≠ p.oa := by first | exact nes a1.o hs | exact nes' a1.o hs | (rintro rfl; rw [a1.o] at hs; cases hs)
  have nsa : s ≠ p.a := by first | exact nes a1.a hs | exact nes' a1.a hs | (rintro rfl; rw [a1.a] at hs; cases hs)
  have nsd : s ≠ p.d := by first | exact nes a1.d hs | exact nes' a1.d hs | (rintro rfl; rw [a1.d] at hs; cases hs)
  have nat : a ≠ p.ta := by first | exact nes a1.t a0 | exact nes' a1.t a0 | (rintro rfl; rw [a1.t] at a0; cases a0)
  have nao : a ≠ p.oa := by first | exact nes a1.o a0 | exact nes' a1.o a0 | (rintro rfl; rw [a1.o] at a0; cases a0)
  have naa : a ≠ p.a := by first | exact nes a1.a a0 | exact nes' a1.a a0 | (rintro rfl; rw [a1.a] at a0; cases a0)
  have nad : a ≠ p.d := by first | exact nes a1.d a0 | exact nes' a1.d a0 | (rintro rfl; rw [a1.d] at a0; cases a0)
  refine sourceNamesC n2 f1.short fun c τ3 k3 z3 g3 => ?_
  rw [f1.i1, f1.i2, f1.i3] at g3
  have a3 := a2.keep0 k3
  have s3 := k3.get s2 (by simp)
  have l3 := k3.get l2 (by simp)
  have ncn : c ≠ p.na := by first | exact nes a2.n z3 | exact nes' a2.n z3 | (rintro rfl; rw [a2.n] at z3; cases z3)
  have nci : c ≠ p.ia := by first | exact nes a2.i z3 | exact nes' a2.i z3 | (rintro rfl; rw [a2.i] at z3; cases z3)
  have ncs : c ≠ s := by first | exact nes s2 z3 | exact nes' s2 z3 | (rintro rfl; rw [s2] at z3; cases z3)
  have nca : c ≠ a := by first | exact nes l2 z3 | exact nes' l2 z3 | (rintro rfl; rw [l2] at z3; cases z3)
  refine .inr ⟨_, items_list g3, ?_⟩
  refine forL_inv (fun rest l τ => A5 (JL t t2 p l) (l "shared" = some (.ref s)) (l "literals" = some (.ref a)) (Keep [s, a, p.na, p.ia] τ3 τ) (∃ k, A5 (k ≤ 3) (rest = [AV.str (bn "a"), .str (bn "b"), .str (bn "c")].drop k) (AigAt τ p (gI k)) (τ s = some (sO k)) (τ a = some (.list (lts k))))) (fun v vs l τ F hI hF => ?_) (fun l τ hI => ?_) _ _ _ ⟨⟨rfl, rfl, rfl⟩, rfl, rfl, Keep.refl, 0, by decide, rfl, a3, s3, l3⟩
  · obtain ⟨hl, e1, e2, k4, k, hk, e3, e4, e5, e6⟩ := hI
    obtain ⟨hv, rfl⟩ := drop_cons e3.symm
    have hk3 : k < 3 := (List.getElem?_eq_some_iff.mp hv).1
    have hvn : v = .str (nmI k) := by
      match k, hk3, hv with
      | 0, _, hv => cases hv; rfl
      | 1, _, hv => cases hv; rfl
      | 2, _, hv => cases hv; rfl
    subst hvn
    have g4 := k4.get g3 (by simp [ncn, nci, ncs, nca])
    refine ⟨items_list g4, _, rfl, ?_⟩
    k_typeOf
    row_witness_with hl.aig
    k_typeOf
    o_head e4.ns
    k_typeOf
    refine addInC e4 (by rw [gI_len]; k_data) (by rw [gI_ins]; k_data) fun τ5 a5 k5 => ?_
    rw [gI_len]
    have s5 := k5.get e5 (by simp [nsn, nsi])
    have l5 := k5.get e6 (by simp [nan, nai])
    k_typeOf
    row_witness_with e1
    k_typeOf
    o_head s5
    k_typeOf
    o_head sO_asS
    refine ⟨by have := sO_len k; k_data, ?_⟩
    k_types
    rw [show AO.dictS (putK (shD k) (nmI k) (AV.int (2 * ((k + 1 : Nat) : Int)))) = sO (k + 1) from rfl]
    have k6 : Keep [s] τ5 (upd τ5 s (sO (k + 1))) := Keep.put (by simp)
    have a6 := a5.keep k6 (by simp [nsa, nsd, nsn, nsi, nso, nst])
    have s6 : upd τ5 s (sO (k + 1)) s = some (sO (k + 1)) := upd_self ..
    have l6 : upd τ5 s (sO (k + 1)) a = some (.list (lts k)) := (upd_ne nas).trans l5
    revert k6 a6 s6 l6
    generalize upd τ5 s (sO (k + 1)) = τ6
    intro k6 a6 s6 l6
    row_witness_with e2
    k_typeOf
    o_head (nsAt_list l6)
    k_types
    refine ⟨by rw [l6]; rfl, ?_⟩
    k_typeOf
    o_head l6
    refine ⟨by simp [lts]; k_data, ?_⟩
    k_types
    rw [lts_succ]
    refine hF _ _ ⟨⟨by (first | exact hl.aig | (k_units; exact hl.aig)), by (first | exact hl.n1 | (k_units; exact hl.n1)), by (first | exact hl.n2 | (k_units; exact hl.n2))⟩, by (first | exact e1 | (k_units; exact e1)), by (first | exact e2 | (k_units; exact e2)), ((k4.trans (k5.weaken (by simp))).trans (k6.weaken (by simp))).trans (Keep.put (by simp)), k + 1, by k_data, rfl, ?_, (upd_ne nas.symm).trans s6, upd_self ..⟩
    rw [gI_len] at a6
    refine (show AigAt τ6 p (gI (k + 1)) from ?_).keep (Keep.put (S := [a]) (by simp)) (by simp [naa, nad, nan, nai, nao, nat])
    unfold gI
    rw [gI_len]
    exact a6
  · obtain ⟨hl, e1, e2, k4, k, hk, e3, e4, e5, e6⟩ := hI
    have hk3 : k = 3 := by
      have := congrArg List.length e3
      simp at this
      k_data
    subst hk3
    have g4 := k4.get g3 (by simp [ncn, nci, ncs, nca])
    refine ⟨items_list g4, ?_⟩
    k_types
    have kz : Keep [] σ τ := by
      have kz : Keep [s, a, p.na, p.ia] σ τ := (((k1.trans k2).trans k3).weaken (by simp)).trans k4
      have kz : Keep [a, p.na, p.ia] σ τ := kz.drop (k1.fresh hs)
      have kz : Keep [p.na, p.ia] σ τ := kz.drop (k1.fresh a0)
      have kz : Keep [p.ia] σ τ := kz.drop zn
      exact kz.drop zi
    exact q _ p s a τ hl e1 e2 e4 kz zn zi zt e5 e6 nan nsn nst

theorem joint2 {K : Kont} {l : Loc} {p : AP} {s a : Addr} {τ : AH} (h2 : NetAt τ t2 N2) (f2 : N2.Second) (hl : JL t t2 p l) (e1 : l "shared" = some (.ref s)) (e2 : l "literals" = some (.ref a)) (g1 : τ s = some (sO 3))
    (q : ∀ l b τ', JL t t2 p l → l "literals" = some (.ref a) → l "others" = some (.ref b) → Keep [] τ τ' → τ b = none → τ' b = some (.list ot2) → K.next l τ') :
    blk (sk20 prog w (n + 6) dJointAig.scope.names) ((dJointAig.body.drop 4).take 2) l τ K := by
  k_typeOf
  (first | refine fun b hb => ?_ | (k_types; intro b hb))
  have k1 : Keep [] τ (upd τ b (.list [])) := Keep.new hb
  have n2 := h2.keep0 k1
  k_typeOf
  row_witness_with hl.n2
  k_typeOf
  refine sourceNamesC n2 f2.short fun c τ3 k3 z3 g3 => ?_
  rw [f2.i1, f2.i2, f2.i3] at g3
  have s3 := k3.get (k1.get g1 (by simp)) (by simp)
  have b3 := k3.get (upd_self τ b (.list [])) (by simp)
  have ncb : c ≠ b := by first | exact nes upd_self z3 | exact nes' upd_self z3 | (rintro rfl; rw [upd_self] at z3; cases z3)
  have nsb : s ≠ b := by first | exact nes g1 hb | exact nes' g1 hb | (rintro rfl; rw [g1] at hb; cases hb)
  refine .inr ⟨_, items_list g3, ?_⟩
  refine forL_inv (fun rest l τ => A6 (JL t t2 p l) (l "shared" = some (.ref s)) (l "literals" = some (.ref a)) (l "others" = some (.ref b)) (Keep [b] τ3 τ) (∃ k, A3 (k ≤ 3) (rest = (nm2.map AV.str).drop k) (τ b = some (.list (ot2.take k))))) (fun v vs l τ F hI hF => ?_) (fun l τ hI => ?_) _ _ _ ⟨⟨by (first | exact hl.aig | (k_units; exact hl.aig)), by (first | exact hl.n1 | (k_units; exact hl.n1)), by (first | exact hl.n2 | (k_units; exact hl.n2))⟩, by (first | exact e1 | (k_units; exact e1)), by (first | exact e2 | (k_units; exact e2)), by first | rfl | k_units, Keep.refl, 0, by decide, rfl, b3⟩
  · obtain ⟨hl, e1, e2, e3, k4, k, hk, e4, e5⟩ := hI
    obtain ⟨hv, rfl⟩ := drop_cons e4.symm
    have hk3 : k < 3 := (List.getElem?_eq_some_iff.mp hv).1
    obtain ⟨x, u, x1, x2, x3, x4⟩ := step2 hk3
    have hvx : v = .str x := by
      rw [List.getElem?_map, x1] at hv
      cases hv; rfl
    subst hvx
    have g4 := k4.get g3 (by simpa using ncb)
    have s4 := k4.get s3 (by simpa using nsb)
    refine ⟨items_list g4, _, rfl, ?_⟩
    k_typeOf
    row_witness_with e1
    k_types
    refine mem_match s4 (memS x2) ?_
    k_typeOf
    row_witness_with e3
    k_typeOf
    o_head (nsAt_list e5)
    k_types
    refine ⟨by rw [e5]; rfl, ?_⟩
    k_typeOf
    row_witness_with e1
    k_typeOf
    o_head s4
    k_typeOf
    o_head x3
    k_typeOf
    o_head e5
    refine ⟨by simp; k_data, ?_⟩
    k_types
    rw [x4]
    exact hF _ _ ⟨⟨by (first | exact hl.aig | (k_units; exact hl.aig)), by (first | exact hl.n1 | (k_units; exact hl.n1)), by (first | exact hl.n2 | (k_units; exact hl.n2))⟩, by (first | exact e1 | (k_units; exact e1)), by (first | exact e2 | (k_units; exact e2)), by (first | exact e3 | (k_units; exact e3)), k4.trans (Keep.put (by simp)), k + 1, by k_data, rfl, upd_self ..⟩
  · obtain ⟨hl, e1, e2, e3, k4, k, hk, e4, e5⟩ := hI
    have hk3 : k = 3 := by
      have := congrArg List.length e4
      simp at this
      k_data
    subst hk3
    have g4 := k4.get g3 (by simpa using ncb)
    refine ⟨items_list g4, ?_⟩
    k_typeOf
    exact q _ b τ hl e2 e3 ((((k1.trans k3).weaken (S' := [b]) (by simp)).trans k4).drop hb) hb e5

/-- the pairs of the joint graph -/
structure Joint (g : G) (N N2 : Nt) (l1 r1 l2 r2 : Int) : Prop where
  wf : g.WF
  ok : g.OkN 40
  ext : Ext (gI 3) g
  l1 : Bears g N L1 N.y1 l1
  r1 : Bears g N2 L2 N2.y2 r1
  l2 : Bears g N L1 N.y2 l2
  r2 : Bears g N2 L2 N2.y1 r2
theorem gI_ok : (gI 3).OkN 4 := ⟨fun q hq => (by cases hq), by decide, by decide⟩

theorem joint3 {K : Kont} {l : Loc} {p : AP} {a b : Addr} {τ : AH} (h1 : NetAt τ t N) (h2 : NetAt τ t2 N2) (f1 : N.First) (f2 : N2.Second) (d1 : N.Good) (d2 : N2.Good) (hl : JL t t2 p l) (e2 : l "literals" = some (.ref a)) (e3 : l "others" = some (.ref b))
    (ag : AigAt τ p (gI 3)) (s1 : p.na ∉ t.lists) (s2 : p.na ∉ t2.lists) (ga : τ a = some (.list (lts 3))) (gb : τ b = some (.list ot2)) (nb : b ≠ p.na)
    (q : ∀ g c l1 r1 l2 r2 τ', AigAt τ' p g → Keep [p.na, p.ta] τ τ' → τ c = none → τ' c = some (.list [.tup [.int l1, .int r1], .tup [.int l2, .int r2]]) → Joint g N N2 l1 r1 l2 r2 → K.ret (.tup [.ref p.a, .ref c]) τ') :
    blk (sk20 prog w (n + 6) dJointAig.scope.names) (dJointAig.body.drop 6) l τ K := by
  k_typeOf
  row_witness_with hl.aig
  k_typeOf
  row_witness_with hl.n1
  k_typeOf
  row_witness_with e2
  k_typeOf
  refine addLogicC (n := n + 1) (L := L1) ag gI_ok (by decide) gI_wf d1 h1 s1 ga L1_in fun c1 x1 y1 g1 τ1 a1 ok1 wf1 ext1 k1 z1 v1 bx1 by1 => ?_
  have h2' := h2.keepG ag s2 k1
  have h1' := h1.keepG ag s1 k1
  have gb1 := k1.get gb (by
    simp only [List.mem_cons, List.not_mem_nil, or_false, not_or]
    exact ⟨nb, fun e => by rw [e, ag.t] at gb; cases gb⟩)
  k_typeOf
  row_witness_with hl.aig
  k_typeOf
  row_witness_with hl.n2
  k_typeOf
  row_witness_with e3
  k_typeOf
  refine addLogicC (n := n + 1) (L := L2) a1 ok1 (by decide) wf1 d2 h2' s2 gb1 (L2_in.ext ext1) fun c2 x2 y2 g2 τ2 a2 ok2 wf2 ext2 k2 z2 v2 bx2 by2 => ?_
  have h2'' := h2'.keepG a1 s2 k2
  have h1'' := h1'.keepG a1 s1 k2
  have nc1 : c1 ∉ [p.na, p.ta] := by
    simp only [List.mem_cons, List.not_mem_nil, or_false, not_or]
    exact ⟨(by first | exact nes ag.n z1 | exact nes' ag.n z1 | (rintro rfl; rw [ag.n] at z1; cases z1)), (by first | exact nes ag.t z1 | exact nes' ag.t z1 | (rintro rfl; rw [ag.t] at z1; cases z1))⟩
  have v1' := k2.get v1 nc1
  have jt : Joint g2 N N2 x1 y2 y1 x2 := ⟨wf2, ok2.up (by decide), ext1.trans ext2, bx1.ext (L1_in.ext ext1) ext2, by2, by1.ext (L1_in.ext ext1) ext2, bx2⟩
  k_typeOf
  (first | refine fun c hc => ?_ | (k_types; intro c hc))
  have k3 := Keep.new (S := []) (o := .list []) hc
  have n1 := h1''.keep0 k3
  have n2 := h2''.keep0 k3
  have c1v := k3.get v1' (by simp)
  have c2v := k3.get v2 (by simp)
  have a3 := a2.keep0 k3
  k_typeOf
  row_witness_with hl.n1
  k_typeOf
  row_witness_with hl.n2
  k_typeOf
  refine matchedC (n := n + 2) n1 n2 f1 f2 fun d dd τ4 k4 z4 g4 => ?_
  have c1v := k4.get c1v (by simp)
  have c2v := k4.get c2v (by simp)
  have a4 := a3.keep0 k4
  have gc := k4.get (upd_self τ2 c (.list [])) (by simp)
  have n1c : c1 ≠ c := by first | exact nes v1' hc | exact nes' v1' hc | (rintro rfl; rw [v1'] at hc; cases hc)
  have n2c : c2 ≠ c := by first | exact nes v2 hc | exact nes' v2 hc | (rintro rfl; rw [v2] at hc; cases hc)
  have ndc : d ≠ c := by first | exact nes upd_self z4 | exact nes' upd_self z4 | (rintro rfl; rw [upd_self] at z4; cases z4)
  k_types
  refine .inr ⟨_, items_list g4, ?_⟩
  k_typeOf
  (first | refine And.intro (items_list g4) ?_ | (k_types; refine ⟨items_list g4, ?_⟩))
  k_typeOf
  o_head (nsAt_list gc)
  k_types
  refine ⟨by rw [gc]; rfl, ?_⟩
  k_typeOf
  o_head c1v
  k_typeOf
  o_head c2v
  k_typeOf
  o_head gc
  k_types
  have k5 : Keep [c] τ4 (upd τ4 c (.list ([] ++ [.tup [.int x1, .int y2]]))) := Keep.put (by simp)
  have gc5 := upd_self τ4 c (.list ([] ++ [.tup [.int x1, .int y2]]))
  have g5 := k5.get g4 (by simpa using ndc)
  have c15 := k5.get c1v (by simpa using n1c)
  have c25 := k5.get c2v (by simpa using n2c)
  revert k5 gc5 g5 c15 c25
  generalize upd τ4 c (.list ([] ++ [.tup [.int x1, .int y2]])) = τ5
  intro k5 gc5 g5 c15 c25
  refine ⟨items_list g5, ?_⟩
  k_typeOf
  o_head (nsAt_list gc5)
  k_types
  refine ⟨by rw [gc5]; rfl, ?_⟩
  k_typeOf
  o_head c15
  k_typeOf
  o_head c25
  k_typeOf
  o_head gc5
  k_typeOf
  have k6 : Keep [c] τ5 (upd τ5 c (.list ([] ++ [.tup [.int x1, .int y2]] ++ [.tup [.int y1, .int x2]]))) := Keep.put (by simp)
  have g6 := k6.get g5 (by simpa using ndc)
  (first | refine And.intro (items_list g6) ?_ | (k_types; refine ⟨items_list g6, ?_⟩))
  k_typeOf
  row_witness_with hl.aig
  k_typeOf
  have kk : Keep [] τ2 (upd τ5 c (.list ([] ++ [.tup [.int x1, .int y2]] ++ [.tup [.int y1, .int x2]]))) := ((((k3.trans k4).weaken (S' := [c]) (by simp)).trans k5).trans k6).drop hc
  exact q g2 c x1 y2 y1 x2 _ (a2.keep0 kk) ((k1.trans k2).trans (kk.weaken (by simp))) (k1.fresh (k2.fresh hc)) (upd_self ..) jt

theorem jointC (h1 : NetAt σ t N) (h2 : NetAt σ t2 N2) (f1 : N.First) (f2 : N2.Second) (d1 : N.Good) (d2 : N2.Good)
    (q : ∀ p g c l1 r1 l2 r2 τ', AigAt τ' p g → Keep [] σ τ' → σ c = none → σ p.na = none → σ p.ta = none → τ' c = some (.list [.tup [.int l1, .int r1], .tup [.int l2, .int r2]]) → Joint g N N2 l1 r1 l2 r2 → Q (.tup [.ref p.a, .ref c]) τ') :
    CallS prog w (lib w.params) (n + 7) 377 [.ref t.p.a, .ref t2.p.a] σ Q := by
  refine fnCall0 (kJointAig w.params) rfl ?_
  refine blk_at 4 (joint1 h1 f1 fun l p s a τ hl e1 e2 ag k zn zi zt gs ga na ns nt => ?_)
  have n1 := h1.keep0 k
  have n2 := h2.keep0 k
  have lf : ∀ {b xs}, σ b = some (.list xs) → p.na ≠ b := fun {b xs} e => by first | exact nes zn e | exact nes' zn e | (rintro rfl; rw [zn] at e; cases e)
  have s1 : p.na ∉ t.lists := by
    simp only [NtP.lists, List.mem_cons, List.not_mem_nil, or_false, not_or]
    exact ⟨lf h1.r.i, lf h1.r.o, lf h1.r.c, lf h1.b1, lf h1.b2, lf h1.b3, lf h1.c1, lf h1.c2⟩
  have s2 : p.na ∉ t2.lists := by
    simp only [NtP.lists, List.mem_cons, List.not_mem_nil, or_false, not_or]
    exact ⟨lf h2.r.i, lf h2.r.o, lf h2.r.c, lf h2.b1, lf h2.b2, lf h2.b3, lf h2.c1, lf h2.c2⟩
  dsimp only
  refine blk_at 2 (joint2 n2 f2 hl e1 e2 gs fun l b τ2 hl e2 e3 k2 zb gb => ?_)
  have a2 := ag.keep0 k2
  have nbn : b ≠ p.na := by first | exact nes ag.n zb | exact nes' ag.n zb | (rintro rfl; rw [ag.n] at zb; cases zb)
  dsimp only
  refine joint3 (n1.keep0 k2) (n2.keep0 k2) f1 f2 d1 d2 hl e2 e3 a2 s1 s2 (k2.get ga (by simp)) gb nbn fun g c l1 r1 l2 r2 τ3 a3 k3 zc gc jt => ?_
  have kk : Keep [p.na, p.ta] σ τ3 := ((k.trans k2).weaken (by simp)).trans k3
  have kk : Keep [p.ta] σ τ3 := kk.drop zn
  have kk : Keep [] σ τ3 := kk.drop zt
  exact q p g c l1 r1 l2 r2 τ3 a3 kk (k.fresh (k2.fresh zc)) zn zt gc jt
end


/-! ### cones and clauses -/
noncomputable abbrev bls (l : List Bool) : List AV := l.map AV.bool
theorem bls_set (us : List Bool) (i : Nat) (b : Bool) : (bls us).set i (.bool b) = bls (us.set i b) := by simp [bls, List.map_set]
theorem bls_get {us : List Bool} {i : Nat} (h : i < us.length) : idxOf (bls us) (i : Int) = some (.bool (us.getD i false)) := by
  refine idx_nat ?_
  simp [bls, h]
theorem fdiv2 {x : Int} (h : 0 ≤ x) : x.fdiv (2 ^ (1 : Int).toNat) = ((x.toNat / 2 : Nat) : Int) := by
  show x.fdiv 2 = _
  rw [Int.fdiv_eq_ediv_of_nonneg _ (by decide)]
  k_data
/-- closed under the pairs from place k on -/
noncomputable def ClosedF (g : G) (us : List Bool) (k : Nat) : Prop := ∀ (j : Nat) l r, k ≤ j → 0 < j → g.nd[j]? = some (some (l, r)) → us.getD j false = true → us.getD (l.toNat / 2) false = true ∧ us.getD (r.toNat / 2) false = true
theorem getD_set (us : List Bool) (i j : Nat) (hi : i < us.length) : (us.set i true).getD j false = (decide (i = j) || us.getD j false) := by
  simp only [List.getD_eq_getElem?_getD, List.getElem?_set]
  by_cases h : i = j
  · subst h; simp [hi]
  · simp [h]
theorem items_down {τ : AH} {m : Nat} (hm : m < 1000000000) : items (.rng (m : Int) 0 (-1)) τ = some ((List.range m).map fun (i : Nat) => AV.int ((m - i : Nat) : Int)) := by
  unfold items
  dsimp only
  rw [if_pos ⟨by simpa using hm, by decide, .inr rfl⟩]
  unfold rngItems
  have hr : (Builtin.Range.rangeSize (m : Int) 0 (-1)).toNat = m := by
    unfold Builtin.Range.rangeSize
    rw [if_neg (by decide)]
    split
    · rw [show (- -1 : Int) = 1 from rfl, Int.ediv_one]
      k_data
    · k_data
  rw [hr]
  congr 1
  refine List.map_congr_left fun i hi => ?_
  have := List.mem_range.mp hi
  congr 1
  k_data
theorem locC_cell {N : List (Str × NameKind)} {l : Loc} {x y : String} {v : AV} (h : y ≠ x) (c : N.lookup (Str.ofString y) = some .cell) : locC N l (Str.ofString x) v (Str.ofString y) = l (Str.ofString y) := by
  unfold locC
  rw [if_neg fun e => h (ofString_inj e), if_pos c]
theorem flat_rep (k : Nat) : List.flatten (List.replicate ((k : Int)).toNat [AV.bool false]) = bls (List.replicate k false) := by
  rw [Int.toNat_natCast]
  induction k with
  | zero => rfl
  | succ k ih => rw [List.replicate_succ, List.flatten_cons, ih]; rfl
section
variable {prog : Program} {w : World} {n : Nat} {σ : AH} {Q : AV → AH → Prop} {p : AP} {g : G}
theorem G.nodeAt {τ : AH} {i : Nat} {x : Option (Int × Int)} (h : AigAt τ p g) (e : g.nd[i]? = some x) : idxOf g.nAV (i : Int) = some (pairAV x) := idx_nat (by simp [G.nAV, e])

theorem coneCnfC {a : Addr} {x : Int} (h : AigAt σ p g) (wf : g.WF) (hl : g.nd.length ≤ 900) (ha : σ a = some (.list [.int x])) (hx : g.In x)
    (q : ∀ c us τ, Keep [] σ τ → σ c = none → τ c = some (.list (nats ((List.range g.nd.length).filter fun i => us.getD i false))) → us.length = g.nd.length → us.getD (x.toNat / 2) false = true → ClosedF g us 0 → Q (.ref c) τ) :
    CallS prog w (lib w.params) (n + 2) 335 [.ref p.a, .ref a] σ Q := by
  refine fnCall0 (kConeCnf w.params) rfl ?_
  have hpos := wf.len
  have hx0 := hx.1
  have hx1 := hx.2
  k_typeOf
  (first | refine fun c0 hc0 => ?_ | (k_types; intro c0 hc0))
  k_typeOf
  have k0 : Keep [] σ (upd σ c0 (.list [.bool false])) := Keep.new hc0
  have a0 := h.keep0 k0
  o_head a0.ns
  k_typeOf
  o_head a0.n
  refine ⟨by rw [G.nLen]; k_data, ?_⟩
  k_typeOf
  o_head upd_self
  k_typeOf
  o_head G.nLen
  refine ⟨by k_data, by k_data, ?_⟩
  refine ⟨by simp, ?_⟩
  intro c1 hc1
  obtain ⟨n10, z1⟩ := upd_none hc1
  have k1 : Keep [] σ (upd (upd σ c0 (.list [.bool false])) c1 (.list (bls (List.replicate g.nd.length false)))) := k0.trans (Keep.new hc1)
  rw [flat_rep]
  have u1 : upd (upd σ c0 (.list [.bool false])) c1 (.list (bls (List.replicate g.nd.length false))) c1 = some (.list (bls (List.replicate g.nd.length false))) := upd_self ..
  revert k1 u1
  generalize upd (upd σ c0 (.list [.bool false])) c1 (.list (bls (List.replicate g.nd.length false))) = τ1
  intro k1 u1
  have ha1 := k1.get ha (by simp)
  have nac : a ≠ c1 := by first | exact nes ha z1 | exact nes' ha z1 | (rintro rfl; rw [ha] at z1; cases z1)
  k_types
  refine .inr ⟨_, items_list ha1, ?_⟩
  k_typeOf
  (first | refine And.intro (items_list ha1) ?_ | (k_types; refine ⟨items_list ha1, ?_⟩))
  k_types
  rw [fdiv2 hx0, u1]
  refine ⟨by k_data, by k_data, by simp; k_data, ?_⟩
  k_types
  rw [Int.toNat_natCast, bls_set]
  have hxl : x.toNat / 2 < g.nd.length := by k_data
  have t1 : ((List.replicate g.nd.length false).set (x.toNat / 2) true).getD (x.toNat / 2) false = true := by
    rw [getD_set _ _ _ (by simpa using hxl)]; simp
  have l1 : ((List.replicate g.nd.length false).set (x.toNat / 2) true).length = g.nd.length := by simp
  have c1' : ClosedF g ((List.replicate g.nd.length false).set (x.toNat / 2) true) g.nd.length := fun j l r hj _ hn => by
    have := (List.getElem?_eq_some_iff.mp hn).1
    k_data
  revert t1 l1 c1'
  generalize (List.replicate g.nd.length false).set (x.toNat / 2) true = us0
  intro t1 l1 c1'
  have k2 : Keep [] σ (upd τ1 c1 (.list (bls us0))) := k1.fr z1
  have u2 := upd_self τ1 c1 (.list (bls us0))
  have ha2 := k2.get ha (by simp)
  have a2 := h.keep0 k2
  revert k2 u2 ha2 a2
  generalize upd τ1 c1 (.list (bls us0)) = τ2
  intro k2 u2 ha2 a2
  refine ⟨items_list ha2, ?_⟩
  k_typeOf
  o_head a2.ns
  k_typeOf
  o_head a2.n
  refine ⟨by rw [G.nLen]; k_data, ?_⟩
  k_types
  rw [G.nLen]
  obtain ⟨M, hM⟩ : ∃ M, g.nd.length = M + 1 := ⟨g.nd.length - 1, by k_data⟩
  rw [show ((g.nd.length : Int) - 1) = (M : Int) by k_data]
  refine .inr ⟨_, items_down (by k_data), ?_⟩
  refine forL_inv (fun rest l τ => A4 (l "used" = some (.ref c1)) (l "aig" = some (.ref p.a)) (Keep [] σ τ) (X2 fun k us => A6 (k ≤ M) (rest = ((List.range M).drop k).map (fun (i : Nat) => AV.int ((M - i : Nat) : Int))) (τ c1 = some (.list (bls us))) (us.length = g.nd.length) (us.getD (x.toNat / 2) false = true) (ClosedF g us (M - k + 1)))) (fun v vs l τ F hI hF => ?_) (fun l τ hI => ?_) _ _ _ ⟨by first | rfl | k_units, by first | rfl | (k_units; rfl), k2, 0, us0, by k_data, rfl, u2, l1, t1, by rw [show M - 0 + 1 = g.nd.length by k_data]; exact c1'⟩
  · obtain ⟨e1, e2, k3, k, us, hk, e3, e4, e5, e6, e7⟩ := hI
    cases hd' : (List.range M).drop k with
    | nil => rw [hd'] at e3; cases e3
    | cons i r' =>
      obtain ⟨hp, rfl⟩ := drop_cons hd'
      rw [hd'] at e3
      cases e3
      obtain ⟨hi, hi2⟩ := List.getElem?_eq_some_iff.mp hp
      simp only [List.getElem_range] at hi2
      subst hi2
      simp only [List.length_range] at hi
      have a3 := h.keep0 k3
      obtain ⟨nd, hnd⟩ : ∃ y, g.nd[M - k]? = some y := ⟨_, List.getElem?_eq_getElem (by k_data)⟩
      have hpos2 : 0 < M - k := by k_data
      refine ⟨items_down (by k_data), _, rfl, ?_⟩
      k_typeOf
      row_witness_with e1
      k_typeOf
      o_head e4
      refine ⟨by k_data, ?_⟩
      rw [bls_get (by k_data)]
      k_types
      (refine Br.mk (fun hc => ?_) (fun hc => ?_))
      · k_typeOf
        row_witness_with e2
        k_typeOf
        o_head a3.ns
        k_typeOf
        refine isAndC (x := nd) a3 (by k_data) (by k_data) (by rw [Int.toNat_natCast]; exact hnd) ?_
        cases nd with
        | none =>
          k_typeOf
          refine hF _ _ ⟨by (first | exact e1 | (k_units; exact e1)), by (first | exact e2 | (k_units; exact e2)), k3, k + 1, us, by k_data, rfl, e4, e5, e6, fun j l r hj hj0 hn hu => ?_⟩
          by_cases hjk : j = M - k
          · subst hjk; rw [hnd] at hn; cases hn
          · exact e7 j l r (by k_data) hj0 hn hu
        | some lr =>
          obtain ⟨lf, rt⟩ := lr
          obtain ⟨o1, o2, o3, o4⟩ := wf.ord (M - k) lf rt hnd
          try (refine Br.ttd rfl ?_)
          k_typeOf
          row_witness_with e2
          k_typeOf
          o_head a3.ns
          k_typeOf
          o_head a3.n
          refine ⟨by k_data, ?_⟩
          rw [G.nodeAt a3 hnd]
          k_typeOf
          row_witness_with e1
          k_types
          rw [fdiv2 o1, e4]
          refine ⟨by k_data, by k_data, by simp; k_data, ?_⟩
          k_types
          rw [Int.toNat_natCast, bls_set]
          have e4b := upd_self τ c1 (.list (bls (us.set (lf.toNat / 2) true)))
          have k3b := k3.fr (o := .list (bls (us.set (lf.toNat / 2) true))) z1
          revert e4b k3b
          generalize upd τ c1 (.list (bls (us.set (lf.toNat / 2) true))) = τb
          intro e4b k3b
          row_witness_with e1
          k_types
          rw [fdiv2 o3, e4b]
          refine ⟨by k_data, by k_data, by simp; k_data, ?_⟩
          k_types
          rw [Int.toNat_natCast, bls_set]
          have hg : ∀ j, ((us.set (lf.toNat / 2) true).set (rt.toNat / 2) true).getD j false = (decide (rt.toNat / 2 = j) || (decide (lf.toNat / 2 = j) || us.getD j false)) := fun j => by
            rw [getD_set _ _ _ (by simp; k_data), getD_set _ _ _ (by k_data)]
          refine hF _ _ ⟨by (first | exact e1 | (k_units; exact e1)), by (first | exact e2 | (k_units; exact e2)), k3b.fr z1, k + 1, (us.set (lf.toNat / 2) true).set (rt.toNat / 2) true, by k_data, rfl, upd_self .., by simp; exact e5, by rw [hg, e6]; simp, fun j l r hj hj0 hn hu => ?_⟩
          by_cases hjk : j = M - k
          · subst hjk
            rw [hnd] at hn
            cases hn
            rw [hg, hg]
            simp
          · rw [hg] at hu
            have d1 : ¬ rt.toNat / 2 = j := by k_data
            have d2 : ¬ lf.toNat / 2 = j := by k_data
            simp only [decide_eq_false d1, decide_eq_false d2, Bool.false_or] at hu
            obtain ⟨q1, q2⟩ := e7 j l r (by k_data) hj0 hn hu
            rw [hg, hg, q1, q2]
            simp
      · k_typeOf
        refine hF _ _ ⟨by (first | exact e1 | (k_units; exact e1)), by (first | exact e2 | (k_units; exact e2)), k3, k + 1, us, by k_data, rfl, e4, e5, e6, fun j l r hj hj0 hn hu => ?_⟩
        by_cases hjk : j = M - k
        · subst hjk; rw [hu] at hc; cases hc
        · exact e7 j l r (by k_data) hj0 hn hu
  · obtain ⟨e1, e2, k3, k, us, hk, e3, e4, e5, e6, e7⟩ := hI
    have hkk : k = M := by
      have := congrArg List.length e3
      simp at this
      k_data
    subst hkk
    have a3 := h.keep0 k3
    refine ⟨items_down (by k_data), ?_⟩
    k_typeOf
    row_witness_with e2
    k_typeOf
    o_head a3.ns
    k_typeOf
    o_head a3.n
    refine ⟨by rw [G.nLen]; k_data, ?_⟩
    k_types
    rw [G.nLen]
    rw [items_rng (by k_data)]
    k_types
    refine compL_inv (fun rest acc τ' => (τ' = τ) ∧ (∃ m, A3 (m ≤ g.nd.length) (rest = ((List.range g.nd.length).drop m).map (fun (i : Nat) => AV.int (i : Int))) (acc = nats ((List.range m).filter fun i => us.getD i false)))) (fun v vs acc τ' F hI hF => ?_) (fun acc τ' hI => ?_) _ _ _ ⟨rfl, 0, by k_data, rfl, rfl⟩
    · obtain ⟨rfl, m, hm, f1, rfl⟩ := hI
      cases hd' : (List.range g.nd.length).drop m with
      | nil => rw [hd'] at f1; cases f1
      | cons i r' =>
        obtain ⟨hp, rfl⟩ := drop_cons hd'
        rw [hd'] at f1
        cases f1
        obtain ⟨hi, hi2⟩ := List.getElem?_eq_some_iff.mp hp
        simp only [List.getElem_range] at hi2
        subst hi2
        simp only [List.length_range] at hi
        refine ⟨items_rng (by k_data), ?_⟩
        k_types
        rw [locC_cell (by decide) (by kernel_rfl), e1]
        k_typeOf
        o_head e4
        refine ⟨by k_data, ?_⟩
        rw [bls_get (by k_data)]
        k_types
        have hr : (List.range (m + 1)).filter (fun i => us.getD i false) = (List.range m).filter (fun i => us.getD i false) ++ (if us.getD m false then [m] else []) := by
          rw [List.range_succ, List.filter_append]
          congr 1
          rw [List.filter_cons]
          cases hu : us.getD m false <;> rfl
        have hfl := List.length_filter_le (fun i => us.getD i false) (List.range m)
        rw [List.length_range] at hfl
        (refine Br.mk (fun hc => ?_) (fun hc => ?_))
        · rw [hc, if_pos rfl] at hr
          k_types
          refine ⟨by rw [List.length_map]; k_data, ?_⟩
          exact hF _ _ ⟨rfl, m + 1, by k_data, rfl, by rw [hr, ← nats_app]⟩
        · rw [hc, if_neg (by decide), List.append_nil] at hr
          exact hF _ _ ⟨rfl, m + 1, by k_data, rfl, by rw [hr]⟩
    · obtain ⟨rfl, m, hm, f1, rfl⟩ := hI
      have hmm : m = g.nd.length := by
        have := congrArg List.length f1
        simp at this
        k_data
      subst hmm
      refine ⟨items_rng (by k_data), fun c hc => ?_⟩
      exact q c us _ (k3.trans (Keep.new hc)) (k3.fresh hc) (upd_self ..) e5 e6 (by rw [Nat.sub_self] at e7; exact fun j l r _ hj0 hn hu => e7 j l r (by k_data) hj0 hn hu)
end


/-- the clauses of one node -/
noncomputable def gate (g : G) (i : Nat) : List (List Int) :=
  if i = 0 then [[-((i : Int) + 1)]] else match g.nd[i]? with
    | some (some (l, r)) => [[-((i : Int) + 1), varOf l], [-((i : Int) + 1), varOf r], [(i : Int) + 1, -varOf l, -varOf r]]
    | _ => []
noncomputable abbrev clAV (c : List Int) : AV := .tup (c.map AV.int)
noncomputable def gates (g : G) (is : List Nat) : List (List Int) := is.flatMap (gate g)
theorem gate_len (g : G) (i : Nat) : (gate g i).length ≤ 3 := by
  unfold gate
  by_cases h : i = 0
  · rw [if_pos h]; exact Nat.le_of_ble_eq_true rfl
  · rw [if_neg h]
    cases g.nd[i]? with
    | none => exact Nat.zero_le _
    | some o => cases o with
      | none => exact Nat.zero_le _
      | some p => exact Nat.le_refl 3
theorem gates_len (g : G) (is : List Nat) : (gates g is).length ≤ 3 * is.length := by
  induction is with
  | nil => simp [gates]
  | cons i r ih =>
    unfold gates at ih ⊢
    rw [List.flatMap_cons, List.length_append, List.length_cons]
    have := gate_len g i
    k_data
theorem gates_snoc (g : G) (is : List Nat) (i : Nat) : gates g (is ++ [i]) = gates g is ++ gate g i := by unfold gates; rw [List.flatMap_append]; simp
theorem flat_rep0 (k : Nat) : List.flatten (List.replicate ((k : Int)).toNat [AV.int 0]) = List.replicate k (AV.int 0) := by
  rw [Int.toNat_natCast]
  induction k with
  | zero => rfl
  | succ k ih => rw [List.replicate_succ, List.flatten_cons, ih]; rfl
section
variable {prog : Program} {w : World} {n : Nat} {σ : AH} {Q : AV → AH → Prop} {p : AP} {g : G}

theorem aigCnfC {a : Addr} {x : Int} (h : AigAt σ p g) (wf : g.WF) (hl : g.nd.length ≤ 900) (ha : σ a = some (.list [.int x])) (hx : g.In x)
    (q : ∀ c d us τ, Keep [] σ τ → σ c = none → τ c = some (.list ((gates g ((List.range g.nd.length).filter fun i => us.getD i false)).map clAV)) → us.length = g.nd.length → us.getD (x.toNat / 2) false = true → ClosedF g us 0 → Q (.tup [.ref c, .ref d]) τ) :
    CallS prog w (lib w.params) (n + 3) 342 [.ref p.a, .ref a] σ Q := by
  refine fnCall0 (kAigCnf w.params) rfl ?_
  k_typeOf
  (first | refine fun c hc => ?_ | (k_types; intro c hc))
  have k0 : Keep [] σ (upd σ c (.list [])) := Keep.new hc
  have c0 := upd_self σ c (.list [])
  have a0 := h.keep0 k0
  have ha0 := k0.get ha (by simp)
  revert k0 c0 a0 ha0
  generalize upd σ c (.list []) = τ0
  intro k0 c0 a0 ha0
  k_typeOf
  (first | refine fun e0 he0 => ?_ | (k_types; intro e0 he0))
  k_typeOf
  have k1 : Keep [] τ0 (upd τ0 e0 (.list [.int 0])) := Keep.new he0
  have a1 := a0.keep0 k1
  o_head a1.ns
  k_typeOf
  o_head a1.n
  refine ⟨by rw [G.nLen]; k_data, ?_⟩
  k_typeOf
  o_head upd_self
  k_typeOf
  o_head G.nLen
  refine ⟨by k_data, by k_data, by simp, ?_⟩
  intro v hv
  rw [flat_rep0]
  have k2 : Keep [] τ0 (upd (upd τ0 e0 (.list [.int 0])) v (.list (List.replicate g.nd.length (.int 0)))) := k1.trans (Keep.new hv)
  have v2 := upd_self (upd τ0 e0 (.list [.int 0])) v (.list (List.replicate g.nd.length (.int 0)))
  have zv : τ0 v = none := (upd_none hv).2
  revert k2 v2
  generalize upd (upd τ0 e0 (.list [.int 0])) v (.list (List.replicate g.nd.length (.int 0))) = τ2
  intro k2 v2
  have a2 := a0.keep0 k2
  have c2 := k2.get c0 (by simp)
  have ha2 := k2.get ha0 (by simp)
  have ncv : c ≠ v := by first | exact nes c0 zv | exact nes' c0 zv | (rintro rfl; rw [c0] at zv; cases zv)
  k_typeOf
  refine coneCnfC (n := n) a2 wf hl ha2 hx fun d us τ3 k3 z3 g3 ul ut uc => ?_
  have c3 := k3.get c2 (by simp)
  have v3 := k3.get v2 (by simp)
  have a3 := a2.keep0 k3
  have ndc : d ≠ c := by first | exact nes c2 z3 | exact nes' c2 z3 | (rintro rfl; rw [c2] at z3; cases z3)
  have ndv : d ≠ v := by first | exact nes v2 z3 | exact nes' v2 z3 | (rintro rfl; rw [v2] at z3; cases z3)
  k_types
  refine .inr ⟨_, items_list g3, ?_⟩
  have hin : ∀ i ∈ (List.range g.nd.length).filter (fun i => us.getD i false), i < g.nd.length := fun i hi => List.mem_range.mp (List.mem_filter.mp hi).1
  have hfl : ((List.range g.nd.length).filter (fun i => us.getD i false)).length ≤ g.nd.length := by
    have := List.length_filter_le (fun i => us.getD i false) (List.range g.nd.length)
    simpa using this
  generalize hI : (List.range g.nd.length).filter (fun i => us.getD i false) = I at *
  have kz : Keep [] σ τ3 := (k0.trans k2).trans k3
  refine forL_inv (fun rest l τ => A5 (l "clauses" = some (.ref c)) (l "variables" = some (.ref v)) (l "aig" = some (.ref p.a)) (Keep [c, v] τ3 τ) (X3 fun done todo vs => A5 (I = done ++ todo) (rest = nats todo) (τ c = some (.list ((gates g done).map clAV))) (τ v = some (.list vs)) (vs.length = g.nd.length))) (fun u vs l τ F hI hF => ?_) (fun l τ hI => ?_) _ _ _ ⟨rfl, rfl, rfl, Keep.refl, [], I, _, rfl, rfl, c3, v3, by simp⟩
  · obtain ⟨e1, e2, e3, k4, done, todo, vs, f1, f2, f3, f4, f5⟩ := hI
    cases todo with
    | nil => cases f2
    | cons i todo =>
      cases f2
      have hi := hin i (by rw [f1]; simp)
      have f1' : I = (done ++ [i]) ++ todo := by rw [f1]; simp
      have hdl : done.length ≤ g.nd.length := by rw [f1] at hfl; simp at hfl; k_data
      have hgl := gates_len g done
      have gd4 := k4.get g3 (by simp [ndc, ndv])
      have kz4 : Keep [] σ τ := ((kz.weaken (S' := [c, v]) (by simp)).trans k4).drop hc |>.drop ((k0.fresh zv))
      have a4 := h.keep0 kz4
      refine ⟨items_list gd4, _, rfl, ?_⟩
      k_typeOf
      row_witness_with e2
      k_typeOf
      o_head f4
      refine ⟨by k_data, by k_data, by k_data, ?_⟩
      k_types
      have zv0 : σ v = none := k0.fresh zv
      have f3a : upd τ v (.list (vs.set ((i : Int)).toNat (.int ((i : Int) + 1)))) c = some (.list ((gates g done).map clAV)) := (upd_ne ncv).trans f3
      have f4a := upd_self τ v (.list (vs.set ((i : Int)).toNat (.int ((i : Int) + 1))))
      have f5a : (vs.set ((i : Int)).toNat (.int ((i : Int) + 1))).length = g.nd.length := by simp; exact f5
      have k4a : Keep [c, v] τ3 (upd τ v (.list (vs.set ((i : Int)).toNat (.int ((i : Int) + 1))))) := k4.trans (Keep.put (by simp))
      have kz5 := kz4.fr (o := .list (vs.set ((i : Int)).toNat (.int ((i : Int) + 1)))) zv0
      revert f3a f4a f5a k4a kz5
      generalize vs.set ((i : Int)).toNat (.int ((i : Int) + 1)) = vs'
      generalize upd τ v (.list vs') = τ5
      intro f3a f4a f5a k4a kz5
      have a5 := h.keep0 kz5
      have hcl : ((gates g done).map clAV).length ≤ 3 * g.nd.length := by rw [List.length_map]; k_data
      (refine Br.mk (fun hc => ?_) (fun hc => ?_))
      · have hi0 : i = 0 := by simpa using hc
        k_typeOf
        row_witness_with e1
        k_typeOf
        o_head (nsAt_list f3a)
        k_types
        refine ⟨by rw [f3a]; rfl, ?_⟩
        k_typeOf
        o_head f3a
        refine ⟨by k_data, ?_⟩
        k_typeOf
        refine hF _ _ ⟨by (first | exact e1 | (k_units; exact e1)), by (first | exact e2 | (k_units; exact e2)), by (first | exact e3 | (k_units; exact e3)), k4a.trans (Keep.put (by simp)), done ++ [i], todo, vs', f1', rfl, ?_, (upd_ne ncv.symm).trans f4a, f5a⟩
        rw [upd_self, gates_snoc]
        unfold gate
        rw [if_pos hi0, List.map_append]
        rfl
      · have hi0 : i ≠ 0 := by simpa using hc
        obtain ⟨nd, hnd⟩ : ∃ y, g.nd[i]? = some y := ⟨_, List.getElem?_eq_getElem hi⟩
        k_typeOf
        row_witness_with e3
        k_typeOf
        o_head a5.ns
        k_typeOf
        refine isAndC (x := nd) a5 (by k_data) (by k_data) (by rw [Int.toNat_natCast]; exact hnd) ?_
        cases nd with
        | none =>
          k_typeOf
          refine hF _ _ ⟨by (first | exact e1 | (k_units; exact e1)), by (first | exact e2 | (k_units; exact e2)), by (first | exact e3 | (k_units; exact e3)), k4a, done ++ [i], todo, vs', f1', rfl, ?_, f4a, f5a⟩
          rw [f3a, gates_snoc]
          unfold gate
          rw [if_neg hi0, hnd, List.append_nil]
        | some lr =>
          obtain ⟨lf, rt⟩ := lr
          try (refine Br.ttd rfl ?_)
          k_typeOf
          row_witness_with e3
          k_typeOf
          o_head a5.ns
          k_typeOf
          o_head a5.n
          refine ⟨by k_data, ?_⟩
          rw [G.nodeAt a5 hnd]
          k_typeOf
          refine variableOfC ?_
          k_typeOf
          row_witness_with e3
          k_typeOf
          o_head a5.ns
          k_typeOf
          o_head a5.n
          refine ⟨by k_data, ?_⟩
          rw [G.nodeAt a5 hnd]
          k_typeOf
          refine variableOfC ?_
          k_typeOf
          row_witness_with e1
          k_typeOf
          o_head (nsAt_list f3a)
          k_types
          refine ⟨by rw [f3a]; rfl, ?_⟩
          k_typeOf
          o_head f3a
          refine ⟨by k_data, ?_⟩
          k_types
          have f3b := upd_self τ5 c (.list ((gates g done).map clAV ++ [.tup [.int (-((i : Int) + 1)), .int (varOf lf)]]))
          have f4b : upd τ5 c (.list ((gates g done).map clAV ++ [.tup [.int (-((i : Int) + 1)), .int (varOf lf)]])) v = some (.list vs') := (upd_ne ncv.symm).trans f4a
          have k4b : Keep [c, v] τ3 (upd τ5 c (.list ((gates g done).map clAV ++ [.tup [.int (-((i : Int) + 1)), .int (varOf lf)]]))) := k4a.trans (Keep.put (by simp))
          revert f3b f4b k4b
          generalize upd τ5 c (.list ((gates g done).map clAV ++ [.tup [.int (-((i : Int) + 1)), .int (varOf lf)]])) = τ6
          intro f3b f4b k4b
          row_witness_with e1
          k_typeOf
          o_head (nsAt_list f3b)
          k_types
          refine ⟨by rw [f3b]; rfl, ?_⟩
          k_typeOf
          o_head f3b
          refine ⟨by simp at hcl ⊢; k_data, ?_⟩
          k_types
          have f3c := upd_self τ6 c (.list ((gates g done).map clAV ++ [.tup [.int (-((i : Int) + 1)), .int (varOf lf)]] ++ [.tup [.int (-((i : Int) + 1)), .int (varOf rt)]]))
          have f4c : upd τ6 c (.list ((gates g done).map clAV ++ [.tup [.int (-((i : Int) + 1)), .int (varOf lf)]] ++ [.tup [.int (-((i : Int) + 1)), .int (varOf rt)]])) v = some (.list vs') := (upd_ne ncv.symm).trans f4b
          have k4c : Keep [c, v] τ3 (upd τ6 c (.list ((gates g done).map clAV ++ [.tup [.int (-((i : Int) + 1)), .int (varOf lf)]] ++ [.tup [.int (-((i : Int) + 1)), .int (varOf rt)]]))) := k4b.trans (Keep.put (by simp))
          revert f3c f4c k4c
          generalize upd τ6 c (.list ((gates g done).map clAV ++ [.tup [.int (-((i : Int) + 1)), .int (varOf lf)]] ++ [.tup [.int (-((i : Int) + 1)), .int (varOf rt)]])) = τ7
          intro f3c f4c k4c
          row_witness_with e1
          k_typeOf
          o_head (nsAt_list f3c)
          k_types
          refine ⟨by rw [f3c]; rfl, ?_⟩
          k_typeOf
          o_head f3c
          refine ⟨by simp at hcl ⊢; k_data, ?_⟩
          k_typeOf
          refine hF _ _ ⟨by (first | exact e1 | (k_units; exact e1)), by (first | exact e2 | (k_units; exact e2)), by (first | exact e3 | (k_units; exact e3)), k4c.trans (Keep.put (by simp)), done ++ [i], todo, vs', f1', rfl, ?_, (upd_ne ncv.symm).trans f4c, f5a⟩
          rw [upd_self, gates_snoc]
          unfold gate
          rw [if_neg hi0, hnd, List.map_append]
          simp only [List.append_assoc]
          rfl
  · obtain ⟨e1, e2, e3, k4, done, todo, vs, f1, f2, f3, f4, f5⟩ := hI
    have ht : todo = [] := by cases todo with
      | nil => rfl
      | cons _ _ => cases f2
    subst ht
    rw [List.append_nil] at f1
    subst f1
    have gd4 := k4.get g3 (by simp [ndc, ndv])
    have kz4 : Keep [] σ τ := ((kz.weaken (S' := [c, v]) (by simp)).trans k4).drop hc |>.drop ((k0.fresh zv))
    refine ⟨items_list gd4, ?_⟩
    k_typeOf
    row_witness_with e1
    k_typeOf
    row_witness_with e2
    k_types
    rw [← hI] at f3
    exact q c v us τ kz4 hc f3 ul ut uc

theorem differenceC {x : Int} (h : AigAt σ p g) (wf : g.WF) (hl : g.nd.length ≤ 900) (hx : g.In x)
    (q : ∀ c us τ, Keep [] σ τ → σ c = none → τ c = some (.list ((gates g ((List.range g.nd.length).filter fun i => us.getD i false) ++ [[varOf x]]).map clAV)) → us.length = g.nd.length → us.getD (x.toNat / 2) false = true → ClosedF g us 0 → Q (.tup [.int (g.nd.length : Int), .ref c]) τ) :
    CallS prog w (lib w.params) (n + 4) 391 [.ref p.a, .int x] σ Q := by
  refine fnCall0 (kDifference w.params) rfl ?_
  k_typeOf
  (first | refine fun a ha => ?_ | (k_types; intro a ha))
  have k0 : Keep [] σ (upd σ a (.list [.int x])) := Keep.new ha
  have a0 := h.keep0 k0
  k_typeOf
  refine aigCnfC (n := n) a0 wf hl (upd_self ..) hx fun c d us τ1 k1 z1 g1 ul ut uc => ?_
  have hgl := gates_len g ((List.range g.nd.length).filter fun i => us.getD i false)
  have hfl : ((List.range g.nd.length).filter (fun i => us.getD i false)).length ≤ g.nd.length := by
    have := List.length_filter_le (fun i => us.getD i false) (List.range g.nd.length)
    simpa using this
  have a1 := a0.keep0 k1
  have hcl : ((gates g ((List.range g.nd.length).filter fun i => us.getD i false)).map clAV).length ≤ 2700 := by rw [List.length_map]; k_data
  k_typeOf
  o_head g1
  refine ⟨by k_data, ?_⟩
  k_typeOf
  (first | refine fun e he => ?_ | (k_types; intro e he))
  have k2 : Keep [] τ1 (upd τ1 e (.list ((gates g ((List.range g.nd.length).filter fun i => us.getD i false)).map clAV))) := Keep.new he
  have e2 := upd_self τ1 e (.list ((gates g ((List.range g.nd.length).filter fun i => us.getD i false)).map clAV))
  revert k2 e2
  generalize upd τ1 e (.list ((gates g ((List.range g.nd.length).filter fun i => us.getD i false)).map clAV)) = τ2
  intro k2 e2
  k_typeOf
  o_head (nsAt_list e2)
  k_types
  refine ⟨by rw [e2]; rfl, ?_⟩
  k_typeOf
  refine variableOfC ?_
  k_typeOf
  o_head e2
  refine ⟨by k_data, ?_⟩
  k_typeOf
  have k3 : Keep [] τ1 (upd τ2 e (.list ((gates g ((List.range g.nd.length).filter fun i => us.getD i false)).map clAV ++ [.tup [.int (varOf x)]]))) := k2.fr he
  have a3 := a1.keep0 k3
  o_head a3.ns
  k_typeOf
  o_head a3.n
  refine ⟨by rw [G.nLen]; k_data, ?_⟩
  k_types
  rw [G.nLen]
  exact q e us _ ((k0.trans k1).trans k3) (k0.fresh (k1.fresh he)) (by rw [upd_self, List.map_append]; rfl) ul ut uc
end


noncomputable def snE (ks : List Nat) : List (Int × AV) := ks.map fun (i : Nat) => ((i : Int), .bool true)
theorem snE_has {ks : List Nat} {i : Nat} : hasK (snE ks) (i : Int) = decide (i ∈ ks) := by
  rw [hasK_any]
  unfold snE
  rw [List.any_map]
  by_cases h : i ∈ ks
  · rw [decide_eq_true h, List.any_eq_true]
    exact ⟨i, h, by simp⟩
  · rw [decide_eq_false h, List.any_eq_false]
    intro j hj
    have : j ≠ i := fun e => h (e ▸ hj)
    simp; k_data
theorem snE_put {ks : List Nat} {i : Nat} (h : i ∉ ks) : putK (snE ks) (i : Int) (.bool true) = snE (ks ++ [i]) := by
  rw [putK_new (by rw [snE_has]; exact decide_eq_false h)]
  simp [snE]
theorem snE_keys (ks : List Nat) : (snE ks).map (·.1) = ks.map fun (i : Nat) => (i : Int) := by
  unfold snE; rw [List.map_map]; rfl
theorem nats_last (S : List Nat) (i : Nat) : (nats (S ++ [i]))[(nats (S ++ [i])).length - 1]? = some (.int (i : Int)) ∧ (nats (S ++ [i])).eraseIdx ((nats (S ++ [i])).length - 1) = nats S := by
  have e : (nats (S ++ [i])).length - 1 = (nats S).length := by simp [nats]
  rw [e]
  have e2 : nats (S ++ [i]) = nats S ++ [.int (i : Int)] := (nats_app S i).symm
  rw [e2]
  constructor
  · simp
  · rw [List.eraseIdx_append_of_length_le (Nat.le_refl _)]; simp
theorem sort_dO {τ : AH} {u : Addr} {es : List (Int × AV)} {A : List AV → Prop} {B : List (Int × AV) → Prop} (h : τ u = some (dO es)) (q : B es) :
    (match τ u with
      | some (.list xs) => A xs
      | some o => (match asI o with
          | some es => B es
          | none => False)
      | none => False) := by
  rw [h]
  cases es with
  | nil => exact q
  | cons _ _ => exact q
theorem truth_list {τ : AH} {a : Addr} {xs : List AV} (h : τ a = some (.list xs)) (hl : xs.length ≤ 1000000) : truthV (.ref a) τ = some (!xs.isEmpty) := by
  unfold truthV
  dsimp only
  rw [h]
  dsimp only
  rw [if_pos hl]
section
variable {prog : Program} {w : World} {n : Nat} {σ : AH} {Q : AV → AH → Prop} {p : AP} {g : G}
structure CE (us : List Bool) (g : G) (p : AP) (s st : Addr) (m : Nat) (l : Loc) (τ : AH) (ks S : List Nat) : Prop where
  seen : l "seen" = some (.ref s)
  stack : l "stack" = some (.ref st)
  aig : l "aig" = some (.ref p.a)
  hs : τ s = some (dO (snE ks))
  ht : τ st = some (.list (nats S))
  nd : ks.Nodup
  lk : ∀ i ∈ ks, i < g.nd.length ∧ us.getD i false = true
  lS : ∀ i ∈ S, i < g.nd.length ∧ us.getD i false = true
  le : 3 * (g.nd.length - ks.length) + S.length ≤ m
  tS : S.length ≤ 2 * ks.length + 1
theorem CE.kl {us g p s st m l τ ks S} (h : CE us g p s st m l τ ks S) : ks.length ≤ g.nd.length := by
  have := nodup_len ks (List.range g.nd.length) h.nd fun x hx => List.mem_range.mpr (h.lk x hx).1
  simpa using this

theorem coneEquivC {a : Addr} {x : Int} {us : List Bool} (h : AigAt σ p g) (wf : g.WF) (hl : g.nd.length ≤ 60) (ha : σ a = some (.list [.int x])) (hx : g.In x) (ut : us.getD (x.toNat / 2) false = true) (uc : ClosedF g us 0)
    (q : ∀ c R τ, Keep [] σ τ → σ c = none → τ c = some (.list (nats R)) → (∀ i ∈ R, i < g.nd.length ∧ us.getD i false = true) → R.length ≤ 60 → Q (.ref c) τ) :
    CallS prog w (lib w.params) (n + 1) 384 [.ref p.a, .ref a] σ Q := by
  refine fnCall0 (kConeEquiv w.params) rfl ?_
  have hx0 := hx.1
  have hx1 := hx.2
  k_typeOf
  (first | refine fun s hs => ?_ | (k_types; intro s hs))
  k_typeOf
  (first | refine fun st hst => ?_ | (k_types; intro st hst))
  obtain ⟨nts, st0⟩ := upd_none hst
  have k0 : Keep [] σ (upd (upd σ s .dict0) st (.list [])) := (Keep.new hs).trans (Keep.new hst)
  have s0 : upd (upd σ s .dict0) st (.list []) s = some (dO (snE [])) := (upd_ne nts.symm).trans (upd_self ..)
  have t0 := upd_self (upd σ s .dict0) st (.list [])
  revert k0 s0 t0
  generalize upd (upd σ s .dict0) st (.list []) = τ0
  intro k0 s0 t0
  have ha0 := k0.get ha (by simp)
  k_types
  refine .inr ⟨_, items_list ha0, ?_⟩
  k_typeOf
  (first | refine And.intro (items_list ha0) ?_ | (k_types; refine ⟨items_list ha0, ?_⟩))
  k_typeOf
  o_head (nsAt_list t0)
  k_types
  refine ⟨by rw [t0]; rfl, ?_⟩
  k_types
  rw [fdiv2 hx0, t0]
  k_types
  rw [show ([] : List AV) ++ [.int ((x.toNat / 2 : Nat) : Int)] = nats [x.toNat / 2] from rfl]
  have k1 := k0.fr (o := .list (nats [x.toNat / 2])) st0
  have s1 : upd τ0 st (.list (nats [x.toNat / 2])) s = some (dO (snE [])) := (upd_ne nts.symm).trans s0
  have t1 := upd_self τ0 st (.list (nats [x.toNat / 2]))
  revert k1 s1 t1
  generalize upd τ0 st (.list (nats [x.toNat / 2])) = τ1
  intro k1 s1 t1
  have ha1 := k1.get ha (by simp)
  refine ⟨items_list ha1, ?_⟩
  k_typeOf
  (first | refine And.intro (3 * g.nd.length + 2) ?_ | (k_types; refine ⟨3 * g.nd.length + 2, ?_⟩))
  have fin : ∀ (l : Loc) (τ : AH) ks S m, CE us g p s st m l τ ks S → Keep [] σ τ → ks.length < 64 ∧ ∀ ns' : List Int, ns'.Perm (ks.map fun (i : Nat) => (i : Int)) → ∀ c, τ c = none → Q (.ref c) (upd τ c (.list (ns'.map .int))) := fun l τ ks S m hc k => by
    have := hc.kl
    refine ⟨by k_data, fun ns' hp c hcn => ?_⟩
    have hall : ∀ y ∈ ns', ∃ i : Nat, y = (i : Int) ∧ i ∈ ks := fun y hy => by
      obtain ⟨i, hi, rfl⟩ := List.mem_map.mp (hp.mem_iff.mp hy)
      exact ⟨i, rfl, hi⟩
    have e : ns'.map AV.int = nats (ns'.map Int.toNat) := by
      unfold nats
      rw [List.map_map]
      refine List.map_congr_left fun y hy => ?_
      obtain ⟨i, rfl, _⟩ := hall y hy
      rfl
    rw [e]
    refine q c _ _ (k.trans (Keep.new hcn)) (k.fresh hcn) (upd_self ..) (fun i hi => ?_) ?_
    · obtain ⟨y, hy, rfl⟩ := List.mem_map.mp hi
      obtain ⟨j, rfl, hj⟩ := hall y hy
      exact hc.lk j hj
    · have := hp.length_eq
      simp at this ⊢
      k_data
  refine while_inv (fun m l τ => (Keep [] σ τ) ∧ (X2 fun ks S => CE us g p s st m l τ ks S)) (fun l τ F hI => ?_) (fun m l τ F hI hF => ?_) _ _ _ ⟨k1, [], [x.toNat / 2], ⟨rfl, rfl, rfl, s1, t1, by simp, by simp, fun i hi => by simp at hi; subst hi; exact ⟨by k_data, ut⟩, by simp, by simp⟩⟩
  · obtain ⟨k, ks, S, ce⟩ := hI
    have hS : S = [] := by
      have := ce.le
      cases S with
      | nil => rfl
      | cons _ _ => simp at this
    subst hS
    k_typeOf
    row_witness_with ce.stack
    k_types
    rw [truth_list ce.ht (by simp)]
    k_typeOf
    row_witness_with ce.seen
    k_types
    refine sort_dO ce.hs ?_
    obtain ⟨q1, q2⟩ := fin l τ ks _ _ ce k
    refine ⟨by simpa [snE] using q1, fun ns' hp _ c hcn => q2 ns' (by rw [← snE_keys]; exact hp) c hcn⟩
  · obtain ⟨k, ks, S, ce⟩ := hI
    have hkl := ce.kl
    have hle := ce.le
    have htS := ce.tS
    rcases List.eq_nil_or_concat S with rfl | ⟨S0, i, rfl⟩
    · k_typeOf
      row_witness_with ce.stack
      k_types
      rw [truth_list ce.ht (by simp)]
      k_typeOf
      row_witness_with ce.seen
      k_types
      refine sort_dO ce.hs ?_
      obtain ⟨q1, q2⟩ := fin l τ ks _ _ ce k
      refine ⟨by simpa [snE] using q1, fun ns' hp _ c hcn => q2 ns' (by rw [← snE_keys]; exact hp) c hcn⟩
    · rw [List.concat_eq_append] at ce hle htS
      simp only [List.length_append, List.length_cons, List.length_nil] at hle htS
      obtain ⟨p1, p2⟩ := nats_last S0 i
      obtain ⟨hi, hu⟩ := ce.lS i (by simp)
      have hlS := fun j hj => ce.lS j (List.mem_append_left _ hj)
      k_typeOf
      row_witness_with ce.stack
      k_types
      rw [truth_list ce.ht (by simp; k_data), show (nats (S0 ++ [i])).isEmpty = false by simp [nats]]
      k_typeOf
      row_witness_with ce.stack
      k_typeOf
      o_head (nsAt_list ce.ht)
      k_types
      refine ⟨by rw [ce.ht]; rfl, ?_⟩
      k_typeOf
      o_head ce.ht
      refine ⟨by simp; k_data, ?_⟩
      rw [p1, p2]
      k_types
      have k2 := k.fr (o := .list (nats S0)) st0
      have s2 : upd τ st (.list (nats S0)) s = some (dO (snE ks)) := (upd_ne nts.symm).trans ce.hs
      have t2 := upd_self τ st (.list (nats S0))
      revert k2 s2 t2
      generalize upd τ st (.list (nats S0)) = τ2
      intro k2 s2 t2
      have skip : (∀ l τ, (Keep [] σ τ ∧ X2 fun ks S => CE us g p s st m l τ ks S) → F l τ) := hF
      have a2 := h.keep0 k2
      (refine Br.mk (fun hc => ?_) (fun hc => ?_))
      · have hi0 : i ≠ 0 := by simpa using hc
        k_typeOf
        row_witness_with ce.seen
        k_types
        refine mem_match s2 (memD (es := snE ks)) ?_
        rw [snE_has]
        by_cases hm : i ∈ ks
        · rw [decide_eq_true hm]
          k_typeOf
          exact hF _ _ ⟨k2, ks, S0, ⟨by (first | exact ce.seen | (k_units; exact ce.seen)), by (first | exact ce.stack | (k_units; exact ce.stack)), by (first | exact ce.aig | (k_units; exact ce.aig)), s2, t2, ce.nd, ce.lk, hlS, by k_data, by k_data⟩⟩
        · rw [decide_eq_false hm]
          have nd2 : (ks ++ [i]).Nodup := by
            o_head List.nodup_append
            refine ⟨ce.nd, by simp, fun a ha b hb => ?_⟩
            simp at hb; subst hb; rintro rfl; exact hm ha
          have lk2 : ∀ j ∈ ks ++ [i], j < g.nd.length ∧ us.getD j false = true := fun j hj => by
            rcases List.mem_append.mp hj with hj | hj
            · exact ce.lk j hj
            · simp at hj; subst hj; exact ⟨hi, hu⟩
          have kl2 : (ks ++ [i]).length ≤ g.nd.length := by
            have := nodup_len (ks ++ [i]) (List.range g.nd.length) nd2 fun x hx => List.mem_range.mpr (lk2 x hx).1
            simpa using this
          have kl3 : (ks ++ [i]).length = ks.length + 1 := by simp
          obtain ⟨nd, hnd⟩ : ∃ y, g.nd[i]? = some y := ⟨_, List.getElem?_eq_getElem hi⟩
          k_typeOf
          row_witness_with ce.seen
          k_types
          refine set_dO s2 ?_
          refine ⟨by simp [snE]; k_data, ?_⟩
          rw [dO_put, snE_put hm]
          have k3 := k2.fr (o := dO (snE (ks ++ [i]))) hs
          have s3 := upd_self τ2 s (dO (snE (ks ++ [i])))
          have t3 : upd τ2 s (dO (snE (ks ++ [i]))) st = some (.list (nats S0)) := (upd_ne nts).trans t2
          revert k3 s3 t3
          generalize upd τ2 s (dO (snE (ks ++ [i]))) = τ3
          intro k3 s3 t3
          have a3 := h.keep0 k3
          k_typeOf
          row_witness_with ce.aig
          k_typeOf
          o_head a3.ns
          k_typeOf
          o_head a3.n
          refine ⟨by k_data, ?_⟩
          rw [G.nodeAt a3 hnd]
          cases nd with
          | none =>
            k_typeOf
            exact hF _ _ ⟨k3, ks ++ [i], S0, ⟨by (first | exact ce.seen | (k_units; exact ce.seen)), by (first | exact ce.stack | (k_units; exact ce.stack)), by (first | exact ce.aig | (k_units; exact ce.aig)), s3, t3, nd2, lk2, hlS, by k_data, by k_data⟩⟩
          | some lr =>
            obtain ⟨lf, rt⟩ := lr
            obtain ⟨o1, o2, o3, o4⟩ := wf.ord i lf rt hnd
            obtain ⟨q1, q2⟩ := uc i lf rt (by k_data) (by k_data) hnd hu
            k_typeOf
            row_witness_with ce.stack
            k_typeOf
            o_head (nsAt_list t3)
            k_types
            refine ⟨by rw [t3]; rfl, ?_⟩
            k_types
            rw [fdiv2 o1, t3]
            refine ⟨by simp; k_data, ?_⟩
            k_types
            rw [nats_app]
            have k4 := k3.fr (o := .list (nats (S0 ++ [lf.toNat / 2]))) st0
            have s4 : upd τ3 st (.list (nats (S0 ++ [lf.toNat / 2]))) s = some (dO (snE (ks ++ [i]))) := (upd_ne nts.symm).trans s3
            have t4 := upd_self τ3 st (.list (nats (S0 ++ [lf.toNat / 2])))
            revert k4 s4 t4
            generalize upd τ3 st (.list (nats (S0 ++ [lf.toNat / 2]))) = τ4
            intro k4 s4 t4
            row_witness_with ce.stack
            k_typeOf
            o_head (nsAt_list t4)
            k_types
            refine ⟨by rw [t4]; rfl, ?_⟩
            k_types
            rw [fdiv2 o3, t4]
            refine ⟨by simp; k_data, ?_⟩
            k_types
            rw [nats_app]
            refine hF _ _ ⟨k4.fr st0, ks ++ [i], S0 ++ [lf.toNat / 2] ++ [rt.toNat / 2], ⟨by (first | exact ce.seen | (k_units; exact ce.seen)), by (first | exact ce.stack | (k_units; exact ce.stack)), by (first | exact ce.aig | (k_units; exact ce.aig)), (upd_ne nts.symm).trans s4, upd_self .., nd2, lk2, fun j hj => ?_, by simp; k_data, by simp; k_data⟩⟩
            simp only [List.append_assoc, List.mem_append, List.mem_cons, List.not_mem_nil, or_false] at hj
            rcases hj with hj | rfl | rfl
            · exact hlS j hj
            · exact ⟨by k_data, q1⟩
            · exact ⟨by k_data, q2⟩
      · k_typeOf
        exact hF _ _ ⟨k2, ks, S0, ⟨by (first | exact ce.seen | (k_units; exact ce.seen)), by (first | exact ce.stack | (k_units; exact ce.stack)), by (first | exact ce.aig | (k_units; exact ce.aig)), s2, t2, ce.nd, ce.lk, hlS, by k_data, by k_data⟩⟩
end


/-! ### the law's own functions: the source of draws -/
structure SrcV (σ : AH) (s i : Addr) (xs : List Int) (a b : Int) : Prop where
  s : σ s = some (.list [.ref i, .int a, .int b])
  i : σ i = some (.list (xs.map AV.int))
  len : xs.length ≤ 63
  a0 : 0 ≤ a
  b0 : 0 ≤ b
  b1 : b < 2147483563
noncomputable def Src (σ : AH) (s i : Addr) : Prop := ∃ xs a b, SrcV σ s i xs a b
theorem Src.keep {σ τ : AH} {s i : Addr} {S : List Addr} (h : Src σ s i) (k : Keep S σ τ) (n1 : s ∉ S) (n2 : i ∉ S) : Src τ s i := by
  obtain ⟨xs, a, b, h⟩ := h
  exact ⟨xs, a, b, k.get h.s n1, k.get h.i n2, h.len, h.a0, h.b0, h.b1⟩
theorem ne_nil_ints (xs : List Int) : eqLists (xs.map AV.int) [] = some (decide (xs = [])) := by
  cases xs with
  | nil => rfl
  | cons x r =>
    show (match boolsOf (AV.int x :: r.map AV.int), boolsOf [] with | some a, some b => some (a == b) | _, _ => match intsOf ((x :: r).map AV.int), intsOf [] with | some a, some b => some (a == b) | _, _ => none) = _
    have e : intsOf ((x :: r).map AV.int) = some (x :: r) := by
      have : ∀ l : List Int, intsOf (l.map AV.int) = some l := by
        intro l
        induction l with
        | nil => rfl
        | cons y l ih => show (intsOf (l.map AV.int)).map (y :: ·) = _; rw [ih]; rfl
      exact this _
    rw [e]
    rfl
theorem ne_match {τ : AH} {a b : Addr} {xs ys : List AV} {r : Bool} {Q : Bool → Prop} (h1 : τ a = some (.list xs)) (h2 : τ b = some (.list ys)) (e : eqLists xs ys = some r) (q : Q r) :
    (match τ a, τ b with
      | some (.list xs), some (.list ys) => (match eqLists xs ys with | some r => Q r | none => False)
      | _, _ => False) := by
  rw [h1, h2]
  show (match eqLists xs ys with | some r => Q r | none => False)
  rw [e]
  exact q
noncomputable def ifB : List Stmt → List Stmt | .If _ a _ _ :: _ => a | _ => []
section
variable {prog : Program} {w : World} {n : Nat} {σ : AH} {Q : AV → AH → Prop}
theorem takeC {s i : Addr} {m : Int} (h : Src σ s i) (m0 : 0 < m) (m1 : m < 1000)
    (q : ∀ v τ, 0 ≤ v → v < m → Keep [s, i] σ τ → Src τ s i → Q (.int v) τ) : CallS prog w (lib w.params) (n + 1) 398 [.ref s, .int m] σ Q := by
  obtain ⟨xs, a, b, h⟩ := h
  refine fnCall0 (kLawTake w.params) rfl ?_
  have nsi : s ≠ i := fun e => by
    have h1 := h.s
    have h2 := h.i
    rw [e, h2] at h1
    cases xs with
    | nil => simp at h1
    | cons x r => simp at h1
  have tail : ∀ (l : Loc) (τ : AH) xs a b, l "source" = some (.ref s) → l "most" = some (.int m) → Keep [s, i] σ τ → SrcV τ s i xs a b →
      blk (sk20 prog w n dLawTake.scope.names) (dLawTake.body.drop 1) l τ ⟨fun _ σ => Q .none σ, Q, fun _ _ => False⟩ := fun l τ xs a b e1 e2 k hv => by
    have ha := hv.a0
    k_typeOf
    row_witness_with e1
    k_typeOf
    o_head hv.s
    refine ⟨by decide, ?_⟩
    k_typeOf
    row_witness_with e2
    k_typeOf
    (first | refine And.intro (by k_data) ?_ | (k_types; refine ⟨by k_data, ?_⟩))
    k_typeOf
    row_witness_with e1
    k_typeOf
    o_head hv.s
    refine ⟨by decide, ?_⟩
    k_typeOf
    row_witness_with e2
    k_typeOf
    (first | refine And.intro (by k_data) (And.intro (by k_data) ?_) | (k_types; refine ⟨by k_data, by k_data, ?_⟩))
    k_typeOf
    row_witness_with e1
    k_typeOf
    o_head hv.s
    k_types
    refine ⟨by show (1 : Int) < 3; decide, ?_⟩
    k_typeOf
    have hf0 : 0 ≤ a.fdiv m := by rw [Int.fdiv_eq_ediv_of_nonneg _ (by k_data)]; exact Int.ediv_nonneg ha (by k_data)
    refine q _ _ (Int.fmod_nonneg_of_pos _ m0) (Int.fmod_lt_of_pos _ m0) (k.trans (Keep.put (by simp))) ⟨xs, a.fdiv m, b, upd_self .., (upd_ne nsi.symm).trans hv.i, hv.len, hf0, hv.b0, hv.b1⟩
  have mid : ∀ (K : Kont) (l : Loc) (τ : AH) (a b : Int), l "source" = some (.ref s) → τ s = some (.list [.ref i, .int a, .int b]) → (∀ a' l', l' = l → 0 ≤ a' → K.next l' (upd τ s (.list [.ref i, .int a', .int b]))) →
      blk (sk19 prog w n dLawTake.scope.names) (ifB dLawTake.body |>.drop 2) l τ K := fun K l τ a b e1 hs hK => by
    k_typeOf
    row_witness_with e1
    k_typeOf
    o_head hs
    refine ⟨by decide, ?_⟩
    k_types
    (refine Br.mk (fun hc => ?_) (fun hc => ?_))
    · have ha : 0 ≤ a := by simpa using hc
      k_typeOf
      row_witness_with e1
      k_typeOf
      o_head hs
      refine ⟨by decide, ?_⟩
      k_typeOf
      row_witness_with e1
      k_typeOf
      o_head hs
      k_types
      refine ⟨by show (1 : Int) < 3; decide, ?_⟩
      k_typeOf
      exact hK a l rfl ha
    · have ha : ¬ 0 ≤ a := by simpa using hc
      k_typeOf
      row_witness_with e1
      k_typeOf
      o_head hs
      refine ⟨by decide, ?_⟩
      k_typeOf
      row_witness_with e1
      k_typeOf
      o_head hs
      k_types
      refine ⟨by show (1 : Int) < 3; decide, ?_⟩
      k_typeOf
      exact hK (-a) l rfl (by k_data)
  refine blk_at 1 ?_
  k_typeOf
  o_head h.s
  refine ⟨by decide, ?_⟩
  k_types
  (refine Br.mk (fun hc => ?_) (fun hc => ?_))
  · refine blk_at 2 ?_
    k_typeOf
    o_head h.s
    refine ⟨by decide, ?_⟩
    k_typeOf
    (first | refine And.intro (IntMulOk.of_right (by decide)) ?_ | (k_types; refine ⟨IntMulOk.of_right (by decide), ?_⟩))
    k_typeOf
    o_head h.s
    k_types
    refine ⟨by show (2 : Int) < 3; decide, ?_⟩
    have b0 : 0 ≤ (b * 40014).fmod 2147483563 := Int.fmod_nonneg_of_pos _ (by decide)
    have b1 : (b * 40014).fmod 2147483563 < 2147483563 := Int.fmod_lt_of_pos _ (by decide)
    have s1 : upd σ s (.list ([AV.ref i, .int a, .int b].set (Int.toNat 2) (.int ((b * 40014).fmod 2147483563)))) s = some (.list [.ref i, .int a, .int ((b * 40014).fmod 2147483563)]) := upd_self ..
    have i1 : upd σ s (.list ([AV.ref i, .int a, .int b].set (Int.toNat 2) (.int ((b * 40014).fmod 2147483563)))) i = some (.list (xs.map AV.int)) := (upd_ne nsi.symm).trans h.i
    have k1 : Keep [s, i] σ (upd σ s (.list ([AV.ref i, .int a, .int b].set (Int.toNat 2) (.int ((b * 40014).fmod 2147483563))))) := Keep.put (by simp)
    revert s1 i1 k1 b0 b1
    generalize upd σ s (.list ([AV.ref i, .int a, .int b].set (Int.toNat 2) (.int ((b * 40014).fmod 2147483563)))) = τ1
    generalize (b * 40014).fmod 2147483563 = b'
    intro b0 b1 s1 i1 k1
    k_typeOf
    o_head s1
    refine ⟨by decide, ?_⟩
    k_typeOf
    (first | refine fun c hc => ?_ | (k_types; intro c hc))
    have nsc : s ≠ c := by first | exact nes s1 hc | exact nes' s1 hc | (rintro rfl; rw [s1] at hc; cases hc)
    have nic : i ≠ c := by first | exact nes i1 hc | exact nes' i1 hc | (rintro rfl; rw [i1] at hc; cases hc)
    have s2 : upd τ1 c (.list []) s = some (.list [.ref i, .int a, .int b']) := (upd_ne nsc).trans s1
    have i2 : upd τ1 c (.list []) i = some (.list (xs.map AV.int)) := (upd_ne nic).trans i1
    have c2 := upd_self τ1 c (.list [])
    have k2 : Keep [s, i] σ (upd τ1 c (.list [])) := k1.trans (Keep.new hc)
    revert s2 i2 k2 c2
    generalize upd τ1 c (.list []) = τ2
    intro s2 i2 c2 k2
    k_types
    refine ne_match i2 c2 (ne_nil_ints xs) ?_
    have hlen := h.len
    cases xs with
    | nil =>
      k_typeOf
      o_head s2
      refine ⟨by decide, ?_⟩
      k_typeOf
      o_head s2
      k_types
      refine ⟨by show (1 : Int) < 3; decide, ?_⟩
      refine blk.nil ?_
      refine mid _ _ _ _ b' ?_ (upd_self ..) (fun a' l' hl' ha' => ?_)
      · rfl
      subst hl'
      refine blk.nil ?_
      dsimp only
      refine tail _ _ [] a' b' ?_ ?_ ((k2.trans (Keep.put (by simp))).trans (Keep.put (by simp))) ⟨upd_self .., ?_, by simp, ha', b0, b1⟩
      · rfl
      · rfl
      exact (upd_ne nsi.symm).trans ((upd_ne nsi.symm).trans i2)
    | cons y r =>
      try (refine Br.ttd (by simp) ?_)
      k_typeOf
      o_head s2
      refine ⟨by decide, ?_⟩
      k_typeOf
      o_head (nsAt_list i2)
      k_types
      refine ⟨by rw [i2]; rfl, ?_⟩
      k_typeOf
      o_head i2
      refine ⟨rfl, by simp at hlen ⊢; k_data, ?_⟩
      k_types
      have s3 : upd τ2 i (.list (((y :: r).map AV.int).eraseIdx 0)) s = some (.list [.ref i, .int a, .int b']) := (upd_ne nsi).trans s2
      have i3 : upd τ2 i (.list (((y :: r).map AV.int).eraseIdx 0)) i = some (.list (r.map AV.int)) := upd_self ..
      have k3 : Keep [s, i] σ (upd τ2 i (.list (((y :: r).map AV.int).eraseIdx 0))) := k2.trans (Keep.put (by simp))
      revert s3 i3 k3
      generalize upd τ2 i (.list (((y :: r).map AV.int).eraseIdx 0)) = τ3
      intro s3 i3 k3
      o_head s3
      k_types
      refine ⟨by show (1 : Int) < 3; decide, ?_⟩
      refine blk.nil ?_
      refine mid _ _ _ _ b' ?_ (upd_self ..) (fun a' l' hl' ha' => ?_)
      · rfl
      subst hl'
      refine blk.nil ?_
      dsimp only
      refine tail _ _ r a' b' ?_ ?_ ((k3.trans (Keep.put (by simp))).trans (Keep.put (by simp))) ⟨upd_self .., ?_, by simp at hlen; k_data, ha', b0, b1⟩
      · rfl
      · rfl
      exact (upd_ne nsi.symm).trans ((upd_ne nsi.symm).trans i3)
  · (repeat (refine blk.nil ?_; try dsimp only [kn]))
    refine tail _ σ xs a b ?_ ?_ Keep.refl h
    · rfl
    · rfl
end


section
variable {prog : Program} {w : World} {n : Nat} {σ : AH} {Q : AV → AH → Prop}
/-- a new netlist -/
theorem netC (q : ∀ p σ', NetR σ' p 2 [] [] [] → Keep [] σ σ' → σ p.d = none → σ p.ia = none → σ p.oa = none → σ p.ca = none → Q (.ref p.a) σ') : CallS prog w (lib w.params) (n + 1) 143 [.str "m"] σ Q := by
  refine clsCall (kNetInit w.params) (netMake w.params).1 (netMake w.params).2.1 (netMake w.params).2.2 rfl fun a d hne ha hd => ?_
  have h0 : nsAt (upd (upd σ d (.ns [])) a (.inst 143 d)) a = some (143, d, []) := by
    unfold nsAt; rw [upd_self]; dsimp only; rw [upd_ne hne.symm, upd_self]
  k_typeOf
  o_head h0
  k_typeOf
  have h1 := nsAt_set (fs' := putK [] "name" (.str "m")) h0
  o_head h1
  k_typeOf
  have h2 := nsAt_set (fs' := putK (putK [] "name" (.str "m")) "count" (.int 2)) h1
  (first | refine fun c1 hc1 => ?_ | (k_types; intro c1 hc1))
  have h3 := nsAt_fresh (o := .list []) h2 hc1
  k_typeOf
  o_head h3
  k_typeOf
  (first | refine fun c2 hc2 => ?_ | (k_types; intro c2 hc2))
  have h4 := nsAt_fresh (o := .list []) (nsAt_set (fs' := putK (putK (putK [] "name" (.str "m")) "count" (.int 2)) "inputs" (.ref c1)) h3) hc2
  k_typeOf
  o_head h4
  k_typeOf
  (first | refine fun c3 hc3 => ?_ | (k_types; intro c3 hc3))
  have h5 := nsAt_fresh (o := .list []) (nsAt_set (fs' := putK (putK (putK (putK [] "name" (.str "m")) "count" (.int 2)) "inputs" (.ref c1)) "outputs" (.ref c2)) h4) hc3
  k_typeOf
  o_head h5
  k_types
  simp only [upd_none_iff] at hc1 hc2 hc3
  obtain ⟨n1d, -, n1a, -, s1⟩ := hc1
  obtain ⟨n2d, n21, -, -, n2a, -, s2⟩ := hc2
  obtain ⟨n3d, n32, -, n31, -, -, n3a, -, s3⟩ := hc3
  have e1 := hne.symm
  have e2 := n1a.symm
  have e3 := n1d.symm
  have e4 := n2d.symm
  have e5 := n21.symm
  have e6 := n2a.symm
  have e7 := n3d.symm
  have e8 := n32.symm
  have e9 := n31.symm
  have e10 := n3a.symm
  refine q ⟨a, d, c1, c2, c3⟩ _ ⟨?_, ?_, ?_, ?_, ?_, e5, e9, e8⟩ ?_ hd s1 s2 s3
  · simp [upd, *]
  · simp [upd, *, putK, sEq]
  · simp [upd, *]
  · simp [upd, *]
  · simp [upd, *]
  · refine Keep.nil fun b hb => ?_
    have z : ∀ {c}, σ c = none → b ≠ c := fun e => by rintro rfl; exact hb e
    simp [upd, z ha, z hd, z s1, z s2, z s3]

/-! the pool of inputs -/
noncomputable def plF (b : Bool) : List (Str × AV) := if b then putK (putK (putK [] "c" (.int 2)) "a" (.int 3)) "b" (.int 4) else putK (putK (putK [] "a" (.int 2)) "b" (.int 3)) "c" (.int 4)
noncomputable def vA (b : Bool) : Int := if b then 3 else 2
noncomputable def vB (b : Bool) : Int := if b then 4 else 3
noncomputable def vC (b : Bool) : Int := if b then 2 else 4
theorem plA (b : Bool) : lookK (plF b) "a" = some (.int (vA b)) := by cases b <;> kernel_rfl
theorem plB (b : Bool) : lookK (plF b) "b" = some (.int (vB b)) := by cases b <;> kernel_rfl
theorem plC (b : Bool) : lookK (plF b) "c" = some (.int (vC b)) := by cases b <;> kernel_rfl
noncomputable def ptN (b : Bool) : Nat → Str := fun k => if b then (match k with | 0 => "c" | 1 => "a" | _ => "b") else (match k with | 0 => "a" | 1 => "b" | _ => "c")
noncomputable def plK (b : Bool) : Nat → List (Str × AV) | 0 => [] | k + 1 => putK (plK b k) (ptN b k) (.int (2 + (k : Int)))
noncomputable def plO (b : Bool) (k : Nat) : AO := match k with | 0 => .dict0 | k + 1 => .dictS (plK b (k + 1))
theorem plO_asS (b : Bool) (k : Nat) : asS (plO b k) = some (plK b k) := by cases k <;> rfl
theorem plK_len (b : Bool) (k : Nat) : (plK b k).length ≤ k := by
  induction k with
  | zero => exact Nat.le_refl _
  | succ k ih => exact Nat.le_trans (putK_len ..) (by k_data)
theorem plK_3 (b : Bool) : plK b 3 = plF b := by cases b <;> rfl
/-- a netlist under way: its ports and their bits -/
structure PortsAt (σ : AH) (ps : List (Str × Addr × Int)) : Prop where
  at_ : ∀ q ∈ ps, σ q.2.1 = some (.list [.int q.2.2])
theorem idx5 {v : Int} (h0 : 0 ≤ v) (h5 : v < 5) : ∃ k : Kd, idxOf [AV.str "and", .str "or", .str "xor", .str "not", .str "mux"] v = some (.str k.str) := by
  have : v = 0 ∨ v = 1 ∨ v = 2 ∨ v = 3 ∨ v = 4 := by k_data
  rcases this with rfl | rfl | rfl | rfl | rfl
  · exact ⟨.kand, rfl⟩
  · exact ⟨.kor, rfl⟩
  · exact ⟨.kxor, rfl⟩
  · exact ⟨.knot, rfl⟩
  · exact ⟨.kmux, rfl⟩
theorem arK (k : Kd) : (lookK (putAll [] [((Str.ofString "not"), AV.int 1), ((Str.ofString "mux"), AV.int 3)]) k.str).getD (.int 2) = .int (k.ar : Int) := by cases k <;> kernel_rfl

noncomputable def bitsOf (t : List (Str × Addr × Int)) : List AV := t.map portAV
structure LN (σ : AH) (np : NP) (ps : List (Str × Addr × Int)) (cs : List (Kd × Int × List Int)) (pool nets s i : Addr) (b : Bool) (ns : List Int) (l : Loc) (τ : AH) : Prop where
  lnet : l "net" = some (.ref np.a)
  lpool : l "pool" = some (.ref pool)
  lnets : l "nets" = some (.ref nets)
  lsrc : l "source" = some (.ref s)
  lturn : l "turned" = some (.bool b)
  r : NetR τ np (5 + (cs.length : Int)) (ps.map portAV) [] (cs.map cellAV)
  keep : Keep [s, i] σ τ
  src : Src τ s i
  pl : τ pool = some (.dictS (plF b))
  ports : ∀ q ∈ ps, τ q.2.1 = some (.list [.int q.2.2])
  hns : τ nets = some (.list (ns.map AV.int))
  nl : ns.length = 3 + cs.length
  nb : ∀ x ∈ ns, 2 ≤ x ∧ x < 5 + (cs.length : Int)
end


section
variable {prog : Program} {w : World} {n : Nat} {σ : AH} {Q : AV → AH → Prop}
noncomputable def forB : List Stmt → List Stmt | .For _ _ a _ _ :: _ => a | _ => []
noncomputable def forT : List Stmt → PySem.Expr | .For t _ _ _ _ :: _ => t | _ => .Constant .none 0 default
structure PS3 (σ τ : AH) (b : Bool) (qs : List (Str × Addr × Int)) (k : Nat) : Prop where
  len : qs.length = k
  at_ : ∀ (j : Nat) q, qs[j]? = some q → q.1 = ptN b j ∧ q.2.2 = 2 + (j : Int) ∧ τ q.2.1 = some (.list [.int q.2.2]) ∧ σ q.2.1 = none
theorem netsE (b : Bool) : ∀ x ∈ [vA b, vB b, vC b], 2 ≤ x ∧ x < 5 + (0 : Int) := by cases b <;> decide
theorem law1 {K : Kont} {s i : Addr} {b : Bool} (hs : Src σ s i)
    (q : ∀ l np pool nets qs τ, LN σ np qs [] pool nets s i b [vA b, vB b, vC b] l τ → PS3 σ τ b qs 3 → σ np.d = none → σ np.ca = none → σ np.oa = none → σ nets = none → σ np.ia = none → σ pool = none → nets ≠ np.ca → nets ≠ np.oa → (∀ x ∈ qs, x.2.1 ≠ nets ∧ x.2.1 ≠ np.ca ∧ x.2.1 ≠ np.oa) → K.next l τ) :
    blk (sk20 prog w (n + 4) dLawNet.scope.names) (dLawNet.body.take 4) (argLoc ["source", "turned"] [.ref s, .bool b]) σ K := by
  k_typeOf
  refine netC fun np τ1 r1 k1 zd zi zo zc => ?_
  k_typeOf
  (first | refine fun pool hp => ?_ | (k_types; intro pool hp))
  have r2 := r1.new (o := .dict0) hp
  have p2 := upd_self τ1 pool .dict0
  have k2 : Keep [] σ (upd τ1 pool .dict0) := k1.trans (Keep.new hp)
  have npd : pool ≠ np.d := by first | exact nes r1.d hp | exact nes' r1.d hp | (rintro rfl; rw [r1.d] at hp; cases hp)
  have npi : pool ≠ np.ia := by first | exact nes r1.i hp | exact nes' r1.i hp | (rintro rfl; rw [r1.i] at hp; cases hp)
  have npc : pool ≠ np.ca := by first | exact nes r1.c hp | exact nes' r1.c hp | (rintro rfl; rw [r1.c] at hp; cases hp)
  have npo : pool ≠ np.oa := by first | exact nes r1.o hp | exact nes' r1.o hp | (rintro rfl; rw [r1.o] at hp; cases hp)
  have npa : pool ≠ np.a := by first | exact nes r1.a hp | exact nes' r1.a hp | (rintro rfl; rw [r1.a] at hp; cases hp)
  have zp := k1.fresh hp
  revert r2 p2 k2
  generalize upd τ1 pool .dict0 = τ2
  intro r2 p2 k2
  have key : ∀ (c : Addr) (l : Loc), l "net" = some (.ref np.a) → l "pool" = some (.ref pool) → l "source" = some (.ref s) → l "turned" = some (.bool b) → τ2 c = none →
      forL (fun l σ K => blk (sk19 prog w (n + 4) dLawNet.scope.names) (forB (dLawNet.body.drop 2)) l σ K) (bindT dLawNet.scope.names (forT (dLawNet.body.drop 2))) (.ref c) [.str (ptN b 0), .str (ptN b 1), .str (ptN b 2)] [.str (ptN b 0), .str (ptN b 1), .str (ptN b 2)] l (upd τ2 c (.list [.str (ptN b 0), .str (ptN b 1), .str (ptN b 2)]))
        ⟨fun l σ => blk (sk20 prog w (n + 4) dLawNet.scope.names) ((dLawNet.body.take 4).drop 3) l σ K, K.ret, K.cont⟩ := fun c l e1 e2 e3 e4 hc => by
    have g3 := upd_self τ2 c (.list [.str (ptN b 0), .str (ptN b 1), .str (ptN b 2)])
    have k3 : Keep [] τ2 (upd τ2 c (.list [.str (ptN b 0), .str (ptN b 1), .str (ptN b 2)])) := Keep.new hc
    have r3 := r2.keep0 k3
    have p3 := k3.get p2 (by simp)
    have ncp : c ≠ pool := by first | exact nes p2 hc | exact nes' p2 hc | (rintro rfl; rw [p2] at hc; cases hc)
    have ncd : c ≠ np.d := by first | exact nes r2.d hc | exact nes' r2.d hc | (rintro rfl; rw [r2.d] at hc; cases hc)
    have nci : c ≠ np.ia := by first | exact nes r2.i hc | exact nes' r2.i hc | (rintro rfl; rw [r2.i] at hc; cases hc)
    revert g3 k3 r3 p3
    generalize upd τ2 c (.list [.str (ptN b 0), .str (ptN b 1), .str (ptN b 2)]) = τ3
    intro g3 k3 r3 p3
    have kz : Keep [] σ τ3 := k2.trans k3
    refine forL_inv (fun rest l τ => A6 (l "net" = some (.ref np.a)) (l "pool" = some (.ref pool)) (l "source" = some (.ref s)) (l "turned" = some (.bool b)) (Keep [np.d, np.ia, pool] τ3 τ) (X2 fun k qs => A6 (k ≤ 3) (rest = [AV.str (ptN b 0), .str (ptN b 1), .str (ptN b 2)].drop k) (NetR τ np (2 + (k : Int)) (qs.map portAV) [] []) (τ pool = some (plO b k)) (PS3 σ τ b qs k) (∀ x ∈ qs, x.2.1 ≠ np.ca ∧ x.2.1 ≠ np.oa ∧ x.2.1 ≠ np.ia ∧ τ3 x.2.1 = none))) (fun v vs l τ F hI hF => ?_) (fun l τ hI => ?_) _ _ _ ⟨e1, e2, e3, e4, Keep.refl, 0, [], by decide, rfl, (show NetR τ3 np (2 + ((0 : Nat) : Int)) (([] : List (Str × Addr × Int)).map portAV) [] [] from r3), p3, ⟨rfl, fun j q h => by simp at h⟩, by simp⟩
    · obtain ⟨e1, e2, e3, e4, k4, k, qs, hk, f1, f2, f3, f4, f5⟩ := hI
      obtain ⟨hv, rfl⟩ := drop_cons f1.symm
      have hk3 : k < 3 := (List.getElem?_eq_some_iff.mp hv).1
      have hvn : v = .str (ptN b k) := by
        match k, hk3, hv with
        | 0, _, hv => cases hv; rfl
        | 1, _, hv => cases hv; rfl
        | 2, _, hv => cases hv; rfl
      subst hvn
      have g4 := k4.get g3 (by simp [ncp, ncd, nci])
      refine ⟨items_list g4, _, rfl, ?_⟩
      k_typeOf
      row_witness_with e1
      k_typeOf
      o_head f2.ns
      k_typeOf
      refine addInputC (n := n + 1) f2 (by have := f4.len; simp; k_data) fun c1 b1 τ5 r5 k5 zc1 zb1 gc1 gb1 nbc => ?_
      have p5 := k5.get f3 (by simp [npd, npi])
      k_typeOf
      o_head gc1
      refine ⟨by decide, ?_⟩
      k_typeOf
      row_witness_with e2
      k_typeOf
      o_head p5
      k_typeOf
      o_head plO_asS
      refine ⟨by have := plK_len b k; k_data, ?_⟩
      k_types
      rw [show AO.dictS (putK (plK b k) (ptN b k) (AV.int (2 + (k : Int)))) = plO b (k + 1) from rfl]
      have k6 : Keep [pool] τ5 (upd τ5 pool (plO b (k + 1))) := Keep.put (by simp)
      have r6 := r5.keep k6 (by simp [npa, npd, npi, npo, npc])
      have hqn : ∀ x ∈ qs, ∀ o, x.2.1 ≠ np.d ∧ x.2.1 ≠ pool ∧ (upd τ5 pool o) x.2.1 = τ x.2.1 := fun x hx o => by
        obtain ⟨j, hj⟩ := List.getElem?_of_mem hx
        obtain ⟨-, -, y3, y4⟩ := f4.at_ j x hj
        have n1 : x.2.1 ≠ np.d := ne_of_ao y3 f2.d (by simp)
        have n2 : x.2.1 ≠ pool := ne_of_ao y3 f3 (by cases k <;> simp [plO])
        exact ⟨n1, n2, (upd_ne n2).trans ((k5.get y3 (by simp [n1, (f5 x hx).2.2.1])).trans y3.symm)⟩
      have z3 : τ3 b1 = none := k4.fresh zb1
      have nbp : b1 ≠ pool := by first | exact nes f3 zb1 | exact nes' f3 zb1 | (rintro rfl; rw [f3] at zb1; cases zb1)
      (repeat (refine blk.nil ?_; try dsimp only [kn]))
      refine hF _ _ ⟨by (first | exact e1 | (k_units; exact e1)), by (first | exact e2 | (k_units; exact e2)), by (first | exact e3 | (k_units; exact e3)), by (first | exact e4 | (k_units; exact e4)), (k4.trans (k5.weaken (by simp))).trans (k6.weaken (by simp)), k + 1, qs ++ [(ptN b k, b1, 2 + (k : Int))], by k_data, rfl, ?_, upd_self .., ⟨by simp [f4.len], fun j x hj => ?_⟩, fun x hx => ?_⟩
      · have := r6
        rw [List.map_append]
        rw [show (2 + ((k + 1 : Nat) : Int)) = 2 + (k : Int) + 1 by k_data]
        exact this
      · by_cases hjk : j < k
        · rw [List.getElem?_append_left (by rw [f4.len]; exact hjk)] at hj
          obtain ⟨y1, y2, y3, y4⟩ := f4.at_ j x hj
          exact ⟨y1, y2, (hqn x (List.mem_of_getElem? hj) _).2.2.trans y3, y4⟩
        · rw [List.getElem?_append_right (by rw [f4.len]; k_data), f4.len] at hj
          have : j - k = 0 := by have := (List.getElem?_eq_some_iff.mp hj).1; simp at this; k_data
          rw [this] at hj
          simp at hj
          subst hj
          have : j = k := by k_data
          subst this
          exact ⟨rfl, rfl, (upd_ne nbp).trans gb1, kz.fresh z3⟩
      · rcases List.mem_append.mp hx with hx | hx
        · exact f5 x hx
        · simp at hx; subst hx
          exact ⟨(by first | exact nes f2.c zb1 | exact nes' f2.c zb1 | (rintro rfl; rw [f2.c] at zb1; cases zb1)), (by first | exact nes f2.o zb1 | exact nes' f2.o zb1 | (rintro rfl; rw [f2.o] at zb1; cases zb1)), (by first | exact nes f2.i zb1 | exact nes' f2.i zb1 | (rintro rfl; rw [f2.i] at zb1; cases zb1)), z3⟩
    · obtain ⟨e1, e2, e3, e4, k4, k, qs, hk, f1, f2, f3, f4, f5⟩ := hI
      have hk3 : k = 3 := by
        have := congrArg List.length f1
        simp at this
        k_data
      subst hk3
      have g4 := k4.get g3 (by simp [ncp, ncd, nci])
      rw [show plO b 3 = .dictS (plF b) by rw [← plK_3]; rfl] at f3
      refine ⟨items_list g4, ?_⟩
      k_typeOf
      row_witness_with e2
      k_typeOf
      o_head f3
      k_typeOf
      o_head plA
      k_typeOf
      row_witness_with e2
      k_typeOf
      o_head f3
      k_typeOf
      o_head plB
      k_typeOf
      row_witness_with e2
      k_typeOf
      o_head f3
      k_typeOf
      o_head plC
      k_typeOf
      (first | refine fun nets hn => ?_ | (k_types; intro nets hn))
      have kn : Keep [] τ (upd τ nets (.list [.int (vA b), .int (vB b), .int (vC b)])) := Keep.new hn
      have ka : Keep [] σ τ := by
        have a : Keep [np.d, np.ia, pool] σ τ := (kz.weaken (by simp)).trans k4
        have a : Keep [np.ia, pool] σ τ := a.drop zd
        have a : Keep [pool] σ τ := a.drop zi
        exact a.drop zp
      have kb := ka.trans kn
      have lsf : ∀ {x xs}, τ x = some (.list xs) → nets ≠ x := fun e => by first | exact nes e hn | exact nes' e hn | (rintro rfl; rw [e] at hn; cases hn)
      have f4n : PS3 σ (upd τ nets (.list [.int (vA b), .int (vB b), .int (vC b)])) b qs 3 := ⟨f4.len, fun j x hj => by
        obtain ⟨y1, y2, y3, y4⟩ := f4.at_ j x hj
        exact ⟨y1, y2, kn.get y3 (by simp), y4⟩⟩
      have rn := f2.keep0 kn
      (repeat (refine blk.nil ?_; try dsimp only [kn]))
      refine q _ np pool nets qs _ ⟨?_, ?_, rfl, ?_, ?_, ?_, kb.weaken (by simp), ?_, kn.get f3 (by simp), fun x hx => ?_, upd_self .., rfl, ?_⟩ f4n zd zc zo (ka.fresh hn) zi zp (lsf f2.c) (lsf f2.o) (fun x hx => ?_)
      · (first | exact e1 | (k_units; exact e1))
      · (first | exact e2 | (k_units; exact e2))
      · (first | exact e3 | (k_units; exact e3))
      · (first | exact e4 | (k_units; exact e4))
      · exact rn
      · obtain ⟨xs, aa, bb, hv⟩ := hs
        exact ⟨xs, aa, bb, kb.get hv.s (by simp), kb.get hv.i (by simp), hv.len, hv.a0, hv.b0, hv.b1⟩
      · obtain ⟨j, hj⟩ := List.getElem?_of_mem hx
        exact (f4n.at_ j x hj).2.2.1
      · exact netsE b
      · obtain ⟨j, hj⟩ := List.getElem?_of_mem hx
        exact ⟨(lsf (f4.at_ j x hj).2.2.1).symm, (f5 x hx).1, (f5 x hx).2.1⟩

  k_types
  (refine Br.mk (fun hc => ?_) (fun hc => ?_))
  · subst hc
    k_typeOf
    (first | refine fun c hc => ?_ | (k_types; intro c hc))
    refine .inr ⟨_, items_list (upd_self ..), ?_⟩
    (repeat (refine blk.nil ?_; try dsimp only [kn]))
    exact key c _ rfl rfl rfl rfl hc
  · subst hc
    k_typeOf
    (first | refine fun c hc => ?_ | (k_types; intro c hc))
    refine .inr ⟨_, items_list (upd_self ..), ?_⟩
    (repeat (refine blk.nil ?_; try dsimp only [kn]))
    exact key c _ rfl rfl rfl rfl hc
end


structure LZ (σ : AH) (np : NP) (pool nets s i : Addr) (qs : List (Str × Addr × Int)) : Prop where
  zd : σ np.d = none
  zi : σ np.ia = none
  zo : σ np.oa = none
  zc : σ np.ca = none
  zp : σ pool = none
  zn : σ nets = none
  nc : nets ≠ np.ca
  no : nets ≠ np.oa
  qs : ∀ x ∈ qs, σ x.2.1 = none ∧ x.2.1 ≠ nets ∧ x.2.1 ≠ np.ca ∧ x.2.1 ≠ np.oa
  hs : σ s ≠ none
  hi : σ i ≠ none
structure CG (cs : List (Kd × Int × List Int)) : Prop where
  out : ∀ (j : Nat) c, cs[j]? = some c → c.2.1 = 5 + (j : Int)
  ar : ∀ (j : Nat) c, cs[j]? = some c → c.2.2.length = c.1.ar
  ins : ∀ (j : Nat) c, cs[j]? = some c → ∀ x ∈ c.2.2, 2 ≤ x ∧ x < 5 + (j : Int)
theorem CG.snoc {cs} (h : CG cs) {k : Kd} {xs : List Int} (hl : xs.length = k.ar) (hb : ∀ x ∈ xs, 2 ≤ x ∧ x < 5 + (cs.length : Int)) : CG (cs ++ [(k, 5 + (cs.length : Int), xs)]) := by
  have key : ∀ (j : Nat) c, (cs ++ [(k, 5 + (cs.length : Int), xs)])[j]? = some c → cs[j]? = some c ∨ (j = cs.length ∧ c = (k, 5 + (cs.length : Int), xs)) := fun j c hc => by
    by_cases hj : j < cs.length
    · rw [List.getElem?_append_left hj] at hc; exact .inl hc
    · rw [List.getElem?_append_right (by k_data)] at hc
      have : j - cs.length = 0 := by have := (List.getElem?_eq_some_iff.mp hc).1; simp at this; k_data
      rw [this] at hc
      simp at hc
      exact .inr ⟨by k_data, hc.symm⟩
  refine ⟨fun j c hc => ?_, fun j c hc => ?_, fun j c hc => ?_⟩
  · rcases key j c hc with z | ⟨rfl, rfl⟩
    · exact h.out j c z
    · rfl
  · rcases key j c hc with z | ⟨rfl, rfl⟩
    · exact h.ar j c z
    · exact hl
  · rcases key j c hc with z | ⟨rfl, rfl⟩
    · exact h.ins j c z
    · exact hb
section
variable {prog : Program} {w : World} {n : Nat} {σ : AH} {Q : AV → AH → Prop} {np : NP} {pool nets s i : Addr} {qs : List (Str × Addr × Int)} {b : Bool} {cs : List (Kd × Int × List Int)} {ns : List Int} {l : Loc} {τ τ' : AH}
theorem LZ.out (z : LZ σ np pool nets s i qs) {x : Addr} (h : σ x = none) : x ∉ [s, i] := by
  simp only [List.mem_cons, List.not_mem_nil, or_false, not_or]
  exact ⟨(by rintro rfl; exact z.hs h), (by rintro rfl; exact z.hi h)⟩
theorem LN.na (h : LN σ np qs cs pool nets s i b ns l τ) : np.a ∉ [s, i] := by
  obtain ⟨xs, a, b, hv⟩ := h.src
  simp only [List.mem_cons, List.not_mem_nil, or_false, not_or]
  exact ⟨ne_of_ao h.r.a hv.s (by simp), ne_of_ao h.r.a hv.i (by simp)⟩
/-- a draw -/
theorem LN.drew (h : LN σ np qs cs pool nets s i b ns l τ) (z : LZ σ np pool nets s i qs) (k : Keep [s, i] τ τ') (hs : Src τ' s i) : LN σ np qs cs pool nets s i b ns l τ' := by
  have nd := z.out z.zd
  have ni := z.out z.zi
  have no := z.out z.zo
  have nc := z.out z.zc
  exact ⟨h.lnet, h.lpool, h.lnets, h.lsrc, h.lturn, ⟨k.get h.r.a h.na, k.get h.r.d nd, k.get h.r.i ni, k.get h.r.o no, k.get h.r.c nc, h.r.io, h.r.ic, h.r.oc⟩, h.keep.trans k, hs, k.get h.pl (z.out z.zp),
    fun q hq => k.get (h.ports q hq) (z.out (z.qs q hq).1), k.get h.hns (z.out z.zn), h.nl, h.nb⟩
theorem LN.same (h : LN σ np qs cs pool nets s i b ns l τ) (k : Keep [] τ τ') : LN σ np qs cs pool nets s i b ns l τ' := by
  obtain ⟨xs, a, b, hv⟩ := h.src
  exact ⟨h.lnet, h.lpool, h.lnets, h.lsrc, h.lturn, h.r.keep0 k, h.keep.trans (k.weaken (by simp)), ⟨xs, a, b, k.get hv.s (by simp), k.get hv.i (by simp), hv.len, hv.a0, hv.b0, hv.b1⟩, k.get h.pl (by simp),
    fun q hq => k.get (h.ports q hq) (by simp), k.get h.hns (by simp), h.nl, h.nb⟩
theorem LN.frsh {c : Addr} (h : LN σ np qs cs pool nets s i b ns l τ) (e : τ c = none) : c ∉ [s, i] := by
  obtain ⟨xs, a, b, hv⟩ := h.src
  simp only [List.mem_cons, List.not_mem_nil, or_false, not_or]
  exact ⟨(by first | exact nes hv.s e | exact nes' hv.s e | (rintro rfl; rw [hv.s] at e; cases e)), (by first | exact nes hv.i e | exact nes' hv.i e | (rintro rfl; rw [hv.i] at e; cases e))⟩
theorem nsAt_dictS {τ : AH} {a : Addr} {es : List (Str × AV)} (h : τ a = some (.dictS es)) : nsAt τ a = none := by unfold nsAt; rw [h]
theorem LN.loc {l' : Loc} (h : LN σ np qs cs pool nets s i b ns l τ) (e1 : l' "net" = l "net") (e2 : l' "pool" = l "pool") (e3 : l' "nets" = l "nets") (e4 : l' "source" = l "source") (e5 : l' "turned" = l "turned") : LN σ np qs cs pool nets s i b ns l' τ :=
  ⟨e1.trans h.lnet, e2.trans h.lpool, e3.trans h.lnets, e4.trans h.lsrc, e5.trans h.lturn, h.r, h.keep, h.src, h.pl, h.ports, h.hns, h.nl, h.nb⟩

theorem law2 {K : Kont} (h : LN σ np qs [] pool nets s i b ns l τ) (z : LZ σ np pool nets s i qs)
    (q : ∀ l cs ns τ, LN σ np qs cs pool nets s i b ns l τ → CG cs → 1 ≤ cs.length → cs.length ≤ 5 → K.next l τ) :
    blk (sk20 prog w (n + 4) dLawNet.scope.names) ((dLawNet.body.drop 4).take 1) l τ K := by
  k_typeOf
  row_witness_with h.lsrc
  k_typeOf
  refine takeC (n := n + 3) h.src (by decide) (by decide) fun v τ1 v0 v5 k1 s1 => ?_
  have h1 := h.drew z k1 s1
  k_types
  obtain ⟨M, hM⟩ : ∃ M : Nat, v = (M : Int) := ⟨v.toNat, by k_data⟩
  subst hM
  rw [show (1 + (M : Int)) = ((M + 1 : Nat) : Int) by k_data]
  refine .inr ⟨_, items_rng (by k_data), ?_⟩
  refine forL_inv (fun rest l τ => X2 fun cs ns => A3 (LN σ np qs cs pool nets s i b ns l τ) (CG cs) (cs.length + rest.length = M + 1)) (fun v vs l τ F hI hF => ?_) (fun l τ hI => ?_) _ _ _ ⟨[], ns, h1, ⟨fun j c hc => (by simp at hc), fun j c hc => (by simp at hc), fun j c hc => (by simp at hc)⟩, by simp⟩
  · obtain ⟨cs, ns, h, cg, hc⟩ := hI
    simp only [List.length_cons] at hc
    have hbt : ∃ l', bindT dLawNet.scope.names (forT (dLawNet.body.drop 4)) v l = some l' ∧ l' = updL l "_" v := ⟨_, rfl, rfl⟩
    refine ⟨items_rng (by k_data), _, rfl, ?_⟩
    have h := h.loc (l' := updL l "_" v) (by first | rfl | k_units) (by first | rfl | k_units) (by first | rfl | k_units) (by first | rfl | k_units) (by first | rfl | k_units)
    revert h
    generalize updL l "_" v = l2
    intro h
    k_typeOf
    (first | refine fun c5 z5 => ?_ | (k_types; intro c5 z5))
    have n5s := h.frsh z5
    have h := h.same (Keep.new (o := .list [.str "and", .str "or", .str "xor", .str "not", .str "mux"]) z5)
    have g5 := upd_self τ c5 (.list [.str "and", .str "or", .str "xor", .str "not", .str "mux"])
    revert h g5
    generalize upd τ c5 (.list [.str "and", .str "or", .str "xor", .str "not", .str "mux"]) = τ5
    intro h g5
    k_typeOf
    row_witness_with h.lsrc
    k_typeOf
    refine takeC (n := n + 3) h.src (by decide) (by decide) fun v1 τ6 v10 v15 k6 s6 => ?_
    have h := h.drew z k6 s6
    have g6 := k6.get g5 n5s
    obtain ⟨kd, hkd⟩ := idx5 v10 v15
    k_typeOf
    o_head g6
    refine ⟨by k_data, ?_⟩
    rw [hkd]
    k_typeOf
    (first | refine fun c7 z7 => ?_ | (k_types; intro c7 z7))
    rw [show (putAll [] ((fun (x : List (Str × AV)) => ((Str.ofString "not"), AV.int 1) :: x) ((fun (x : List (Str × AV)) => ((Str.ofString "mux"), AV.int 3) :: x) []))) = putAll [] [((Str.ofString "not"), AV.int 1), ((Str.ofString "mux"), AV.int 3)] from rfl]
    have h := h.same (Keep.new (o := .dictS (putAll [] [((Str.ofString "not"), AV.int 1), ((Str.ofString "mux"), AV.int 3)])) z7)
    have g7 := upd_self τ6 c7 (.dictS (putAll [] [((Str.ofString "not"), AV.int 1), ((Str.ofString "mux"), AV.int 3)]))
    revert h g7
    generalize upd τ6 c7 (.dictS (putAll [] [((Str.ofString "not"), AV.int 1), ((Str.ofString "mux"), AV.int 3)])) = τ7
    intro h g7
    k_typeOf
    o_head (nsAt_dictS g7)
    k_types
    refine ⟨by rw [g7]; rfl, ?_⟩
    k_typeOf
    o_head g7
    k_typeOf
    o_head arK
    k_types
    have har : kd.ar ≤ 3 := by cases kd <;> decide
    rw [items_rng (by k_data)]
    k_types
    have h := h.loc (l' := updL l2 "kind" (.str kd.str)) (by first | rfl | k_units) (by first | rfl | k_units) (by first | rfl | k_units) (by first | rfl | k_units) (by first | rfl | k_units)
    have ek : updL l2 "kind" (.str kd.str) "kind" = some (.str kd.str) := rfl
    revert h ek
    generalize updL l2 "kind" (.str kd.str) = l3
    intro h ek
    refine compL_inv (fun rest acc τ => ∃ xs : List Int, A4 (acc = xs.map AV.int) (LN σ np qs cs pool nets s i b ns l3 τ) (xs.length + rest.length = kd.ar) (∀ x ∈ xs, 2 ≤ x ∧ x < 5 + (cs.length : Int))) (fun v vs acc τ F' hI hF' => ?_) (fun acc τ hI => ?_) _ _ _ ⟨[], rfl, h, by simp, by simp⟩
    · obtain ⟨xs, rfl, h, hxl, hxb⟩ := hI
      simp only [List.length_cons] at hxl
      refine ⟨items_rng (by k_data), ?_⟩
      k_types
      rw [locC_cell (by decide) (by kernel_rfl), h.lnets]
      k_types
      rw [locC_cell (by decide) (by kernel_rfl), h.lsrc]
      k_types
      rw [locC_cell (by decide) (by kernel_rfl), h.lnets]
      k_typeOf
      o_head h.hns
      refine ⟨by rw [List.length_map, h.nl]; k_data, ?_⟩
      k_types
      rw [List.length_map, h.nl]
      refine takeC (n := n + 3) h.src (by k_data) (by k_data) fun v2 τ8 v20 v2n k8 s8 => ?_
      have h := h.drew z k8 s8
      k_typeOf
      o_head h.hns
      refine ⟨by k_data, ?_⟩
      obtain ⟨y, hy⟩ : ∃ y, ns[v2.toNat]? = some y := ⟨_, List.getElem?_eq_getElem (by rw [h.nl]; k_data)⟩
      have hx : idxOf (ns.map AV.int) v2 = some (.int y) := by unfold idxOf; rw [if_pos v20]; simp [hy]
      o_head hx
      refine ⟨by rw [List.length_map]; k_data, ?_⟩
      (repeat (refine blk.nil ?_; try dsimp only [kn]))
      refine hF' _ _ ⟨xs ++ [y], by simp, h, by simp; k_data, fun x hx => ?_⟩
      rcases List.mem_append.mp hx with hx | hx
      · exact hxb x hx
      · simp at hx; subst hx; exact h.nb _ (List.mem_of_getElem? hy)
    · obtain ⟨xs, rfl, h, hxl, hxb⟩ := hI
      simp only [List.length_nil, Nat.add_zero] at hxl
      refine ⟨items_rng (by k_data), fun c9 z9 => ?_⟩
      have h := h.same (Keep.new (o := .list (xs.map AV.int)) z9)
      have g9 := upd_self τ c9 (.list (xs.map AV.int))
      revert h g9
      generalize upd τ c9 (.list (xs.map AV.int)) = τ9
      intro h g9
      k_typeOf
      row_witness_with h.lnets
      k_typeOf
      o_head (nsAt_list h.hns)
      k_types
      refine ⟨by rw [h.hns]; rfl, ?_⟩
      k_typeOf
      row_witness_with h.lnet
      k_typeOf
      o_head h.r.ns
      k_typeOf
      row_witness_with ek
      k_typeOf
      o_head g9
      refine ⟨by rw [List.length_map]; k_data, ?_⟩
      k_typeOf
      refine addCellC (n := n + 2) h.r (by simp; k_data) fun τ10 r10 k10 => ?_
      have nnd : nets ≠ np.d := ne_of_ao h.hns h.r.d (by simp)
      have hn10 := k10.get h.hns (by simp [nnd, z.nc])
      k_typeOf
      o_head hn10
      refine ⟨by rw [List.length_map, h.nl]; k_data, ?_⟩
      k_types
      have k11 : Keep [nets] τ10 (upd τ10 nets (.list (ns.map AV.int ++ [.int (5 + (cs.length : Int))]))) := Keep.put (by simp)
      have kk : Keep [np.d, np.ca, nets] τ9 (upd τ10 nets (.list (ns.map AV.int ++ [.int (5 + (cs.length : Int))]))) := (k10.weaken (by simp)).trans (k11.weaken (by simp))
      have nna : nets ≠ np.a := ne_of_ao h.hns h.r.a (by simp)
      have nni : nets ≠ np.ia := fun e => by
        have a := h.r.i
        rw [← e, h.hns] at a
        have hq := h.nl
        have hb := h.nb
        simp only [Option.some.injEq, AO.list.injEq] at a
        cases hns : ns with
        | nil => rw [hns] at hq; simp at hq; k_data
        | cons y r =>
          rw [hns] at a
          cases qs with
          | nil => simp at a
          | cons p r' => simp at a
      have lv : ∀ {x o}, σ x = some o → x ∉ [np.d, np.ca, nets] := fun {x o} e => by
        simp only [List.mem_cons, List.not_mem_nil, or_false, not_or]
        exact ⟨(by first | exact nes z.zd e | exact nes' z.zd e | (rintro rfl; rw [z.zd] at e; cases e)), (by first | exact nes z.zc e | exact nes' z.zc e | (rintro rfl; rw [z.zc] at e; cases e)), (by first | exact nes z.zn e | exact nes' z.zn e | (rintro rfl; rw [z.zn] at e; cases e))⟩
      have hsl : s ∉ [np.d, np.ca, nets] := by
        cases e : σ s with
        | none => exact absurd e z.hs
        | some o => exact lv e
      have hil : i ∉ [np.d, np.ca, nets] := by
        cases e : σ i with
        | none => exact absurd e z.hi
        | some o => exact lv e
      have r11 := r10.keep k11 (by simp [nnd, nna, nni, z.nc, z.no])
      have ksum : Keep [s, i] σ (upd τ10 nets (.list (ns.map AV.int ++ [.int (5 + (cs.length : Int))]))) := by
        have a : Keep [np.d, np.ca, nets, s, i] σ (upd τ10 nets (.list (ns.map AV.int ++ [.int (5 + (cs.length : Int))]))) := (h.keep.weaken (by simp)).trans (kk.weaken (by simp))
        have a : Keep [np.ca, nets, s, i] σ _ := a.drop z.zd
        have a : Keep [nets, s, i] σ _ := a.drop z.zc
        exact a.drop z.zn
      have cg' := cg.snoc hxl hxb
      (repeat (refine blk.nil ?_; try dsimp only [kn]))
      refine hF _ _ ⟨cs ++ [(kd, 5 + (cs.length : Int), xs)], ns ++ [5 + (cs.length : Int)], ⟨by (first | exact h.lnet | (k_units; exact h.lnet)), by (first | exact h.lpool | (k_units; exact h.lpool)), by (first | exact h.lnets | (k_units; exact h.lnets)), by (first | exact h.lsrc | (k_units; exact h.lsrc)), by (first | exact h.lturn | (k_units; exact h.lturn)), ?_, ksum, h.src.keep kk hsl hil, kk.get h.pl ?_, fun x hx => kk.get (h.ports x hx) ?_, by rw [upd_self]; simp, by simp [h.nl]; k_data, fun x hx => ?_⟩, cg', by simp; k_data⟩
      · have e1 : (5 + ((cs ++ [(kd, 5 + (cs.length : Int), xs)]).length : Int)) = 5 + (cs.length : Int) + 1 := by simp; k_data
        rw [e1, List.map_append]
        exact r11
      · simp only [List.mem_cons, List.not_mem_nil, or_false, not_or]
        exact ⟨ne_of_ao h.pl h.r.d (by simp), ne_of_ao h.pl h.r.c (by simp), ne_of_ao h.pl h.hns (by simp)⟩
      · simp only [List.mem_cons, List.not_mem_nil, or_false, not_or]
        exact ⟨ne_of_ao (h.ports x hx) h.r.d (by simp), (z.qs x hx).2.2.1, (z.qs x hx).2.1⟩
      · have e1 : (5 + ((cs ++ [(kd, 5 + (cs.length : Int), xs)]).length : Int)) = 5 + (cs.length : Int) + 1 := by simp; k_data
        rw [e1]
        rcases List.mem_append.mp hx with hx | hx
        · have := h.nb x hx; k_data
        · simp at hx; k_data
  · obtain ⟨cs, ns, h, cg, hc⟩ := hI
    simp at hc
    refine ⟨items_rng (by k_data), ?_⟩
    k_types
    (repeat (refine blk.nil ?_; try dsimp only [kn]))
    exact q l cs ns τ h cg (by k_data) (by k_data)
end


noncomputable def oN (b : Bool) : Nat → Str := fun k => if b then (match k with | 0 => "z" | _ => "y") else (match k with | 0 => "y" | _ => "z")
noncomputable def oV (b : Bool) (y z : Int) : Nat → Int := fun k => if b then (match k with | 0 => z | _ => y) else (match k with | 0 => y | _ => z)
noncomputable def outD (y z : Int) : List (Str × AV) := putAll [] [((Str.ofString "y"), AV.int y), ((Str.ofString "z"), AV.int z)]
theorem outD_y (y z : Int) : lookK (outD y z) "y" = some (.int y) := by kernel_rfl
theorem outD_z (y z : Int) : lookK (outD y z) "z" = some (.int z) := by kernel_rfl
theorem outD_at (b : Bool) (y z : Int) (k : Nat) : lookK (outD y z) (oN b k) = some (.int (oV b y z k)) := by
  cases b <;> cases k <;> first | exact outD_y y z | exact outD_z y z
noncomputable def mkN (b : Bool) (y z : Int) (cs : List (Kd × Int × List Int)) : Nt :=
  { i1 := ptN b 0, i2 := ptN b 1, i3 := ptN b 2, o1 := oN b 0, o2 := oN b 1, v1 := 2, v2 := 3, v3 := 4, y1 := oV b y z 0, y2 := oV b y z 1, cnt := 5 + (cs.length : Int), cs := cs }
theorem mkN_first (y z cs) : (mkN false y z cs).First := ⟨rfl, rfl, rfl, rfl, rfl⟩
theorem mkN_second (y z cs) : (mkN true y z cs).Second := ⟨rfl, rfl, rfl, rfl, rfl⟩
theorem mkN_good {b : Bool} {y z : Int} {cs} (h : CG cs) (hy : 2 ≤ y ∧ y < 5 + (cs.length : Int)) (hz : 2 ≤ z ∧ z < 5 + (cs.length : Int)) : (mkN b y z cs).Good :=
  ⟨rfl, rfl, rfl, h.out, h.ar, h.ins, by cases b <;> assumption, by cases b <;> assumption⟩
section
variable {prog : Program} {w : World} {n : Nat} {σ : AH} {Q : AV → AH → Prop} {np : NP} {pool nets s i : Addr} {qs : List (Str × Addr × Int)} {b : Bool} {cs : List (Kd × Int × List Int)} {ns : List Int} {l : Loc} {τ τ' : AH}
theorem idx_back {k : Nat} (hk : k < ns.length) {j : Int} (hj : j = -1 - (k : Int)) : ∃ y, y ∈ ns ∧ idxOf (ns.map AV.int) j = some (.int y) := by
  have hlt : ns.length - 1 - k < ns.length := by k_data
  refine ⟨ns[ns.length - 1 - k], List.getElem_mem hlt, ?_⟩
  unfold idxOf
  rw [if_neg (by k_data), if_pos (by rw [List.length_map]; k_data), List.length_map]
  have : (j + (ns.length : Int)).toNat = ns.length - 1 - k := by k_data
  rw [this]
  simp [hlt]
structure Built (σ τ : AH) (b : Bool) (s i : Addr) (t : NtP) (pool outs : Addr) (y z : Int) (cs : List (Kd × Int × List Int)) : Prop where
  net : NetAt τ t (mkN b y z cs)
  good : (mkN b y z cs).Good
  pos : 1 ≤ cs.length
  keep : Keep [s, i] σ τ
  src : Src τ s i
  pl : τ pool = some (.dictS (plF b))
  ou : τ outs = some (.dictS (outD y z))
  fr : ∀ a ∈ t.lists, σ a = none
  fp : σ pool = none
  fo : σ outs = none

theorem law3 {K : Kont} (h : LN σ np qs cs pool nets s i b ns l τ) (z : LZ σ np pool nets s i qs) (hq : PS3 σ τ' b qs 3) (cg : CG cs) (c1 : 1 ≤ cs.length) (c5 : cs.length ≤ 5)
    (q : ∀ t outs y z τ, t.p.a = np.a → Built σ τ b s i t pool outs y z cs → K.ret (.tup [.ref np.a, .ref pool, .ref outs]) τ) :
    blk (sk20 prog w (n + 4) dLawNet.scope.names) (dLawNet.body.drop 5) l τ K := by
  k_typeOf
  row_witness_with h.lnets
  k_types
  obtain ⟨y, hy, hyi⟩ := idx_back (ns := ns) (k := 0) (by rw [h.nl]; k_data) (j := -1) rfl
  rw [h.hns]
  refine ⟨by decide, ?_⟩
  rw [hyi]
  k_typeOf
  row_witness_with h.lnets
  k_typeOf
  row_witness_with h.lsrc
  k_typeOf
  refine takeC (n := n + 3) h.src (by decide) (by decide) fun v τ1 v0 v2 k1 s1 => ?_
  have h := h.drew z k1 s1
  obtain ⟨zz, hz, hzi⟩ := idx_back (ns := ns) (k := v.toNat) (by rw [h.nl]; k_data) (j := -1 - v) (by k_data)
  k_typeOf
  o_head h.hns
  refine ⟨by k_data, ?_⟩
  rw [hzi]
  k_typeOf
  (first | refine fun outs zo => ?_ | (k_types; intro outs zo))
  rw [show (putAll [] ((fun (x : List (Str × AV)) => ((Str.ofString "y"), AV.int y) :: x) ((fun (x : List (Str × AV)) => ((Str.ofString "z"), AV.int zz) :: x) []))) = outD y zz from rfl]
  have zo' : σ outs = none := h.keep.fresh zo
  have h := h.same (Keep.new (o := .dictS (outD y zz)) zo)
  have g1 := upd_self τ1 outs (.dictS (outD y zz))
  have key : ∀ (c : Addr) (τ2 : AH) (l : Loc), τ2 = upd τ1 outs (.dictS (outD y zz)) → l "net" = some (.ref np.a) → l "pool" = some (.ref pool) → l "outs" = some (.ref outs) → τ2 c = none →
      forL (fun l σ K => blk (sk19 prog w (n + 4) dLawNet.scope.names) (forB (dLawNet.body.drop 6)) l σ K) (bindT dLawNet.scope.names (forT (dLawNet.body.drop 6))) (.ref c) [.str (oN b 0), .str (oN b 1)] [.str (oN b 0), .str (oN b 1)] l (upd τ2 c (.list [.str (oN b 0), .str (oN b 1)]))
        ⟨fun l σ => blk (sk20 prog w (n + 4) dLawNet.scope.names) (dLawNet.body.drop 7) l σ K, K.ret, K.cont⟩ := fun c τ2 l ht e1 e2 e3 hc => by
    rw [← ht] at h g1
    have h := h.same (Keep.new (o := .list [.str (oN b 0), .str (oN b 1)]) hc)
    have nco : c ≠ outs := by first | exact nes g1 hc | exact nes' g1 hc | (rintro rfl; rw [g1] at hc; cases hc)
    have g2 : upd τ2 c (.list [.str (oN b 0), .str (oN b 1)]) outs = some (.dictS (outD y zz)) := (upd_ne nco.symm).trans g1
    have g3 := upd_self τ2 c (.list [.str (oN b 0), .str (oN b 1)])
    have ncoa : c ≠ np.oa := by rintro rfl; have := (‹LN σ np qs cs pool nets s i b ns _ τ2›).r.o; rw [this] at hc; cases hc
    revert h g2 g3
    generalize upd τ2 c (.list [.str (oN b 0), .str (oN b 1)]) = τ3
    intro h g2 g3
    have noo : outs ≠ np.oa := ne_of_ao g2 h.r.o (by simp)
    refine forL_inv (fun rest l τ => A5 (l "net" = some (.ref np.a)) (l "pool" = some (.ref pool)) (l "outs" = some (.ref outs)) (Keep [np.oa] τ3 τ) (X2 fun k ws => A5 (k ≤ 2) (rest = [AV.str (oN b 0), .str (oN b 1)].drop k) (NetR τ np (5 + (cs.length : Int)) (qs.map portAV) (ws.map portAV) (cs.map cellAV)) (ws.length = k) ((∀ (j : Nat) (x : Str × Addr × Int), ws[j]? = some x → x.1 = oN b j ∧ x.2.2 = oV b y zz j ∧ τ x.2.1 = some (.list [.int x.2.2]) ∧ σ x.2.1 = none ∧ x.2.1 ≠ np.oa)))) (fun v vs l τ F hI hF => ?_) (fun l τ hI => ?_) _ _ _ ⟨e1, e2, e3, Keep.refl, 0, [], by decide, rfl, h.r, rfl, fun j x hx => (by simp at hx)⟩
    · obtain ⟨e1, e2, e3, k4, k, ws, hk, f1, f2, f3, f4⟩ := hI
      obtain ⟨hv, rfl⟩ := drop_cons f1.symm
      have hk2 : k < 2 := (List.getElem?_eq_some_iff.mp hv).1
      have hvn : v = .str (oN b k) := by
        match k, hk2, hv with
        | 0, _, hv => cases hv; rfl
        | 1, _, hv => cases hv; rfl
      subst hvn
      have g4 := k4.get g3 (by simp [ncoa])
      have o4 := k4.get g2 (by simp [noo])
      refine ⟨items_list g4, _, rfl, ?_⟩
      k_typeOf
      row_witness_with e1
      k_typeOf
      o_head f2.ns
      k_typeOf
      row_witness_with e3
      k_typeOf
      o_head o4
      k_typeOf
      o_head outD_at
      k_typeOf
      (first | refine fun c2 hc2 => ?_ | (k_types; intro c2 hc2))
      have kc : Keep [] τ (upd τ c2 (.list [.int (oV b y zz k)])) := Keep.new hc2
      have r2 := f2.keep0 kc
      k_typeOf
      refine addOutputC (n := n + 3) r2 (by simp; k_data) (upd_self ..) (by simp) fun b2 τ6 r6 k6 z6 g6 => ?_
      have zb : τ b2 = none := kc.fresh z6
      have nbo : b2 ≠ np.oa := by first | exact nes f2.o zb | exact nes' f2.o zb | (rintro rfl; rw [f2.o] at zb; cases zb)
      have k7 : Keep [np.oa] τ τ6 := (kc.weaken (by simp)).trans k6
      k_types
      (repeat (refine blk.nil ?_; try dsimp only [kn]))
      refine hF _ _ ⟨by (first | exact e1 | (k_units; exact e1)), by (first | exact e2 | (k_units; exact e2)), by (first | exact e3 | (k_units; exact e3)), k4.trans k7, k + 1, ws ++ [(oN b k, b2, oV b y zz k)], by k_data, rfl, ?_, by simp [f3], fun j x hj => ?_⟩
      · rw [List.map_append]; exact r6
      · by_cases hjk : j < k
        · rw [List.getElem?_append_left (by rw [f3]; exact hjk)] at hj
          obtain ⟨y1, y2, y3, y4, y5⟩ := f4 j x hj
          exact ⟨y1, y2, k7.get y3 (by simp [y5]), y4, y5⟩
        · rw [List.getElem?_append_right (by rw [f3]; k_data), f3] at hj
          have : j - k = 0 := by have := (List.getElem?_eq_some_iff.mp hj).1; simp at this; k_data
          rw [this] at hj
          simp at hj
          subst hj
          have : j = k := by k_data
          subst this
          exact ⟨rfl, rfl, g6, h.keep.fresh (k4.fresh zb), nbo⟩
    · obtain ⟨e1, e2, e3, k4, k, ws, hk, f1, f2, f3, f4⟩ := hI
      have hk2 : k = 2 := by
        have := congrArg List.length f1
        simp at this
        k_data
      subst hk2
      have g4 := k4.get g3 (by simp [ncoa])
      refine ⟨items_list g4, ?_⟩
      k_typeOf
      row_witness_with e1
      k_typeOf
      row_witness_with e2
      k_typeOf
      row_witness_with e3
      k_types
      have hs0 : s ∉ [np.oa] := by simp; rintro rfl; exact z.hs z.zo
      have hi0 : i ∉ [np.oa] := by simp; rintro rfl; exact z.hi z.zo
      have kf : Keep [s, i] σ τ := by
        have a : Keep [np.oa, s, i] σ τ := (h.keep.weaken (by simp)).trans (k4.weaken (by simp))
        exact a.drop z.zo
      obtain ⟨⟨m0, a0, u0⟩, ⟨m1, a1, u1⟩, ⟨m2, a2, u2⟩, rfl⟩ := len3 hq.len
      obtain ⟨⟨p0, d0, t0⟩, ⟨p1, d1, t1⟩, rfl⟩ := len2 f3
      obtain ⟨x1, x2, -, -⟩ := hq.at_ 0 _ rfl
      obtain ⟨x3, x4, -, -⟩ := hq.at_ 1 _ rfl
      obtain ⟨x5, x6, -, -⟩ := hq.at_ 2 _ rfl
      obtain ⟨y1, y2, y3, y4, y5⟩ := f4 0 _ rfl
      obtain ⟨y6, y7, y8, y9, y10⟩ := f4 1 _ rfl
      dsimp only at x1 x2 x3 x4 x5 x6 y1 y2 y3 y4 y5 y6 y7 y8 y9 y10
      subst x1 x2 x3 x4 x5 x6 y1 y2 y6 y7
      have hp0 := h.ports _ (List.mem_cons_self ..)
      have hp1 := h.ports _ (List.mem_cons_of_mem _ (List.mem_cons_self ..))
      have hp2 := h.ports _ (List.mem_cons_of_mem _ (List.mem_cons_of_mem _ (List.mem_cons_self ..)))
      have hz0 := z.qs _ (List.mem_cons_self ..)
      have hz1 := z.qs _ (List.mem_cons_of_mem _ (List.mem_cons_self ..))
      have hz2 := z.qs _ (List.mem_cons_of_mem _ (List.mem_cons_of_mem _ (List.mem_cons_self ..)))
      (repeat (refine blk.nil ?_; try dsimp only [kn]))
      refine q ⟨np, a0, a1, a2, d0, d1⟩ outs y zz τ rfl ⟨⟨f2, k4.get hp0 (by simp [hz0.2.2.2]), k4.get hp1 (by simp [hz1.2.2.2]), k4.get hp2 (by simp [hz2.2.2.2]), y3, y8, c5⟩, mkN_good cg (h.nb _ hy) (h.nb _ hz), c1, kf, h.src.keep k4 hs0 hi0, k4.get h.pl (by simp; exact ne_of_ao h.pl h.r.o (by simp)), k4.get g2 (by simp [noo]), fun x hx => ?_, z.zp, zo'⟩
      simp only [NtP.lists, List.mem_cons, List.not_mem_nil, or_false] at hx
      rcases hx with rfl | rfl | rfl | rfl | rfl | rfl | rfl | rfl
      · exact z.zi
      · exact z.zo
      · exact z.zc
      · exact hz0.1
      · exact hz1.1
      · exact hz2.1
      · exact y4
      · exact y9
  have lt := h.lturn
  have ln := h.lnet
  have lp := h.lpool
  k_typeOf
  row_witness_with lt
  k_types
  (refine Br.mk (fun hc => ?_) (fun hc => ?_))
  · subst hc
    k_typeOf
    (first | refine fun c hc => ?_ | (k_types; intro c hc))
    refine .inr ⟨_, items_list (upd_self ..), ?_⟩
    (repeat (refine blk.nil ?_; try dsimp only [kn]))
    exact key c _ _ rfl (by (first | exact ln | (k_units; exact ln))) (by (first | exact lp | (k_units; exact lp))) (by first | rfl | k_units) hc
  · subst hc
    k_typeOf
    (first | refine fun c hc => ?_ | (k_types; intro c hc))
    refine .inr ⟨_, items_list (upd_self ..), ?_⟩
    (repeat (refine blk.nil ?_; try dsimp only [kn]))
    exact key c _ _ rfl (by (first | exact ln | (k_units; exact ln))) (by (first | exact lp | (k_units; exact lp))) (by first | rfl | k_units) hc

theorem lawNetC {b : Bool} (hs : Src σ s i)
    (q : ∀ t pool outs y z cs τ, Built σ τ b s i t pool outs y z cs → Q (.tup [.ref t.p.a, .ref pool, .ref outs]) τ) : CallS prog w (lib w.params) (n + 5) 403 [.ref s, .bool b] σ Q := by
  refine fnCall0 (kLawNet w.params) rfl ?_
  have h0 := hs
  obtain ⟨xs, a, bb, hv⟩ := h0
  refine blk_at 4 (law1 hs fun l np pool nets qs τ h hq zd zc zo zn zi zp nc no hx => ?_)
  have z : LZ σ np pool nets s i qs := ⟨zd, zi, zo, zc, zp, zn, nc, no, fun x hx' => ?_, by rw [hv.s]; simp, by rw [hv.i]; simp⟩
  · refine blk_at 1 (law2 h z fun l cs ns τ2 h2 cg c1 c5 => ?_)
    exact law3 h2 z hq cg c1 c5 fun t outs y z τ3 e hb => e ▸ q t pool outs y z cs τ3 hb
  · obtain ⟨j, hj⟩ := List.getElem?_of_mem hx'
    exact ⟨(hq.at_ j x hj).2.2.2, (hx x hx').1, (hx x hx').2.1, (hx x hx').2.2⟩
end


noncomputable def bI (b : Bool) : Int := if b then 1 else 0
noncomputable abbrev bis (l : List Bool) : List AV := l.map fun b => AV.int (bI b)
/-- a clause under values -/
noncomputable def litH (vs : List Bool) (one : Int) : Bool := vs.getD (one.natAbs - 1) false == decide (0 < one)
noncomputable def clH (vs : List Bool) (c : List Int) : Bool := c.any (litH vs)
noncomputable def heldB (vs : List Bool) (cls : List (List Int)) : Bool := cls.all (clH vs)
theorem bI_one (b : Bool) : (bI b == 1) = b := by cases b <;> rfl
theorem abs_one {x : Int} (h : 1 ≤ x.natAbs) : ((if x < 0 then -x else x) - 1) = ((x.natAbs - 1 : Nat) : Int) := by split <;> k_data
theorem bis_get {vs : List Bool} {i : Nat} (h : i < vs.length) : idxOf (bis vs) (i : Int) = some (.int (bI (vs.getD i false))) := by
  refine idx_nat ?_
  simp [bis, h]
theorem boolsOf_bls (l : List Bool) : boolsOf (bls l) = some l := by
  induction l with
  | nil => rfl
  | cons b r ih => show (boolsOf (bls r)).map (b :: ·) = _; rw [ih]; rfl
theorem memB (l : List Bool) : member (.bool true) (.list (bls l)) = some (l.contains true) := by
  show (boolsOf (bls l)).map (·.contains true) = _
  rw [boolsOf_bls]; rfl
theorem any_true {α : Type} (l : List α) (f : α → Bool) : (l.map f).contains true = l.any f := by
  induction l with
  | nil => rfl
  | cons a r ih => rw [List.map_cons, List.contains_cons, ih, List.any_cons]; cases f a <;> rfl
section
variable {prog : Program} {w : World} {n : Nat} {σ : AH} {Q : AV → AH → Prop}
theorem lawHeldC {c v : Addr} {cls : List (List Int)} {vs : List Bool} (hc : σ c = some (.list (cls.map clAV))) (hv : σ v = some (.list (bis vs))) (hl : ∀ cl ∈ cls, cl.length ≤ 3 ∧ ∀ x ∈ cl, 1 ≤ x.natAbs ∧ x.natAbs ≤ vs.length) (hvl : vs.length ≤ 1000)
    (q : ∀ τ, Keep [] σ τ → Q (.bool (heldB vs cls)) τ) : CallS prog w (lib w.params) (n + 1) 418 [.ref c, .ref v] σ Q := by
  refine fnCall0 (kLawHeld w.params) rfl ?_
  k_types
  refine .inr ⟨_, items_list hc, ?_⟩
  refine forL_inv (fun rest l τ => A3 (l "values" = some (.ref v)) (Keep [] σ τ) (X2 fun done todo => A3 (cls = done ++ todo) (rest = todo.map clAV) (heldB vs done = true))) (fun u us l τ F hI hF => ?_) (fun l τ hI => ?_) _ _ _ ⟨rfl, Keep.refl, [], cls, rfl, rfl, rfl⟩
  · obtain ⟨e1, k, done, todo, f1, f2, f3⟩ := hI
    cases todo with
    | nil => cases f2
    | cons cl todo =>
      cases f2
      obtain ⟨hl3, hlb⟩ := hl cl (by rw [f1]; simp)
      have f1' : cls = (done ++ [cl]) ++ todo := by rw [f1]; simp
      refine ⟨items_list (k.get hc (by simp)), _, rfl, ?_⟩
      k_types
      refine compL_inv (fun rest acc τ' => (τ' = τ) ∧ (X2 fun dn td => A3 (cl = dn ++ td) (rest = td.map AV.int) (acc = bls (dn.map (litH vs))))) (fun u us acc τ' F' hI hF' => ?_) (fun acc τ' hI => ?_) _ _ _ ⟨rfl, [], cl, rfl, rfl, rfl⟩
      · obtain ⟨rfl, dn, td, h1, h2, rfl⟩ := hI
        cases td with
        | nil => cases h2
        | cons x td =>
          cases h2
          obtain ⟨hx1, hx2⟩ := hlb x (by rw [h1]; simp)
          refine ⟨rfl, ?_⟩
          k_types
          rw [locC_cell (by decide) (by kernel_rfl)]
          row_witness_with e1
          k_types
          rw [k.get hv (by simp), abs_one hx1]
          refine ⟨by k_data, ?_⟩
          rw [bis_get (by k_data)]
          k_typeOf
          o_head bI_one
          refine ⟨by simp [bls]; have := congrArg List.length h1; simp at this; k_data, ?_⟩
          (repeat (refine blk.nil ?_; try dsimp only [kn]))
          refine hF' _ _ ⟨rfl, dn ++ [x], td, by rw [h1]; simp, rfl, ?_⟩
          simp [bls, litH]
      · obtain ⟨rfl, dn, td, h1, h2, rfl⟩ := hI
        have ht : td = [] := by cases td with
          | nil => rfl
          | cons _ _ => cases h2
        subst ht
        rw [List.append_nil] at h1
        subst h1
        refine ⟨rfl, fun c2 hc2 => ?_⟩
        refine mem_match (upd_self ..) (memB _) ?_
        have k2 : Keep [] σ (upd τ' c2 (.list (bls (cl.map (litH vs))))) := k.trans (Keep.new hc2)
        rw [any_true]
        (refine Br.mk (fun hc => ?_) (fun hc => ?_))
        · have hcl : clH vs cl = false := by simpa [clH] using hc
          have hfin : heldB vs cls = false := by rw [f1]; simp [heldB, hcl]
          k_types
          rw [← hfin]
          (repeat (refine blk.nil ?_; try dsimp only [kn]))
          exact q _ k2
        · have hcl : clH vs cl = true := by simpa [clH] using hc
          k_types
          (repeat (refine blk.nil ?_; try dsimp only [kn]))
          exact hF _ _ ⟨by (first | exact e1 | (k_units; exact e1)), k2, done ++ [cl], todo, f1', rfl, by unfold heldB at f3 ⊢; rw [List.all_append, f3]; simp [hcl]⟩
  · obtain ⟨e1, k, done, todo, f1, f2, f3⟩ := hI
    have ht : todo = [] := by cases todo with
      | nil => rfl
      | cons _ _ => cases f2
    subst ht
    rw [List.append_nil] at f1
    subst f1
    refine ⟨items_list (k.get hc (by simp)), ?_⟩
    k_types
    rw [← f3]
    (repeat (refine blk.nil ?_; try dsimp only [kn]))
    exact q τ k
end


noncomputable def inA (k : Nat) : Bool := decide (k % 2 = 1)
noncomputable def inB (k : Nat) : Bool := decide (k / 2 % 2 = 1)
noncomputable def inC (k : Nat) : Bool := decide (k / 4 % 2 = 1)
noncomputable def alF (k : Nat) (i : Nat) : Bool := if i = 1 then inA k else if i = 2 then inB k else if i = 3 then inC k else false
theorem in_val {k : Nat} (hk : k < 8) (j : Nat) (hj : j < 3) : (((k : Int).fdiv ((2 : Int) ^ j)).fmod 2) = bI (alF k (j + 1)) := by
  have h1 : k = 0 ∨ k = 1 ∨ k = 2 ∨ k = 3 ∨ k = 4 ∨ k = 5 ∨ k = 6 ∨ k = 7 := by k_data
  have h2 : j = 0 ∨ j = 1 ∨ j = 2 := by k_data
  rcases h1 with rfl | rfl | rfl | rfl | rfl | rfl | rfl | rfl <;> rcases h2 with rfl | rfl | rfl <;> rfl
theorem xor_bI (b : Bool) (l : Int) : Builtin.bitXor (bI b) (l.fmod 2) = bI (b ^^ decide (l % 2 = 1)) := by
  rw [Int.fmod_eq_emod_of_nonneg _ (by decide)]
  rcases emod2 l with h | h <;> rw [h] <;> cases b <;> decide
theorem min_bI {a b : Bool} {m : Int} (h : m ∈ [bI a, bI b]) (hm : ∀ x ∈ [bI a, bI b], m ≤ x) : m = bI (a && b) := by
  have h1 := hm (bI a) (by simp)
  have h2 := hm (bI b) (by simp)
  simp only [List.mem_cons, List.not_mem_nil, or_false] at h
  cases a <;> cases b <;> simp [bI] at * <;> k_data
theorem max_bI {a b : Bool} {m : Int} (h : m ∈ [bI a, bI b]) (hm : ∀ x ∈ [bI a, bI b], x ≤ m) : m = bI (a || b) := by
  have h1 := hm (bI a) (by simp)
  have h2 := hm (bI b) (by simp)
  simp only [List.mem_cons, List.not_mem_nil, or_false] at h
  cases a <;> cases b <;> simp [bI] at * <;> k_data
theorem intsOf_ints (l : List Int) : intsOf (l.map AV.int) = some l := by
  induction l with
  | nil => rfl
  | cons y l ih => show (intsOf (l.map AV.int)).map (y :: ·) = _; rw [ih]; rfl
theorem intsAt {τ : AH} {a : Addr} {ns : List Int} (h : τ a = some (.list (ns.map AV.int))) : listInts τ (.ref a) = some ns := by
  unfold listInts
  dsimp only
  rw [h]
  exact intsOf_ints ns
theorem fdiv_two {l : Int} (h : 0 ≤ l) : l.fdiv 2 = ((l.toNat / 2 : Nat) : Int) := fdiv2 h
section
variable {prog : Program} {w : World} {n : Nat} {σ : AH} {Q : AV → AH → Prop} {p : AP} {g : G}
theorem none_at (e : Ext (gI 3) g) {i : Nat} (h : g.nd[i]? = some none) : i < 4 := by
  obtain ⟨t, ht, hn⟩ := e.nd
  rw [ht] at h
  by_cases hi : i < 4
  · exact hi
  · rw [List.getElem?_append_right (by show (4 : Nat) ≤ i; k_data)] at h
    exact absurd rfl (hn _ (List.mem_of_getElem? h))
theorem lawNodesC {k : Nat} (hk : k < 8) (h : AigAt σ p g) (wf : g.WF) (e : Ext (gI 3) g) (hl : g.nd.length ≤ 900)
    (q : ∀ c τ, Keep [] σ τ → σ c = none → τ c = some (.list (bis (nv (alF k) g.nd))) → Q (.ref c) τ) : CallS prog w (lib w.params) (n + 1) 413 [.ref p.a, .int (k : Int)] σ Q := by
  refine fnCall0 (kLawNodes w.params) rfl ?_
  k_typeOf
  (first | refine fun c zc => ?_ | (k_types; intro c zc))
  have k0 : Keep [] σ (upd σ c (.list [])) := Keep.new zc
  have c0 := upd_self σ c (.list [])
  revert k0 c0
  generalize upd σ c (.list []) = τ0
  intro k0 c0
  have a0 := h.keep0 k0
  k_typeOf
  o_head a0.ns
  k_typeOf
  o_head a0.n
  refine ⟨by rw [G.nLen]; k_data, ?_⟩
  k_types
  rw [G.nLen]
  refine .inr ⟨_, items_rng (by k_data), ?_⟩
  refine forL_inv (fun rest l τ => A5 (l "values" = some (.ref c)) (l "graph" = some (.ref p.a)) (l "number" = some (.int (k : Int))) (Keep [] σ τ) (∃ m, A3 (m ≤ g.nd.length) (rest = ((List.range g.nd.length).drop m).map (fun (i : Nat) => AV.int (i : Int))) (τ c = some (.list (bis (nv (alF k) (g.nd.take m))))))) (fun v vs l τ F hI hF => ?_) (fun l τ hI => ?_) _ _ _ ⟨by first | rfl | k_units, rfl, rfl, k0, 0, by k_data, rfl, c0⟩
  · obtain ⟨e1, e2, e3, k3, m, hm, f1, f2⟩ := hI
    cases hd' : (List.range g.nd.length).drop m with
    | nil => rw [hd'] at f1; cases f1
    | cons i r' =>
      obtain ⟨hp, rfl⟩ := drop_cons hd'
      rw [hd'] at f1
      cases f1
      obtain ⟨hi, hi2⟩ := List.getElem?_eq_some_iff.mp hp
      simp only [List.getElem_range] at hi2
      subst hi2
      simp only [List.length_range] at hi
      have a3 := h.keep0 k3
      obtain ⟨nd, hnd⟩ : ∃ y, g.nd[m]? = some y := ⟨_, List.getElem?_eq_getElem hi⟩
      have hV : (nv (alF k) (g.nd.take m)).length = m := by rw [nv_len, List.length_take]; k_data
      have hstep : bis (nv (alF k) (g.nd.take m)) ++ [.int (bI (nodeV (alF k) (nv (alF k) (g.nd.take m)) nd))] = bis (nv (alF k) (g.nd.take (m + 1))) := by
        rw [List.take_add_one, hnd, Option.toList_some, nv_snoc]
        simp [bis]
      have hlen2 : (bis (nv (alF k) (g.nd.take m))).length ≤ 1000000 := by rw [List.length_map, hV]; k_data
      refine ⟨items_rng (by k_data), _, rfl, ?_⟩
      k_typeOf
      row_witness_with e2
      k_typeOf
      o_head a3.ns
      k_typeOf
      o_head a3.n
      refine ⟨by k_data, ?_⟩
      rw [G.nodeAt a3 hnd]
      k_types
      (refine Br.mk (fun hc => ?_) (fun hc => ?_))
      · have hm0 : m = 0 := by simpa using hc
        have hn0 : nd = none := by
          subst hm0
          rw [wf.n0] at hnd
          exact (Option.some.inj hnd).symm
        have hv0 : bI (nodeV (alF k) (nv (alF k) (g.nd.take m)) nd) = 0 := by
          rw [hn0]
          unfold nodeV
          rw [hV, hm0]
          rfl
        rw [hv0] at hstep
        k_typeOf
        row_witness_with e1
        k_typeOf
        o_head (nsAt_list f2)
        k_types
        refine ⟨by rw [f2]; rfl, ?_⟩
        k_typeOf
        o_head f2
        refine ⟨hlen2, ?_⟩
        k_types
        rw [hstep]
        (repeat (refine blk.nil ?_; try dsimp only [kn]))
        exact hF _ _ ⟨by (first | exact e1 | (k_units; exact e1)), by (first | exact e2 | (k_units; exact e2)), by (first | exact e3 | (k_units; exact e3)), k3.fr zc, m + 1, by k_data, rfl, upd_self ..⟩
      · have hm0 : m ≠ 0 := by simpa using hc
        cases nd with
        | none =>
          have hm4 := none_at e hnd
          have hins : g.ins = [1, 2, 3] := e.ins
          have hix : ([1, 2, 3] : List Int).idxOf (m : Int) = m - 1 := by
            have : m = 1 ∨ m = 2 ∨ m = 3 := by k_data
            rcases this with rfl | rfl | rfl <;> rfl
          have hmem : (m : Int) ∈ ([1, 2, 3] : List Int) := by
            have : m = 1 ∨ m = 2 ∨ m = 3 := by k_data
            rcases this with rfl | rfl | rfl <;> decide
          have hval := in_val hk (m - 1) (by k_data)
          have hv1 : bI (nodeV (alF k) (nv (alF k) (g.nd.take m)) none) = bI (alF k (m - 1 + 1)) := by
            unfold nodeV
            rw [hV, show m - 1 + 1 = m by k_data]
          rw [hv1, ← hval] at hstep
          k_typeOf
          row_witness_with e1
          k_typeOf
          o_head (nsAt_list f2)
          k_types
          refine ⟨by rw [f2]; rfl, ?_⟩
          k_typeOf
          row_witness_with e3
          k_typeOf
          row_witness_with e2
          k_typeOf
          o_head a3.ns
          k_typeOf
          o_head (nsAt_list a3.i)
          k_types
          refine ⟨by rw [a3.i]; rfl, ?_⟩
          k_types
          rw [a3.i, show g.iAV = [.int 1, .int 2, .int 3] by unfold G.iAV; rw [hins]; rfl]
          k_typeOf
          (first | refine And.intro (hmem) ?_ | (k_types; refine ⟨hmem, ?_⟩))
          rw [hix]
          k_typeOf
          (first | refine And.intro (by k_data) (And.intro (by k_data) ?_) | (k_types; refine ⟨by k_data, by k_data, ?_⟩))
          k_types
          rw [Int.toNat_natCast]
          have hp3 : (2 : Int) ^ (m - 1) = 1 ∨ (2 : Int) ^ (m - 1) = 2 ∨ (2 : Int) ^ (m - 1) = 4 := by
            have : m = 1 ∨ m = 2 ∨ m = 3 := by k_data
            rcases this with rfl | rfl | rfl
            · exact .inl rfl
            · exact .inr (.inl rfl)
            · exact .inr (.inr rfl)
          refine ⟨by k_data, by k_data, ?_⟩
          k_typeOf
          o_head f2
          refine ⟨hlen2, ?_⟩
          k_types
          rw [hstep]
          (repeat (refine blk.nil ?_; try dsimp only [kn]))
          exact hF _ _ ⟨by (first | exact e1 | (k_units; exact e1)), by (first | exact e2 | (k_units; exact e2)), by (first | exact e3 | (k_units; exact e3)), k3.fr zc, m + 1, by k_data, rfl, upd_self ..⟩
        | some lr =>
          obtain ⟨lf, rt⟩ := lr
          obtain ⟨o1, o2, o3, o4⟩ := wf.ord m lf rt hnd
          k_typeOf
          row_witness_with e1
          k_typeOf
          o_head (nsAt_list f2)
          k_types
          refine ⟨by rw [f2]; rfl, ?_⟩
          k_types
          rw [locC_cell (by decide) (by kernel_rfl)]
          row_witness_with e1
          k_types
          rw [fdiv_two o1, f2]
          refine ⟨by k_data, ?_⟩
          rw [bis_get (by k_data)]
          k_types
          rw [xor_bI]
          rw [locC_cell (by decide) (by kernel_rfl)]
          row_witness_with e1
          k_types
          rw [fdiv_two o3, f2]
          refine ⟨by k_data, ?_⟩
          rw [bis_get (by k_data)]
          k_types
          rw [xor_bI]
          intro c2 hc2
          have n2 : c ≠ c2 := by first | exact nes f2 hc2 | exact nes' f2 hc2 | (rintro rfl; rw [f2] at hc2; cases hc2)
          rw [show ([] ++ [AV.int (bI ((nv (alF k) (List.take m g.nd)).getD (lf.toNat / 2) false ^^ decide (lf % 2 = 1)))] ++
              [AV.int (bI ((nv (alF k) (List.take m g.nd)).getD (rt.toNat / 2) false ^^ decide (rt % 2 = 1)))]) = [AV.int (bI (lv (nv (alF k) (g.nd.take m)) lf)), .int (bI (lv (nv (alF k) (g.nd.take m)) rt))] from rfl]
          have hv1 : bI (nodeV (alF k) (nv (alF k) (g.nd.take m)) (some (lf, rt))) = bI (lv (nv (alF k) (g.nd.take m)) lf && lv (nv (alF k) (g.nd.take m)) rt) := rfl
          rw [hv1] at hstep
          have g2 := upd_self τ c2 (.list [AV.int (bI (lv (nv (alF k) (g.nd.take m)) lf)), .int (bI (lv (nv (alF k) (g.nd.take m)) rt))])
          have f3 : upd τ c2 (.list [AV.int (bI (lv (nv (alF k) (g.nd.take m)) lf)), .int (bI (lv (nv (alF k) (g.nd.take m)) rt))]) c = some (.list (bis (nv (alF k) (g.nd.take m)))) := (upd_ne n2).trans f2
          have k4 := k3.trans (Keep.new (o := .list [AV.int (bI (lv (nv (alF k) (g.nd.take m)) lf)), .int (bI (lv (nv (alF k) (g.nd.take m)) rt))]) hc2)
          revert g2 f3 k4
          generalize upd τ c2 (.list [AV.int (bI (lv (nv (alF k) (g.nd.take m)) lf)), .int (bI (lv (nv (alF k) (g.nd.take m)) rt))]) = τ4
          intro g2 f3 k4
          k_types
          rw [intsAt (ns := [bI (lv (nv (alF k) (g.nd.take m)) lf), bI (lv (nv (alF k) (g.nd.take m)) rt)]) g2]
          k_typeOf
          (first | refine fun mm hm1 hm2 => ?_ | (k_types; intro mm hm1 hm2))
          have hmm := min_bI hm1 hm2
          subst hmm
          k_typeOf
          o_head f3
          refine ⟨hlen2, ?_⟩
          k_types
          rw [hstep]
          (repeat (refine blk.nil ?_; try dsimp only [kn]))
          exact hF _ _ ⟨by (first | exact e1 | (k_units; exact e1)), by (first | exact e2 | (k_units; exact e2)), by (first | exact e3 | (k_units; exact e3)), k4.fr zc, m + 1, by k_data, rfl, upd_self ..⟩
  · obtain ⟨e1, e2, e3, k3, m, hm, f1, f2⟩ := hI
    have hmm : m = g.nd.length := by
      have := congrArg List.length f1
      simp at this
      k_data
    subst hmm
    rw [List.take_length] at f2
    refine ⟨items_rng (by k_data), ?_⟩
    k_typeOf
    row_witness_with e1
    k_types
    (repeat (refine blk.nil ?_; try dsimp only [kn]))
    exact q c τ k3 zc f2
end


/-- the inputs of a netlist in the order of its nets -/
noncomputable def inV (b : Bool) (k : Nat) (j : Nat) : Bool := if b then (match j with | 0 => inC k | 1 => inA k | _ => inB k) else (match j with | 0 => inA k | 1 => inB k | _ => inC k)
noncomputable def Nt.at_ (N : Nt) (b : Bool) (k : Nat) : Int → Bool := N.env (inV b k 0) (inV b k 1) (inV b k 2)
noncomputable def bits0 (b : Bool) (p q r : Int) : List (Int × AV) := putAll [] [(0, .int 0), (1, .int 1), (vA b, .int p), (vB b, .int q), (vC b, .int r)]
theorem in1 {k : Nat} (hk : k < 8) : ((k : Int).fmod 2) = bI (inA k) := by
  have h1 : k = 0 ∨ k = 1 ∨ k = 2 ∨ k = 3 ∨ k = 4 ∨ k = 5 ∨ k = 6 ∨ k = 7 := by k_data
  rcases h1 with rfl | rfl | rfl | rfl | rfl | rfl | rfl | rfl <;> rfl
theorem in2 {k : Nat} (hk : k < 8) : (((k : Int).fdiv 2).fmod 2) = bI (inB k) := by
  have h1 : k = 0 ∨ k = 1 ∨ k = 2 ∨ k = 3 ∨ k = 4 ∨ k = 5 ∨ k = 6 ∨ k = 7 := by k_data
  rcases h1 with rfl | rfl | rfl | rfl | rfl | rfl | rfl | rfl <;> rfl
theorem in4 {k : Nat} (hk : k < 8) : ((k : Int).fdiv 4) = bI (inC k) := by
  have h1 : k = 0 ∨ k = 1 ∨ k = 2 ∨ k = 3 ∨ k = 4 ∨ k = 5 ∨ k = 6 ∨ k = 7 := by k_data
  rcases h1 with rfl | rfl | rfl | rfl | rfl | rfl | rfl | rfl <;> rfl
theorem bits0_look {b : Bool} {k : Nat} {x : Int} (h0 : 0 ≤ x) (h5 : x < 5) : lookK (bits0 b (bI (inA k)) (bI (inB k)) (bI (inC k))) x = some (.int (bI (baseV (inV b k 0) (inV b k 1) (inV b k 2) x))) := by
  have hx : x = 0 ∨ x = 1 ∨ x = 2 ∨ x = 3 ∨ x = 4 := by k_data
  cases b <;> rcases hx with rfl | rfl | rfl | rfl | rfl <;> rfl
theorem bits0_len (b : Bool) (p q r : Int) : (bits0 b p q r).length = 5 := by cases b <;> rfl
theorem opD (p q r s : Int) (k : Kd) (h : k ≠ .kmux) : lookK (putAll [] [((Str.ofString "and"), AV.int p), ((Str.ofString "or"), AV.int q), ((Str.ofString "xor"), AV.int r), ((Str.ofString "not"), AV.int s)]) k.str = some (.int (match k with | .kand => p | .kor => q | .kxor => r | _ => s)) := by
  cases k with
  | kmux => exact absurd rfl h
  | _ => kernel_rfl
theorem not_mux {k : Kd} (h : k ≠ .kmux) : (k.str == Str.ofString "mux") = false := by
  cases k with
  | kmux => exact absurd rfl h
  | _ => decide +kernel
section
variable {prog : Program} {w : World} {n : Nat} {σ : AH} {Q : AV → AH → Prop} {t : NtP} {b : Bool} {y z : Int} {cs : List (Kd × Int × List Int)}
theorem lawValueC {k : Nat} {pool : Addr} {x : Int} (hk : k < 8) (h : NetAt σ t (mkN b y z cs)) (g : (mkN b y z cs).Good) (hp : σ pool = some (.dictS (plF b))) (hx0 : 0 ≤ x) (hx1 : x < 5 + (cs.length : Int))
    (q : ∀ τ, Keep [] σ τ → Q (.int (bI ((mkN b y z cs).at_ b k x))) τ) : CallS prog w (lib w.params) (n + 1) 408 [.ref t.p.a, .ref pool, .int (k : Int), .int x] σ Q := by
  refine fnCall0 (kLawValue w.params) rfl ?_
  have hlen := h.len
  k_typeOf
  o_head hp
  k_typeOf
  o_head plA
  k_typeOf
  o_head hp
  k_typeOf
  o_head plB
  k_typeOf
  o_head hp
  k_typeOf
  o_head plC
  k_typeOf
  (first | refine fun d hd => ?_ | (k_types; intro d hd))
  rw [show (putAll [] ((fun (x : List (Int × AV)) => (0, AV.int 0) :: x) ((fun (x : List (Int × AV)) => (1, AV.int 1) :: x) ((fun (x : List (Int × AV)) => (vA b, AV.int ((k : Int).fmod 2)) :: x) ((fun (x : List (Int × AV)) => (vB b, AV.int (((k : Int).fdiv 2).fmod 2)) :: x) ((fun (x : List (Int × AV)) => (vC b, AV.int ((k : Int).fdiv 4)) :: x) [])))))) = bits0 b (bI (inA k)) (bI (inB k)) (bI (inC k)) by rw [in1 hk, in2 hk, in4 hk]; rfl]
  have k0 : Keep [] σ (upd σ d (.dictI (bits0 b (bI (inA k)) (bI (inB k)) (bI (inC k))))) := Keep.new hd
  have d0 := upd_self σ d (.dictI (bits0 b (bI (inA k)) (bI (inB k)) (bI (inC k))))
  revert k0 d0
  generalize upd σ d (.dictI (bits0 b (bI (inA k)) (bI (inB k)) (bI (inC k)))) = τ0
  intro k0 d0
  have n0 := h.keep0 k0
  k_typeOf
  o_head n0.r.ns
  k_types
  refine .inr ⟨_, n0.iC, ?_⟩
  have envL : ∀ x : Int, x < 5 → (mkN b y z cs).at_ b k x = baseV (inV b k 0) (inV b k 1) (inV b k 2) x := fun x hx => Nt.env_low g _ _ _ hx
  have hgc : (mkN b y z cs).cs = cs := rfl
  refine forL_inv (fun rest l τ => A4 (l "bits" = some (.ref d)) (l "wanted" = some (.int x)) (Keep [] σ τ) (X3 fun done todo es => A5 (cs = done ++ todo) (rest = todo.map cellAV) (τ d = some (.dictI es)) (es.length ≤ 5 + done.length) (∀ x : Int, 0 ≤ x → x < 5 + (done.length : Int) → lookK es x = some (.int (bI ((mkN b y z cs).at_ b k x)))))) (fun v vs l τ F hI hF => ?_) (fun l τ hI => ?_) _ _ _ ⟨rfl, rfl, k0, [], cs, _, rfl, rfl, d0, by rw [bits0_len]; simp, fun x h0 h5 => by rw [bits0_look h0 (by simpa using h5), envL x (by simpa using h5)]⟩
  · obtain ⟨e1, e2, k1, done, todo, es, f1, f2, f3, f4, f5⟩ := hI
    cases todo with
    | nil => cases f2
    | cons c0 todo =>
      cases f2
      have f1' : cs = (done ++ [c0]) ++ todo := by rw [f1]; simp
      have hc0 : (mkN b y z cs).cs[done.length]? = some c0 := by rw [hgc, f1]; simp
      have hout := g.out _ _ hc0
      have har := g.ar _ _ hc0
      have hins := g.ins _ _ hc0
      have hdl : done.length < 5 := by
        have := congrArg List.length f1
        have h5 : cs.length ≤ 5 := hlen
        simp at this; k_data
      have n1 := h.keep0 k1
      have har3 : c0.2.2.length ≤ 3 := by rw [har]; cases c0.1 <;> decide
      refine ⟨n1.iC, _, rfl, ?_⟩
      k_types
      refine compL_inv (fun rest acc τ' => (τ' = τ) ∧ (X2 fun dn td => A3 (c0.2.2 = dn ++ td) (rest = td.map AV.int) (acc = bis (dn.map ((mkN b y z cs).at_ b k))))) (fun u us acc τ' F' hI hF' => ?_) (fun acc τ' hI => ?_) _ _ _ ⟨rfl, [], c0.2.2, rfl, rfl, rfl⟩
      · obtain ⟨rfl, dn, td, h1, h2, rfl⟩ := hI
        cases td with
        | nil => cases h2
        | cons xx td =>
          cases h2
          obtain ⟨hx1, hx2⟩ := hins xx (by rw [h1]; simp)
          refine ⟨rfl, ?_⟩
          k_types
          rw [locC_cell (by decide) (by kernel_rfl)]
          row_witness_with e1
          k_typeOf
          o_head f3
          k_types
          rw [f5 xx (by k_data) (by k_data)]
          refine ⟨by simp [bis]; have := congrArg List.length h1; simp at this; k_data, ?_⟩
          (repeat (refine blk.nil ?_; try dsimp only [kn]))
          refine hF' _ _ ⟨rfl, dn ++ [xx], td, by rw [h1]; simp, rfl, by simp [bis]⟩
      · obtain ⟨rfl, dn, td, h1, h2, rfl⟩ := hI
        have ht : td = [] := by cases td with
          | nil => rfl
          | cons _ _ => cases h2
        subst ht
        rw [List.append_nil] at h1
        refine ⟨rfl, fun ro hro => ?_⟩
        have ndr : d ≠ ro := by first | exact nes f3 hro | exact nes' f3 hro | (rintro rfl; rw [f3] at hro; cases hro)
        subst h1
        have k2 : Keep [] σ (upd τ' ro (.list (bis (c0.2.2.map ((mkN b y z cs).at_ b k))))) := k1.trans (Keep.new hro)
        have g2 := upd_self τ' ro (.list (bis (c0.2.2.map ((mkN b y z cs).at_ b k))))
        have d2 : upd τ' ro (.list (bis (c0.2.2.map ((mkN b y z cs).at_ b k)))) d = some (.dictI es) := (upd_ne ndr).trans f3
        have hE : (mkN b y z cs).at_ b k (5 + (done.length : Int)) = c0.1.sem (c0.2.2.map ((mkN b y z cs).at_ b k)) := Nt.env_cell g _ _ _ hc0
        revert k2 g2 d2 hE
        generalize upd τ' ro (.list (bis (c0.2.2.map ((mkN b y z cs).at_ b k)))) = τ2
        intro k2 g2 d2 hE
        have fin : ∀ (l2 : Loc) (τ3 : AH) (v : Int), l2 "bits" = some (.ref d) → l2 "wanted" = some (.int x) → Keep [] σ τ3 → v = bI (c0.1.sem (c0.2.2.map ((mkN b y z cs).at_ b k))) → F l2 (upd τ3 d (.dictI (putK es c0.2.1 (.int v)))) := fun l2 τ3 v a1 a2 a3 a4 => by
          refine hF _ _ ⟨a1, a2, a3.fr hd, done ++ [c0], todo, putK es c0.2.1 (.int v), f1', rfl, upd_self .., by have := putK_len es c0.2.1 (.int v); simp; k_data, fun x0 h0 h5 => ?_⟩
          rw [lookK_put]
          split
          · rename_i ex
            rw [ex, hout, hE, a4]
          · rename_i ex
            refine f5 x0 h0 ?_
            rw [hout] at ex
            simp at h5
            k_data
        generalize hEE : (mkN b y z cs).at_ b k = E at *
        obtain ⟨kd, out, ins⟩ := c0
        dsimp only at har har3 g2 fin hout
        by_cases hk' : kd = .kmux
        · subst hk'
          obtain ⟨i0, i1, i2, rfl⟩ := len3 har
          have r2 : τ2 ro = some (.list [.int (bI (E i0)), .int (bI (E i1)), .int (bI (E i2))]) := g2
          k_types
          try (refine Br.ttd (by dsimp only; decide +kernel) ?_)
          k_typeOf
          o_head r2
          refine ⟨by decide, ?_⟩
          k_types
          rw [bI_one]
          (refine Br.mk (fun hc => ?_) (fun hc => ?_))
          · k_typeOf
            o_head r2
            refine ⟨by decide, ?_⟩
            k_typeOf
            row_witness_with e1
            k_typeOf
            o_head d2
            refine ⟨by k_data, ?_⟩
            k_types
            (repeat (refine blk.nil ?_; try dsimp only [kn]))
            exact fin _ _ _ (by (first | exact e1 | (k_units; exact e1))) (by (first | exact e2 | (k_units; exact e2))) k2 (by show _ = bI (if E i0 = true then E i2 else E i1); simp [hc])
          · k_typeOf
            o_head r2
            refine ⟨by decide, ?_⟩
            k_typeOf
            row_witness_with e1
            k_typeOf
            o_head d2
            refine ⟨by k_data, ?_⟩
            k_types
            (repeat (refine blk.nil ?_; try dsimp only [kn]))
            exact fin _ _ _ (by (first | exact e1 | (k_units; exact e1))) (by (first | exact e2 | (k_units; exact e2))) k2 (by show _ = bI (if E i0 = true then E i2 else E i1); simp [hc])
        · have hpos : 0 < ins.length := by rw [har]; cases kd <;> decide
          k_types
          try (refine Br.ffd (by dsimp only; exact not_mux hk') ?_)
          k_types
          rw [intsAt (ns := (ins.map E).map bI) (by rw [g2]; simp [bis])]
          k_types
          refine ⟨by simp; k_data, ?_⟩
          intro mn hmn1 hmn2
          k_types
          rw [intsAt (ns := (ins.map E).map bI) (by rw [g2]; simp [bis])]
          k_types
          refine ⟨by simp; k_data, ?_⟩
          intro mx hmx1 hmx2
          k_types
          rw [intsAt (ns := (ins.map E).map bI) (by rw [g2]; simp [bis])]
          k_types
          refine ⟨by simp; k_data, ?_, ?_⟩
          · intro u hu
            obtain ⟨bb, -, rfl⟩ := List.mem_map.mp hu
            cases bb <;> decide
          k_typeOf
          o_head g2
          refine ⟨by decide, ?_⟩
          have hx0' : idxOf (bis (ins.map E)) 0 = some (.int (bI (E (ins.getD 0 0)))) := by
            obtain ⟨i0, r0, rfl⟩ := List.exists_cons_of_length_pos hpos
            rfl
          rw [hx0']
          k_typeOf
          (first | refine fun c2 hc2 => ?_ | (k_types; intro c2 hc2))
          have k3 := k2.trans (Keep.new (o := .dictS (putAll [] [((Str.ofString "and"), AV.int mn), ((Str.ofString "or"), AV.int mx), ((Str.ofString "xor"), AV.int ((((ins.map E).map bI).sum).fmod 2)), ((Str.ofString "not"), AV.int (1 - bI (E (ins.getD 0 0))))])) hc2)
          have d3 : upd τ2 c2 (.dictS (putAll [] [((Str.ofString "and"), AV.int mn), ((Str.ofString "or"), AV.int mx), ((Str.ofString "xor"), AV.int ((((ins.map E).map bI).sum).fmod 2)), ((Str.ofString "not"), AV.int (1 - bI (E (ins.getD 0 0))))])) d = some (.dictI es) := (upd_ne (by first | exact nes d2 hc2 | exact nes' d2 hc2 | (rintro rfl; rw [d2] at hc2; cases hc2))).trans d2
          have g3 := upd_self τ2 c2 (.dictS (putAll [] [((Str.ofString "and"), AV.int mn), ((Str.ofString "or"), AV.int mx), ((Str.ofString "xor"), AV.int ((((ins.map E).map bI).sum).fmod 2)), ((Str.ofString "not"), AV.int (1 - bI (E (ins.getD 0 0))))]))
          rw [show (putAll [] ((fun (x : List (Str × AV)) => ((Str.ofString "and"), AV.int mn) :: x) ((fun (x : List (Str × AV)) => ((Str.ofString "or"), AV.int mx) :: x) ((fun (x : List (Str × AV)) => ((Str.ofString "xor"), AV.int ((((ins.map E).map bI).sum).fmod 2)) :: x) ((fun (x : List (Str × AV)) => ((Str.ofString "not"), AV.int (1 - bI (E (ins.getD 0 0)))) :: x) []))))) = putAll [] [((Str.ofString "and"), AV.int mn), ((Str.ofString "or"), AV.int mx), ((Str.ofString "xor"), AV.int ((((ins.map E).map bI).sum).fmod 2)), ((Str.ofString "not"), AV.int (1 - bI (E (ins.getD 0 0))))] from rfl]
          revert k3 d3 g3
          generalize upd τ2 c2 (.dictS (putAll [] [((Str.ofString "and"), AV.int mn), ((Str.ofString "or"), AV.int mx), ((Str.ofString "xor"), AV.int ((((ins.map E).map bI).sum).fmod 2)), ((Str.ofString "not"), AV.int (1 - bI (E (ins.getD 0 0))))])) = τ3
          intro k3 d3 g3
          k_typeOf
          o_head g3
          k_types
          rw [show lookK (putAll [] [((Str.ofString "and"), AV.int mn), ((Str.ofString "or"), AV.int mx), ((Str.ofString "xor"), AV.int ((((ins.map E).map bI).sum).fmod 2)), ((Str.ofString "not"), AV.int (1 - bI (E (ins.getD 0 0))))]) (kd, out, ins).fst.str = _ from opD mn mx _ _ kd hk']
          k_typeOf
          row_witness_with e1
          k_typeOf
          o_head d3
          refine ⟨by k_data, ?_⟩
          k_types
          (repeat (refine blk.nil ?_; try dsimp only [kn]))
          refine fin _ _ _ (by (first | exact e1 | (k_units; exact e1))) (by (first | exact e2 | (k_units; exact e2))) k3 ?_
          cases kd with
          | kmux => exact absurd rfl hk'
          | kand =>
            obtain ⟨i0, i1, rfl⟩ := len2 har
            exact min_bI hmn1 hmn2
          | kor =>
            obtain ⟨i0, i1, rfl⟩ := len2 har
            exact max_bI hmx1 hmx2
          | kxor =>
            obtain ⟨i0, i1, rfl⟩ := len2 har
            show ([bI (E i0), bI (E i1)] : List Int).sum.fmod 2 = bI (E i0 ^^ E i1)
            cases E i0 <;> cases E i1 <;> decide
          | knot =>
            obtain ⟨i0, rfl⟩ := len1 har
            show 1 - bI (E i0) = bI (!E i0)
            cases E i0 <;> decide
  · obtain ⟨e1, e2, k1, done, todo, es, f1, f2, f3, f4, f5⟩ := hI
    have ht : todo = [] := by cases todo with
      | nil => rfl
      | cons _ _ => cases f2
    subst ht
    rw [List.append_nil] at f1
    have n1 := h.keep0 k1
    refine ⟨n1.iC, ?_⟩
    k_typeOf
    row_witness_with e1
    k_typeOf
    row_witness_with e2
    k_typeOf
    o_head f3
    k_types
    rw [f5 x hx0 (by rw [← f1]; exact hx1)]
    k_types
    (repeat (refine blk.nil ?_; try dsimp only [kn]))
    exact q τ k1
end


/-! ### the clauses, in plain lists -/
theorem varOf_pos {x : Int} (h : 0 ≤ x) : varOf x = if x % 2 = 1 then -(((x.toNat / 2 : Nat) : Int) + 1) else ((x.toNat / 2 : Nat) : Int) + 1 := by
  unfold varOf
  rw [band1, show x.fdiv 2 = ((x.toNat / 2 : Nat) : Int) from fdiv_two h]
theorem litH_out (vs : List Bool) (i : Nat) : litH vs ((i : Int) + 1) = vs.getD i false := by
  unfold litH
  rw [show ((i : Int) + 1).natAbs - 1 = i by k_data, decide_eq_true (by k_data : (0 : Int) < (i : Int) + 1)]
  cases vs.getD i false <;> rfl
theorem litH_neg (vs : List Bool) {x : Int} (h : x ≠ 0) : litH vs (-x) = !litH vs x := by
  unfold litH
  rw [Int.natAbs_neg]
  by_cases h0 : 0 < x
  · rw [decide_eq_true h0, decide_eq_false (by k_data)]
    cases vs.getD (x.natAbs - 1) false <;> rfl
  · rw [decide_eq_false h0, decide_eq_true (by k_data)]
    cases vs.getD (x.natAbs - 1) false <;> rfl
theorem litH_var (vs : List Bool) {x : Int} (h : 0 ≤ x) : litH vs (varOf x) = lv vs x := by
  rw [varOf_pos h]
  unfold lv
  split
  · rename_i hx
    rw [litH_neg _ (by k_data), litH_out, decide_eq_true hx]
    cases vs.getD (x.toNat / 2) false <;> rfl
  · rename_i hx
    rw [litH_out, decide_eq_false hx]
    cases vs.getD (x.toNat / 2) false <;> rfl
theorem varOf_ne {x : Int} (h : 0 ≤ x) : varOf x ≠ 0 := by rw [varOf_pos h]; split <;> k_data
theorem varOf_abs {x : Int} {n : Nat} (h : 0 ≤ x) (hx : x < 2 * (n : Int)) : 1 ≤ (varOf x).natAbs ∧ (varOf x).natAbs ≤ n := by rw [varOf_pos h]; split <;> k_data
/-- the value of a node that is a pair -/
theorem nv_pair {g : G} (w : g.WF) (α : Nat → Bool) {i : Nat} {l r : Int} (h : g.nd[i]? = some (some (l, r))) : (nv α g.nd).getD i false = (lv (nv α g.nd) l && lv (nv α g.nd) r) := by
  obtain ⟨o1, o2, o3, o4⟩ := w.ord i l r h
  obtain ⟨t, q⟩ := nv_get (α := α) h
  have hi := (List.getElem?_eq_some_iff.mp h).1
  have lt : (nv α (g.nd.take i)).length = i := by rw [nv_len, List.length_take]; k_data
  rw [q, lv_pre o1 (by rw [lt]; exact o2), lv_pre o3 (by rw [lt]; exact o4), getD_right (by rw [lt]; exact Nat.le_refl i), lt]
  simp [nodeV_some]
theorem nv_zero {g : G} (w : g.WF) {α : Nat → Bool} (hα : α 0 = false) : (nv α g.nd).getD 0 false = false := by
  obtain ⟨t, q⟩ := nv_get (α := α) w.n0
  rw [q]
  simp [nodeV_none, nv, nvF, hα]
theorem gate_ok {g : G} (w : g.WF) {α : Nat → Bool} (hα : α 0 = false) (i : Nat) : (gate g i).all (clH (nv α g.nd)) = true := by
  unfold gate
  by_cases h : i = 0
  · rw [if_pos h]
    subst h
    show (clH _ _ && true) = true
    unfold clH
    rw [List.any_cons, List.any_nil, litH_neg _ (by k_data), litH_out, nv_zero w hα]
    rfl
  · rw [if_neg h]
    cases h : g.nd[i]? with
    | none => rfl
    | some o => cases o with
    | none => rfl
    | some lr =>
      obtain ⟨l, r⟩ := lr
      obtain ⟨o1, o2, o3, o4⟩ := w.ord i l r h
      have hv := nv_pair w α h
      dsimp only
      simp only [List.all_cons, List.all_nil, clH, List.any_cons, List.any_nil, litH_neg _ (show ((i : Int) + 1) ≠ 0 by k_data), litH_neg _ (varOf_ne o1), litH_neg _ (varOf_ne o3), litH_out, litH_var _ o1, litH_var _ o3, hv]
      cases lv (nv α g.nd) l <;> cases lv (nv α g.nd) r <;> rfl
theorem held_true {g : G} (w : g.WF) {α : Nat → Bool} (hα : α 0 = false) (I : List Nat) {x : Int} (hx : 0 ≤ x) : heldB (nv α g.nd) (gates g I ++ [[varOf x]]) = g.lit α x := by
  unfold heldB gates
  rw [List.all_append, List.all_flatMap]
  have : I.all (fun a => (gate g a).all (clH (nv α g.nd))) = true := by rw [List.all_eq_true]; intro i _; exact gate_ok w hα i
  rw [this]
  show (true && (clH _ _ && true)) = _
  unfold clH
  rw [List.any_cons, List.any_nil, litH_var _ hx]
  unfold G.lit
  cases lv (nv α g.nd) x <;> rfl
theorem lv_set {vs : List Bool} {i : Nat} {b : Bool} {x : Int} (h : x.toNat / 2 ≠ i) : lv (vs.set i b) x = lv vs x := by
  unfold lv
  congr 1
  simp only [List.getD_eq_getElem?_getD, List.getElem?_set]
  rw [if_neg (fun e => h e.symm)]
theorem held_flip {g : G} (w : g.WF) {α : Nat → Bool} (I : List Nat) {i : Nat} {l r : Int} (h : g.nd[i]? = some (some (l, r))) (hi : i ∈ I) (cl : List (List Int)) :
    heldB ((nv α g.nd).set i (!(nv α g.nd).getD i false)) (gates g I ++ cl) = false := by
  obtain ⟨o1, o2, o3, o4⟩ := w.ord i l r h
  have hil := (List.getElem?_eq_some_iff.mp h).1
  have hv := nv_pair w α h
  have hi0 : i ≠ 0 := by k_data
  have e1 := lv_set (vs := nv α g.nd) (b := !(nv α g.nd).getD i false) (x := l) (i := i) (by k_data)
  have e2 := lv_set (vs := nv α g.nd) (b := !(nv α g.nd).getD i false) (x := r) (i := i) (by k_data)
  have e3 : ((nv α g.nd).set i (!(nv α g.nd).getD i false)).getD i false = !(nv α g.nd).getD i false := by
    rw [List.getD_eq_getElem?_getD, List.getElem?_set_self (by rw [nv_len]; exact hil)]; rfl
  generalize (nv α g.nd).set i (!(nv α g.nd).getD i false) = W at *
  have hg : (gate g i).all (clH W) = false := by
    unfold gate
    rw [if_neg hi0, h]
    simp only [List.all_cons, List.all_nil, clH, List.any_cons, List.any_nil, litH_neg _ (show ((i : Int) + 1) ≠ 0 by k_data), litH_neg _ (varOf_ne o1), litH_neg _ (varOf_ne o3), litH_out, litH_var _ o1, litH_var _ o3, e1, e2, e3, hv]
    cases lv (nv α g.nd) l <;> cases lv (nv α g.nd) r <;> rfl
  unfold heldB gates
  rw [List.all_append, List.all_flatMap]
  have : I.all (fun a => (gate g a).all (clH W)) = false := by
    rw [List.all_eq_false]
    exact ⟨i, hi, by rw [hg]; decide⟩
  rw [this]; rfl
noncomputable def Bd (n : Nat) (y : Int) : Prop := 1 ≤ y.natAbs ∧ y.natAbs ≤ n
theorem Bd.neg {n : Nat} {y : Int} (h : Bd n y) : Bd n (-y) := by unfold Bd; rw [Int.natAbs_neg]; exact h
noncomputable def BdL (n : Nat) (c : List Int) : Prop := c.length ≤ 3 ∧ ∀ y ∈ c, Bd n y
theorem BdL.one {n : Nat} {a : Int} (h : Bd n a) : BdL n [a] := ⟨by simp, fun y hy => List.mem_singleton.mp hy ▸ h⟩
theorem BdL.two {n : Nat} {a b : Int} (h : Bd n a) (k : Bd n b) : BdL n [a, b] := ⟨by simp, fun y hy => (List.mem_cons.mp hy).elim (fun e => e ▸ h) ((BdL.one k).2 y)⟩
theorem BdL.three {n : Nat} {a b c : Int} (h : Bd n a) (k : Bd n b) (j : Bd n c) : BdL n [a, b, c] := ⟨by simp, fun y hy => (List.mem_cons.mp hy).elim (fun e => e ▸ h) ((BdL.two k j).2 y)⟩
theorem gate_bound {g : G} (w : g.WF) {i : Nat} (hil : i < g.nd.length) : ∀ c ∈ gate g i, BdL g.nd.length c := by
  intro c hc
  have bi : Bd g.nd.length ((i : Int) + 1) := ⟨by k_data, by k_data⟩
  unfold gate at hc
  by_cases h0 : i = 0
  · rw [if_pos h0] at hc; exact List.mem_singleton.mp hc ▸ .one bi.neg
  · rw [if_neg h0] at hc
    cases h : g.nd[i]? with
    | none => rw [h] at hc; cases hc
    | some o => cases o with
    | none => rw [h] at hc; cases hc
    | some lr =>
      rw [h] at hc
      obtain ⟨o1, o2, o3, o4⟩ := w.ord i lr.1 lr.2 h
      have v1 : Bd g.nd.length (varOf lr.1) := varOf_abs o1 (by k_data)
      have v2 : Bd g.nd.length (varOf lr.2) := varOf_abs o3 (by k_data)
      rcases List.mem_cons.mp hc with e | hc
      · exact e ▸ .two bi.neg v1
      · rcases List.mem_cons.mp hc with e | hc
        · exact e ▸ .two bi.neg v2
        · exact List.mem_singleton.mp hc ▸ .three bi v1.neg v2.neg
theorem gates_bound {g : G} (w : g.WF) {I : List Nat} (hI : ∀ i ∈ I, i < g.nd.length) {x : Int} (hx : g.In x) : ∀ c ∈ gates g I ++ [[varOf x]], c.length ≤ 3 ∧ ∀ y ∈ c, 1 ≤ y.natAbs ∧ y.natAbs ≤ g.nd.length := by
  intro c hc
  rcases List.mem_append.mp hc with hc | hc
  · obtain ⟨i, hi, hc⟩ := List.mem_flatMap.mp hc
    exact gate_bound w (hI i hi) c hc
  · exact List.mem_singleton.mp hc ▸ BdL.one (varOf_abs hx.1 hx.2)


noncomputable def lawB : List Stmt := MineH.Internal.sB (MineH.Internal.st1 45)
noncomputable def lawN : List (Str × NameKind) := (MineH.Internal.sS (MineH.Internal.st1 45)).names
/-- what stands behind joint_aig -/
structure LB (σ : AH) (t1 t2 : NtP) (y1 z1 y2 z2 : Int) (cs1 cs2 : List (Kd × Int × List Int)) (p1 o1 p2 o2 : Addr) (p : AP) (pr : Addr) (g0 : G) (l1 r1 l2 r2 : Int) : Prop where
  n1 : NetAt σ t1 (mkN false y1 z1 cs1)
  n2 : NetAt σ t2 (mkN true y2 z2 cs2)
  g1 : (mkN false y1 z1 cs1).Good
  g2 : (mkN true y2 z2 cs2).Good
  hp1 : σ p1 = some (.dictS (plF false))
  hp2 : σ p2 = some (.dictS (plF true))
  ho1 : σ o1 = some (.dictS (outD y1 z1))
  ho2 : σ o2 = some (.dictS (outD y2 z2))
  ag : AigAt σ p g0
  jt : Joint g0 (mkN false y1 z1 cs1) (mkN true y2 z2 cs2) l1 r1 l2 r2
  hpr : σ pr = some (.list [.tup [.int l1, .int r1], .tup [.int l2, .int r2]])
  s1 : p.na ∉ t1.lists
  s2 : p.na ∉ t2.lists
  np : p1 ≠ p.ta ∧ p2 ≠ p.ta ∧ o1 ≠ p.ta ∧ o2 ≠ p.ta ∧ pr ≠ p.na
structure LL (t1 t2 : NtP) (p1 o1 p2 o2 : Addr) (p : AP) (pr : Addr) (l : Loc) : Prop where
  one : l "one" = some (.ref t1.p.a)
  two : l "two" = some (.ref t2.p.a)
  pool : l "pool" = some (.ref p1)
  outs : l "outs" = some (.ref o1)
  pool2 : l "other_pool" = some (.ref p2)
  outs2 : l "other_outs" = some (.ref o2)
  graph : l "graph" = some (.ref p.a)
  pairs : l "pairs" = some (.ref pr)
section
variable {prog : Program} {w : World} {n : Nat} {σ : AH} {Q : AV → AH → Prop}
theorem lawA {K : Kont} {l : Loc} {s i : Addr} (hs : Src σ s i) (e1 : l "source" = some (.ref s))
    (q : ∀ l t1 t2 y1 z1 y2 z2 cs1 cs2 p1 o1 p2 o2 p pr g0 l1 r1 l2 r2 τ, LL t1 t2 p1 o1 p2 o2 p pr l → LB τ t1 t2 y1 z1 y2 z2 cs1 cs2 p1 o1 p2 o2 p pr g0 l1 r1 l2 r2 → K.next l τ) :
    blk (sk20 prog w (n + 7) lawN) ((lawB.drop 1).take 3) l σ K := by
  k_typeOf
  row_witness_with e1
  k_typeOf
  refine lawNetC (n := n + 2) hs fun t1 p1 o1 y1 z1 cs1 τ1 b1 => ?_
  k_typeOf
  row_witness_with e1
  k_typeOf
  refine lawNetC (n := n + 2) b1.src fun t2 p2 o2 y2 z2 cs2 τ2 b2 => ?_
  k_types
  have live1 : ∀ {x o}, τ1 x = some o → σ x = none → x ∉ [s, i] := fun {x o} _ e => by
    obtain ⟨xs, a, b, hv⟩ := hs
    simp only [List.mem_cons, List.not_mem_nil, or_false, not_or]
    exact ⟨(by first | exact nes hv.s e | exact nes' hv.s e | (rintro rfl; rw [hv.s] at e; cases e)), (by first | exact nes hv.i e | exact nes' hv.i e | (rintro rfl; rw [hv.i] at e; cases e))⟩
  have sl : ∀ {x o}, (∀ xs, o ≠ AO.list xs) → τ1 x = some o → x ∉ [s, i] := fun {x o} ho e => by
    obtain ⟨xs, a, b, hv⟩ := b1.src
    simp only [List.mem_cons, List.not_mem_nil, or_false, not_or]
    exact ⟨(by rintro rfl; rw [hv.s] at e; exact ho _ (Option.some.inj e).symm), (by rintro rfl; rw [hv.i] at e; exact ho _ (Option.some.inj e).symm)⟩
  have ls : ∀ {x o}, τ1 x = some o → x ∈ t1.lists → x ∉ [s, i] := fun e m => live1 e (b1.fr _ m)
  have nn1 : NetAt τ2 t1 (mkN false y1 z1 cs1) := by
    have h := b1.net
    have k := b2.keep
    exact ⟨⟨k.get h.r.a (sl (by simp) h.r.a), k.get h.r.d (sl (by simp) h.r.d), k.get h.r.i (ls h.r.i (by simp [NtP.lists])), k.get h.r.o (ls h.r.o (by simp [NtP.lists])), k.get h.r.c (ls h.r.c (by simp [NtP.lists])), h.r.io, h.r.ic, h.r.oc⟩,
      k.get h.b1 (ls h.b1 (by simp [NtP.lists])), k.get h.b2 (ls h.b2 (by simp [NtP.lists])), k.get h.b3 (ls h.b3 (by simp [NtP.lists])), k.get h.c1 (ls h.c1 (by simp [NtP.lists])), k.get h.c2 (ls h.c2 (by simp [NtP.lists])), h.len⟩
  have pl1 := b2.keep.get b1.pl (sl (by simp) b1.pl)
  have ou1 := b2.keep.get b1.ou (sl (by simp) b1.ou)
  refine jointC (n := n) nn1 b2.net (mkN_first ..) (mkN_second ..) b1.good b2.good fun p g0 c l1 r1 l2 r2 τ3 a3 k3 zc zn zt gc jt => ?_
  have m1 := nn1.keep0 k3
  have m2 := b2.net.keep0 k3
  have lf : ∀ {b xs}, τ2 b = some (.list xs) → p.na ≠ b := fun {b xs} e => by first | exact nes zn e | exact nes' zn e | (rintro rfl; rw [zn] at e; cases e)
  have s1 : p.na ∉ t1.lists := by
    simp only [NtP.lists, List.mem_cons, List.not_mem_nil, or_false, not_or]
    exact ⟨lf nn1.r.i, lf nn1.r.o, lf nn1.r.c, lf nn1.b1, lf nn1.b2, lf nn1.b3, lf nn1.c1, lf nn1.c2⟩
  have s2 : p.na ∉ t2.lists := by
    have h := b2.net
    simp only [NtP.lists, List.mem_cons, List.not_mem_nil, or_false, not_or]
    exact ⟨lf h.r.i, lf h.r.o, lf h.r.c, lf h.b1, lf h.b2, lf h.b3, lf h.c1, lf h.c2⟩
  have tf : ∀ {x o}, τ2 x = some o → x ≠ p.ta := fun {x o} e => by first | exact nes zt e | exact nes' zt e | (rintro rfl; rw [zt] at e; cases e)
  k_types
  (repeat (refine blk.nil ?_; try dsimp only [kn]))
  refine q _ t1 t2 y1 z1 y2 z2 cs1 cs2 p1 o1 p2 o2 p c g0 l1 r1 l2 r2 τ3 ⟨rfl, rfl, rfl, rfl, rfl, rfl, rfl, rfl⟩ ⟨m1, m2, b1.good, b2.good, k3.get pl1 (by simp), k3.get b2.pl (by simp), k3.get ou1 (by simp), k3.get b2.ou (by simp), a3, jt, gc, s1, s2, tf pl1, tf b2.pl, tf ou1, tf b2.ou, ?_⟩
  rintro rfl
  have e := a3.n
  rw [gc] at e
  have e := congrArg (fun l => l[0]?) (AO.list.inj (Option.some.inj e))
  have n0 := jt.wf.n0
  simp [G.nAV, n0, pairAV] at e
end


theorem gI_lit (α : Nat → Bool) : (gI 3).lit α 2 = α 1 ∧ (gI 3).lit α 4 = α 2 ∧ (gI 3).lit α 6 = α 3 := by
  exact ⟨Bool.xor_false (α 1), Bool.xor_false (α 2), Bool.xor_false (α 3)⟩
theorem bears1 {g : G} {N : Nt} {x l : Int} (e : Ext (gI 3) g) (b : Bears g N L1 x l) (k : Nat) : g.lit (alF k) l = N.at_ false k x := by
  obtain ⟨h1, h2, h3⟩ := gI_lit (alF k)
  rw [b.val (alF k) rfl]
  unfold Li.env Nt.at_
  rw [lit_ext L1_in.a e, lit_ext L1_in.b e, lit_ext L1_in.c e, h1, h2, h3]
  rfl
theorem bears2 {g : G} {N : Nt} {x l : Int} (e : Ext (gI 3) g) (b : Bears g N L2 x l) (k : Nat) : g.lit (alF k) l = N.at_ true k x := by
  obtain ⟨h1, h2, h3⟩ := gI_lit (alF k)
  rw [b.val (alF k) rfl]
  unfold Li.env Nt.at_
  rw [lit_ext L2_in.a e, lit_ext L2_in.b e, lit_ext L2_in.c e, h1, h2, h3]
  rfl
noncomputable def lawF : List Stmt := forB (lawB.drop 5)
noncomputable def dfs (N1 N2 : Nt) (x1 x2 : Int) (k : Nat) : Bool := N1.at_ false k x1 != N2.at_ true k x2
theorem bI_nq (a b : Bool) : (!(bI a == bI b)) = (a != b) := by cases a <;> cases b <;> rfl
theorem bI_ne (a b : Bool) : (bI a != bI b) = (a != b) := by cases a <;> cases b <;> rfl
section
variable {prog : Program} {w : World} {n : Nat} {σ : AH} {Q : AV → AH → Prop}
variable {t1 t2 : NtP} {y1 z1 y2 z2 : Int} {cs1 cs2 : List (Kd × Int × List Int)} {p1 o1 p2 o2 : Addr} {p : AP} {pr : Addr} {g0 : G} {l1 r1 l2 r2 : Int}
/-- the state of the loop -/
structure LS (t1 t2 : NtP) (y1 z1 y2 z2 : Int) (cs1 cs2 : List (Kd × Int × List Int)) (p1 o1 p2 o2 : Addr) (p : AP) (pr : Addr) (l1 r1 l2 r2 : Int) (m : Nat) (g : G) (τ : AH) : Prop where
  n1 : NetAt τ t1 (mkN false y1 z1 cs1)
  n2 : NetAt τ t2 (mkN true y2 z2 cs2)
  g1 : (mkN false y1 z1 cs1).Good
  g2 : (mkN true y2 z2 cs2).Good
  hp1 : τ p1 = some (.dictS (plF false))
  hp2 : τ p2 = some (.dictS (plF true))
  ho1 : τ o1 = some (.dictS (outD y1 z1))
  ho2 : τ o2 = some (.dictS (outD y2 z2))
  ag : AigAt τ p g
  wf : g.WF
  ok : g.OkN m
  ext : Ext (gI 3) g
  hpr : τ pr = some (.list [.tup [.int l1, .int r1], .tup [.int l2, .int r2]])
theorem LS.same {m g τ τ'} (h : LS t1 t2 y1 z1 y2 z2 cs1 cs2 p1 o1 p2 o2 p pr l1 r1 l2 r2 m g τ) (k : Keep [] τ τ') : LS t1 t2 y1 z1 y2 z2 cs1 cs2 p1 o1 p2 o2 p pr l1 r1 l2 r2 m g τ' :=
  ⟨h.n1.keep0 k, h.n2.keep0 k, h.g1, h.g2, k.get h.hp1 (by simp), k.get h.hp2 (by simp), k.get h.ho1 (by simp), k.get h.ho2 (by simp), h.ag.keep0 k, h.wf, h.ok, h.ext, k.get h.hpr (by simp)⟩
theorem LL.set {l : Loc} {x : String} {v : AV} (h : LL t1 t2 p1 o1 p2 o2 p pr l) (hx : x ∉ ["one", "two", "pool", "outs", "other_pool", "other_outs", "graph", "pairs"]) : LL t1 t2 p1 o1 p2 o2 p pr (updL l x v) := by
  simp only [List.mem_cons, List.not_mem_nil, or_false, not_or] at hx
  obtain ⟨a1, a2, a3, a4, a5, a6, a7, a8⟩ := hx
  exact ⟨(by rw [updL_app, if_neg (Ne.symm a1)]; exact h.one), (by rw [updL_app, if_neg (Ne.symm a2)]; exact h.two), (by rw [updL_app, if_neg (Ne.symm a3)]; exact h.pool), (by rw [updL_app, if_neg (Ne.symm a4)]; exact h.outs), (by rw [updL_app, if_neg (Ne.symm a5)]; exact h.pool2), (by rw [updL_app, if_neg (Ne.symm a6)]; exact h.outs2), (by rw [updL_app, if_neg (Ne.symm a7)]; exact h.graph), (by rw [updL_app, if_neg (Ne.symm a8)]; exact h.pairs)⟩

/-- the rows, as the two netlists and the graph say them -/
theorem lawX {K : Kont} {l : Loc} {m : Nat} {g : G} {τ τb : AH} {nm : Str} {x1 x2 lf rt : Int} {dd : Addr} (hs : LS t1 t2 y1 z1 y2 z2 cs1 cs2 p1 o1 p2 o2 p pr l1 r1 l2 r2 m g τb) (hm : m ≤ 60) (hl : LL t1 t2 p1 o1 p2 o2 p pr l)
    (e1 : l "left" = some (.int lf)) (e2 : l "right" = some (.int rt)) (e3 : l "name" = some (.str nm)) (e4 : l "differ" = some (.ref dd)) (zd : τb dd = none) (kd : Keep [dd] τb τ) (hd : τ dd = some (.list []))
    (b1 : Bears g (mkN false y1 z1 cs1) L1 x1 lf) (b2 : Bears g (mkN true y2 z2 cs2) L2 x2 rt) (u1 : lookK (outD y1 z1) nm = some (.int x1)) (u2 : lookK (outD y2 z2) nm = some (.int x2))
    (v1 : 0 ≤ x1 ∧ x1 < 5 + (cs1.length : Int)) (v2 : 0 ≤ x2 ∧ x2 < 5 + (cs2.length : Int))
    (q : ∀ l τ', LL t1 t2 p1 o1 p2 o2 p pr l → l "left" = some (.int lf) → l "right" = some (.int rt) → l "differ" = some (.ref dd) → Keep [dd] τb τ' → τ' dd = some (.list (bls ((List.range 8).map (dfs (mkN false y1 z1 cs1) (mkN true y2 z2 cs2) x1 x2)))) → K.next l τ') :
    blk (sk19 prog w (n + 7) lawN) ((lawF.drop 3).take 1) l τ K := by
  k_types
  refine .inr ⟨_, items_rng (k := 8) (by decide), ?_⟩
  refine forL_inv (fun rest l τ => A7 (LL t1 t2 p1 o1 p2 o2 p pr l) (l "left" = some (.int lf)) (l "right" = some (.int rt)) (l "name" = some (.str nm)) (l "differ" = some (.ref dd)) (Keep [dd] τb τ) (∃ k, A3 (k ≤ 8) (rest = ((List.range 8).drop k).map (fun (i : Nat) => AV.int (i : Int))) (τ dd = some (.list (bls ((List.range k).map (dfs (mkN false y1 z1 cs1) (mkN true y2 z2 cs2) x1 x2))))))) (fun v vs l τ F hI hF => ?_) (fun l τ hI => ?_) _ _ _ ⟨hl, e1, e2, e3, e4, kd, 0, by decide, rfl, hd⟩
  · obtain ⟨hl, e1, e2, e3, e4, kd, k, hk, f1, f2⟩ := hI
    cases hd' : (List.range 8).drop k with
    | nil => rw [hd'] at f1; cases f1
    | cons i r' =>
      obtain ⟨hp, rfl⟩ := drop_cons hd'
      rw [hd'] at f1
      cases f1
      obtain ⟨hi, hi2⟩ := List.getElem?_eq_some_iff.mp hp
      simp only [List.getElem_range] at hi2
      subst hi2
      simp only [List.length_range] at hi
      have h0 := hs.same (kd.drop zd)
      have hlen := h0.ok.len
      refine ⟨items_rng (k := 8) (by decide), _, rfl, ?_⟩
      have hl := hl.set (x := "number") (v := .int (k : Int)) (by simp)
      have e1 : updL l "number" (.int (k : Int)) "left" = some (.int lf) := by (first | exact e1 | (k_units; exact e1))
      have e2 : updL l "number" (.int (k : Int)) "right" = some (.int rt) := by (first | exact e2 | (k_units; exact e2))
      have e3 : updL l "number" (.int (k : Int)) "name" = some (.str nm) := by (first | exact e3 | (k_units; exact e3))
      have e4 : updL l "number" (.int (k : Int)) "differ" = some (.ref dd) := by (first | exact e4 | (k_units; exact e4))
      have e5 : updL l "number" (.int (k : Int)) "number" = some (.int (k : Int)) := by k_units
      revert hl e1 e2 e3 e4 e5
      generalize updL l "number" (.int (k : Int)) = l2
      intro hl e1 e2 e3 e4 e5
      k_typeOf
      row_witness_with hl.graph
      k_typeOf
      row_witness_with e5
      k_typeOf
      refine lawNodesC (n := n + 6) hi h0.ag h0.wf h0.ext (by k_data) fun vv τ1 k1 zv gv => ?_
      have h1 := h0.same k1
      have f3 := k1.get f2 (by simp)
      k_typeOf
      row_witness_with hl.one
      k_typeOf
      row_witness_with hl.pool
      k_typeOf
      row_witness_with e5
      k_typeOf
      row_witness_with hl.outs
      k_typeOf
      row_witness_with e3
      k_typeOf
      o_head h1.ho1
      k_typeOf
      o_head u1
      k_typeOf
      refine lawValueC (n := n + 6) hi h1.n1 h1.g1 h1.hp1 v1.1 v1.2 fun τ2 k2 => ?_
      have h2 := h1.same k2
      k_typeOf
      row_witness_with hl.two
      k_typeOf
      row_witness_with hl.pool2
      k_typeOf
      row_witness_with e5
      k_typeOf
      row_witness_with hl.outs2
      k_typeOf
      row_witness_with e3
      k_typeOf
      o_head h2.ho2
      k_typeOf
      o_head u2
      k_typeOf
      refine lawValueC (n := n + 6) hi h2.n2 h2.g2 h2.hp2 v2.1 v2.2 fun τ3 k3 => ?_
      have gv3 := k3.get (k2.get gv (by simp)) (by simp)
      have f4 := k3.get (k2.get f3 (by simp)) (by simp)
      have w1 := bears1 h0.ext b1 k
      have w2 := bears2 h0.ext b2 k
      have i1 := b1.inn
      have i2 := b2.inn
      have lt1 : lf.toNat / 2 < (nv (alF k) g.nd).length := by rw [nv_len]; have := i1.1; have := i1.2; k_data
      have lt2 : rt.toNat / 2 < (nv (alF k) g.nd).length := by rw [nv_len]; have := i2.1; have := i2.2; k_data
      have ln := nv_len (alF k) g.nd
      k_typeOf
      row_witness_with e1
      k_types
      rw [fdiv_two i1.1, gv3]
      refine ⟨by k_data, ?_⟩
      rw [bis_get lt1]
      k_typeOf
      row_witness_with e1
      k_types
      rw [xor_bI]
      try (refine Br.ffd (by show (bI _ != bI _) = _; rw [bI_ne, ← w1]; unfold G.lit lv; simp) ?_)
      k_typeOf
      row_witness_with e2
      k_types
      rw [fdiv_two i2.1, gv3]
      refine ⟨by k_data, ?_⟩
      rw [bis_get lt2]
      k_typeOf
      row_witness_with e2
      k_types
      rw [xor_bI]
      try (refine Br.ffd (by show (bI _ != bI _) = _; rw [bI_ne, ← w2]; unfold G.lit lv; simp) ?_)
      k_typeOf
      row_witness_with e4
      k_typeOf
      o_head (nsAt_list f4)
      k_types
      refine ⟨by rw [f4]; rfl, ?_⟩
      k_types
      rw [f4, bI_nq]
      refine ⟨by simp; k_data, ?_⟩
      k_types
      have k4 : Keep [dd] τb (upd τ3 dd (.list (bls ((List.range k).map (dfs (mkN false y1 z1 cs1) (mkN true y2 z2 cs2) x1 x2)) ++ [.bool ((mkN false y1 z1 cs1).at_ false k x1 != (mkN true y2 z2 cs2).at_ true k x2)]))) := (((kd.trans (k1.weaken (by simp))).trans (k2.weaken (by simp))).trans (k3.weaken (by simp))).trans (Keep.put (by simp))
      (repeat (refine blk.nil ?_; try dsimp only [kn]))
      refine hF _ _ ⟨((hl.set (x := "values") (by simp)).set (x := "first") (by simp)).set (x := "second") (by simp), by (first | exact e1 | (k_units; exact e1)), by (first | exact e2 | (k_units; exact e2)), by (first | exact e3 | (k_units; exact e3)), by (first | exact e4 | (k_units; exact e4)), k4, k + 1, by k_data, rfl, ?_⟩
      rw [upd_self, List.range_succ, List.map_append]
      simp [bls, dfs]
  · obtain ⟨hl, e1, e2, e3, e4, kd, k, hk, f1, f2⟩ := hI
    have hkk : k = 8 := by
      have := congrArg List.length f1
      simp at this
      k_data
    subst hkk
    refine ⟨items_rng (k := 8) (by decide), ?_⟩
    k_types
    (repeat (refine blk.nil ?_; try dsimp only [kn]))
    exact q l τ hl e1 e2 e4 kd f2
end


section
variable {prog : Program} {w : World} {n : Nat} {σ : AH} {Q : AV → AH → Prop}
variable {t1 t2 : NtP} {y1 z1 y2 z2 : Int} {cs1 cs2 : List (Kd × Int × List Int)} {p1 o1 p2 o2 : Addr} {p : AP} {pr : Addr} {g0 : G} {l1 r1 l2 r2 : Int}
structure SP (t1 t2 : NtP) (p : AP) (pr : Addr) : Prop where
  s1 : p.na ∉ t1.lists
  s2 : p.na ∉ t2.lists
  pr : pr ≠ p.na
theorem AigAt.dn {τ : AH} {g : G} {a : Addr} {es : List (Str × AV)} (h : AigAt τ p g) (e : τ a = some (.dictS es)) : a ∉ [p.na, p.ta] := by
  simp only [List.mem_cons, List.not_mem_nil, or_false, not_or]
  refine ⟨ne_of_ao e h.n (by simp), fun z => ?_⟩
  rw [z, h.t] at e
  have e := Option.some.inj e
  unfold G.tO at e
  cases q : g.tb <;> rw [q] at e <;> cases e
theorem AigAt.ln {τ : AH} {g : G} {a : Addr} {xs : List AV} (h : AigAt τ p g) (e : τ a = some (.list xs)) (n : a ≠ p.na) : a ∉ [p.na, p.ta] := by
  simp only [List.mem_cons, List.not_mem_nil, or_false, not_or]
  exact ⟨n, fun z => by rw [z, h.t] at e; exact g.tO_ne _ (Option.some.inj e)⟩
theorem LS.grow {m m' : Nat} {g g' : G} {τ τ' : AH} (h : LS t1 t2 y1 z1 y2 z2 cs1 cs2 p1 o1 p2 o2 p pr l1 r1 l2 r2 m g τ) (sp : SP t1 t2 p pr) (k : Keep [p.na, p.ta] τ τ') (ag : AigAt τ' p g') (wf : g'.WF) (ok : g'.OkN m') (e : Ext g g') :
    LS t1 t2 y1 z1 y2 z2 cs1 cs2 p1 o1 p2 o2 p pr l1 r1 l2 r2 m' g' τ' :=
  ⟨h.n1.keepG h.ag sp.s1 k, h.n2.keepG h.ag sp.s2 k, h.g1, h.g2, k.get h.hp1 (h.ag.dn h.hp1), k.get h.hp2 (h.ag.dn h.hp2), k.get h.ho1 (h.ag.dn h.ho1), k.get h.ho2 (h.ag.dn h.ho2), ag, wf, ok, h.ext.trans e, k.get h.hpr (h.ag.ln h.hpr sp.pr)⟩
theorem lit_const {g : G} (w : g.WF) {α : Nat → Bool} (hα : α 0 = false) {x : Int} (h : x = 0 ∨ x = 1) : g.lit α x = decide (x = 1) := by
  rcases h with rfl | rfl
  · exact w.lit0 hα
  · exact w.lit1 hα
theorem eq_bls (a b : List Bool) (h : a = b) : eqLists (bls a) (bls b) = some true := by
  subst h
  unfold eqLists
  rw [boolsOf_bls]
  simp
/-- the difference, and the constant case -/
theorem lawY {K : Kont} {l : Loc} {m : Nat} {g : G} {τ : AH} {lf rt : Int} {dd : Addr} {D : Nat → Bool} (hs : LS t1 t2 y1 z1 y2 z2 cs1 cs2 p1 o1 p2 o2 p pr l1 r1 l2 r2 m g τ) (sp : SP t1 t2 p pr) (hm : m ≤ 60) (hl : LL t1 t2 p1 o1 p2 o2 p pr l)
    (e1 : l "left" = some (.int lf)) (e2 : l "right" = some (.int rt)) (e4 : l "differ" = some (.ref dd)) (gd : τ dd = some (.list (bls ((List.range 8).map D)))) (nd : dd ≠ p.na)
    (i1 : g.In lf) (i2 : g.In rt) (hD : ∀ k, (g.lit (alF k) lf ^^ g.lit (alF k) rt) = D k)
    (qc : ∀ l τ' g', LL t1 t2 p1 o1 p2 o2 p pr l → LS t1 t2 y1 z1 y2 z2 cs1 cs2 p1 o1 p2 o2 p pr l1 r1 l2 r2 (m + 3) g' τ' → Ext g g' → K.cont l τ')
    (q : ∀ l τ' g' ap, LL t1 t2 p1 o1 p2 o2 p pr l → LS t1 t2 y1 z1 y2 z2 cs1 cs2 p1 o1 p2 o2 p pr l1 r1 l2 r2 (m + 3) g' τ' → Ext g g' → l "apart" = some (.int ap) → l "differ" = some (.ref dd) → τ' dd = some (.list (bls ((List.range 8).map D))) → g'.In ap → 2 ≤ ap → (∀ k, g'.lit (alF k) ap = D k) → K.next l τ') :
    blk (sk19 prog w (n + 7) lawN) ((lawF.drop 4).take 2) l τ K := by
  k_typeOf
  row_witness_with hl.graph
  k_typeOf
  o_head hs.ag.ns
  k_typeOf
  row_witness_with e1
  k_typeOf
  row_witness_with e2
  k_typeOf
  refine lxorC (n := n + 4) hs.ag hs.ok (by k_data) fun τ1 a1 k1 => ?_
  have sem := lxor_sem hs.wf i1 i2
  have h1 := hs.grow sp k1 a1 sem.wf (G.lxor_ok hs.ok lf rt) sem.ext
  have gd1 := k1.get gd (hs.ag.ln gd nd)
  have hlit : ∀ k, (g.lxor lf rt).1.lit (alF k) (g.lxor lf rt).2 = D k := fun k => (sem.val (alF k) rfl).trans (hD k)
  have hin := sem.inn
  have hex := sem.ext
  have hwf := sem.wf
  generalize (g.lxor lf rt).1 = g' at *
  generalize (g.lxor lf rt).2 = ap at *
  k_types
  (refine Br.mk (fun hc => ?_) (fun hc => ?_))
  · have hap : ap = 0 ∨ ap = 1 := by have := hin.1; have : ap < 2 := by simpa using hc
                                     k_data
    k_typeOf
    row_witness_with e4
    k_typeOf
    (first | refine fun c1 zc1 => ?_ | (k_types; intro c1 zc1))
    k_typeOf
    o_head upd_self
    k_typeOf
    (first | refine fun c2 zc2 => ?_ | (k_types; intro c2 zc2))
    have k2 : Keep [] τ1 (upd τ1 c1 (.list [.bool (ap == 1)])) := Keep.new zc1
    have k3 : Keep [] τ1 (upd (upd τ1 c1 (.list [.bool (ap == 1)])) c2 (.list (List.flatten (List.replicate (Int.toNat 8) [AV.bool (ap == 1)])))) := k2.trans (Keep.new zc2)
    have gd3 := k3.get gd1 (by simp)
    have g2 : upd (upd τ1 c1 (.list [.bool (ap == 1)])) c2 (.list (List.flatten (List.replicate (Int.toNat 8) [AV.bool (ap == 1)]))) c2 = some (.list (bls (List.replicate 8 (ap == 1)))) := upd_self ..
    have hDk : (List.range 8).map D = List.replicate 8 (ap == 1) := by
      have : ∀ k, D k = (ap == 1) := fun k => by
        rw [← hlit k, lit_const hwf rfl hap]
        rcases hap with rfl | rfl <;> rfl
      rw [List.map_congr_left (g := fun _ => (ap == 1)) fun k _ => this k]
      rfl
    refine ne_match gd3 g2 (eq_bls _ _ hDk) ?_
    k_types
    exact qc _ _ g' (hl.set (by simp)) (h1.same k3) hex
  · have hap : 2 ≤ ap := by have : ¬ ap < 2 := by simpa using hc
                            k_data
    k_types
    (repeat (refine blk.nil ?_; try dsimp only [kn]))
    exact q _ τ1 g' ap (hl.set (by simp)) h1 hex (by first | rfl | k_units) (by (first | exact e4 | (k_units; exact e4))) gd1 hin hap hlit
end


section
variable {prog : Program} {w : World} {n : Nat} {σ : AH} {Q : AV → AH → Prop}
variable {t1 t2 : NtP} {y1 z1 y2 z2 : Int} {cs1 cs2 : List (Kd × Int × List Int)} {p1 o1 p2 o2 : Addr} {p : AP} {pr : Addr} {g0 : G} {l1 r1 l2 r2 : Int}
structure CA (g : G) (I A : List Nat) : Prop where
  lt : ∀ i ∈ I, i < g.nd.length
  at_ : ∀ i ∈ A, i ∈ I ∧ ∃ l r, g.nd[i]? = some (some (l, r))
  len : A.length ≤ 60
theorem lawZ1 {K : Kont} {l : Loc} {m : Nat} {g : G} {τ : AH} {ap : Int} {dd : Addr} {D : List Bool} (hs : LS t1 t2 y1 z1 y2 z2 cs1 cs2 p1 o1 p2 o2 p pr l1 r1 l2 r2 m g τ) (hm : m ≤ 60) (hl : LL t1 t2 p1 o1 p2 o2 p pr l)
    (e1 : l "apart" = some (.int ap)) (e4 : l "differ" = some (.ref dd)) (gd : τ dd = some (.list (bls D))) (hx : g.In ap)
    (q : ∀ l τ' cc aa I A, LL t1 t2 p1 o1 p2 o2 p pr l → Keep [] τ τ' → l "apart" = some (.int ap) → l "differ" = some (.ref dd) → l "clauses" = some (.ref cc) → l "ands" = some (.ref aa) →
      τ' cc = some (.list ((gates g I ++ [[varOf ap]]).map clAV)) → τ' aa = some (.list (nats A)) → CA g I A → K.next l τ') :
    blk (sk19 prog w (n + 7) lawN) ((lawF.drop 6).take 3) l τ K := by
  have hlen := hs.ok.len
  k_typeOf
  row_witness_with hl.graph
  k_typeOf
  row_witness_with e1
  k_typeOf
  refine differenceC (n := n + 3) hs.ag hs.wf (by k_data) hx fun cc us τ1 k1 zc gc ul ut uc => ?_
  have h1 := hs.same k1
  k_typeOf
  row_witness_with hl.graph
  k_typeOf
  o_head h1.ag.ns
  k_typeOf
  o_head h1.ag.n
  refine ⟨by rw [G.nLen]; k_data, ?_⟩
  k_types
  rw [G.nLen]
  try (refine Br.ffd (by simp) ?_)
  k_typeOf
  row_witness_with hl.graph
  k_typeOf
  row_witness_with e1
  k_typeOf
  (first | refine fun c1 zc1 => ?_ | (k_types; intro c1 zc1))
  have k2 : Keep [] τ1 (upd τ1 c1 (.list [.int ap])) := Keep.new zc1
  have h2 := h1.same k2
  k_typeOf
  refine coneEquivC (n := n + 6) h2.ag h2.wf (by k_data) (upd_self ..) hx ut uc fun c2 R τ2 k3 z2' g2 hR hRl => ?_
  have h3 := h2.same k3
  k_typeOf
  o_head (items_list g2)
  k_types
  have lg := (hl.set (x := "count") (v := .int (g.nd.length : Int)) (by simp)).set (x := "clauses") (v := .ref cc) (by simp)
  refine compL_inv (fun rest acc τ' => (τ' = τ2) ∧ (X2 fun done todo => A3 (R = done ++ todo) (rest = nats todo) (acc = nats (done.filter fun i => (g.nd[i]?.getD none).isSome)))) (fun u us' acc τ' F' hI hF' => ?_) (fun acc τ' hI => ?_) _ _ _ ⟨rfl, [], R, rfl, rfl, rfl⟩
  · obtain ⟨rfl, done, todo, f1, f2, rfl⟩ := hI
    cases todo with
    | nil => cases f2
    | cons i todo =>
      cases f2
      have f1' : R = (done ++ [i]) ++ todo := by rw [f1]; simp
      obtain ⟨hi, hu⟩ := hR i (by rw [f1]; simp)
      obtain ⟨nd, hnd⟩ : ∃ y, g.nd[i]? = some y := ⟨_, List.getElem?_eq_getElem hi⟩
      have hfl := List.length_filter_le (fun i => (g.nd[i]?.getD none).isSome) done
      have hdl : done.length ≤ 60 := by have := congrArg List.length f1; simp at this; k_data
      refine ⟨items_list g2, ?_⟩
      k_types
      rw [locC_cell (by decide) (by kernel_rfl)]
      row_witness_with lg.graph
      k_typeOf
      o_head h3.ag.ns
      k_typeOf
      o_head h3.ag.n
      refine ⟨by k_data, ?_⟩
      rw [G.nodeAt h3.ag hnd]
      cases nd with
      | none =>
        k_types
        (repeat (refine blk.nil ?_; try dsimp only [kn]))
        refine hF' _ _ ⟨rfl, done ++ [i], todo, f1', rfl, ?_⟩
        rw [List.filter_append, List.filter_cons, hnd]
        simp
      | some lr =>
        k_types
        refine ⟨by rw [List.length_map]; k_data, ?_⟩
        (repeat (refine blk.nil ?_; try dsimp only [kn]))
        refine hF' _ _ ⟨rfl, done ++ [i], todo, f1', rfl, ?_⟩
        rw [List.filter_append, List.filter_cons, hnd, nats_app]
        simp
  · obtain ⟨rfl, done, todo, f1, f2, rfl⟩ := hI
    have ht : todo = [] := by cases todo with
      | nil => rfl
      | cons _ _ => cases f2
    subst ht
    rw [List.append_nil] at f1
    subst f1
    refine ⟨items_list g2, fun aa zaa => ?_⟩
    have k4 : Keep [] τ' (upd τ' aa (.list (nats (R.filter fun i => (g.nd[i]?.getD none).isSome)))) := Keep.new zaa
    have hfl := List.length_filter_le (fun i => (g.nd[i]?.getD none).isSome) R
    k_types
    (repeat (refine blk.nil ?_; try dsimp only [kn]))
    refine q _ _ cc aa ((List.range g.nd.length).filter fun i => us.getD i false) (R.filter fun i => (g.nd[i]?.getD none).isSome) (lg.set (x := "ands") (by simp)) (((k1.trans k2).trans k3).trans k4) (by (first | exact e1 | (k_units; exact e1))) (by (first | exact e4 | (k_units; exact e4))) (by first | rfl | k_units) (by first | rfl | k_units) ?_ (upd_self ..) ⟨fun i hi => ?_, fun i hi => ?_, by k_data⟩
    · exact k4.get (k3.get (k2.get gc (by simp)) (by simp)) (by simp)
    · exact List.mem_range.mp (List.mem_filter.mp hi).1
    · obtain ⟨m1, m2⟩ := List.mem_filter.mp hi
      obtain ⟨q1, q2⟩ := hR i m1
      refine ⟨List.mem_filter.mpr ⟨List.mem_range.mpr q1, q2⟩, ?_⟩
      cases hn : g.nd[i]? with
      | none => rw [hn] at m2; cases m2
      | some o =>
        rw [hn] at m2
        cases o with
        | none => cases m2
        | some lr => exact ⟨lr.1, lr.2, rfl⟩
end


theorem bI_flip (b : Bool) : (1 - bI b) = bI (!b) := by cases b <;> rfl
theorem bis_set (vs : List Bool) (i : Nat) (b : Bool) : (bis vs).set i (.int (bI b)) = bis (vs.set i b) := by simp [bis, List.map_set]
theorem set_back (vs : List Bool) (i : Nat) (h : i < vs.length) (b : Bool) : (vs.set i b).set i (vs.getD i false) = vs := by
  rw [List.set_set, List.getD_eq_getElem?_getD, List.getElem?_eq_getElem h]
  simp
section
variable {prog : Program} {w : World} {n : Nat} {σ : AH} {Q : AV → AH → Prop}
variable {t1 t2 : NtP} {y1 z1 y2 z2 : Int} {cs1 cs2 : List (Kd × Int × List Int)} {p1 o1 p2 o2 : Addr} {p : AP} {pr : Addr} {g0 : G} {l1 r1 l2 r2 : Int}
theorem lawZ2 {K : Kont} {l : Loc} {m : Nat} {g : G} {τ : AH} {ap : Int} {dd cc aa : Addr} {D : Nat → Bool} {I A : List Nat} (hs : LS t1 t2 y1 z1 y2 z2 cs1 cs2 p1 o1 p2 o2 p pr l1 r1 l2 r2 m g τ) (hm : m ≤ 60) (hl : LL t1 t2 p1 o1 p2 o2 p pr l)
    (e1 : l "apart" = some (.int ap)) (e2 : l "differ" = some (.ref dd)) (e3 : l "clauses" = some (.ref cc)) (e4 : l "ands" = some (.ref aa)) (gd : τ dd = some (.list (bls ((List.range 8).map D)))) (gc : τ cc = some (.list ((gates g I ++ [[varOf ap]]).map clAV))) (ga : τ aa = some (.list (nats A))) (ca : CA g I A)
    (hx : g.In ap) (hD : ∀ k, g.lit (alF k) ap = D k)
    (q : ∀ l τ', LL t1 t2 p1 o1 p2 o2 p pr l → Keep [] τ τ' → K.next l τ') :
    blk (sk19 prog w (n + 7) lawN) (lawF.drop 9) l τ K := by
  have hlen := hs.ok.len
  have hb := gates_bound hs.wf ca.lt hx
  k_types
  refine .inr ⟨_, items_rng (k := 8) (by decide), ?_⟩
  refine forL_inv (fun rest l τ' => A7 (LL t1 t2 p1 o1 p2 o2 p pr l) (l "apart" = some (.int ap)) (l "differ" = some (.ref dd)) (l "clauses" = some (.ref cc)) (l "ands" = some (.ref aa)) (Keep [] τ τ') (∃ k, (k ≤ 8) ∧ (rest = ((List.range 8).drop k).map (fun (i : Nat) => AV.int (i : Int))))) (fun v vs l τ' F hI hF => ?_) (fun l τ' hI => ?_) _ _ _ ⟨hl, e1, e2, e3, e4, Keep.refl, 0, by decide, rfl⟩
  · obtain ⟨hl, e1, e2, e3, e4, k0, k, hk, f1⟩ := hI
    cases hd' : (List.range 8).drop k with
    | nil => rw [hd'] at f1; cases f1
    | cons i r' =>
      obtain ⟨hp, rfl⟩ := drop_cons hd'
      rw [hd'] at f1
      cases f1
      obtain ⟨hi, hi2⟩ := List.getElem?_eq_some_iff.mp hp
      simp only [List.getElem_range] at hi2
      subst hi2
      simp only [List.length_range] at hi
      have h0 := hs.same k0
      have ln := nv_len (alF k) g.nd
      refine ⟨items_rng (k := 8) (by decide), _, rfl, ?_⟩
      have hl := hl.set (x := "number") (v := .int (k : Int)) (by simp)
      have e1 : updL l "number" (.int (k : Int)) "apart" = some (.int ap) := by (first | exact e1 | (k_units; exact e1))
      have e2 : updL l "number" (.int (k : Int)) "differ" = some (.ref dd) := by (first | exact e2 | (k_units; exact e2))
      have e3 : updL l "number" (.int (k : Int)) "clauses" = some (.ref cc) := by (first | exact e3 | (k_units; exact e3))
      have e4 : updL l "number" (.int (k : Int)) "ands" = some (.ref aa) := by (first | exact e4 | (k_units; exact e4))
      have e5 : updL l "number" (.int (k : Int)) "number" = some (.int (k : Int)) := by k_units
      revert hl e1 e2 e3 e4 e5
      generalize updL l "number" (.int (k : Int)) = l2
      intro hl e1 e2 e3 e4 e5
      k_typeOf
      row_witness_with hl.graph
      k_typeOf
      row_witness_with e5
      k_typeOf
      refine lawNodesC (n := n + 6) hi h0.ag h0.wf h0.ext (by k_data) fun vv τ1 k1 zv gv => ?_
      have gc1 := k1.get (k0.get gc (by simp)) (by simp)
      have gd1 := k1.get (k0.get gd (by simp)) (by simp)
      have ga1 := k1.get (k0.get ga (by simp)) (by simp)
      have zv0 : τ vv = none := k0.fresh zv
      k_typeOf
      row_witness_with e3
      k_typeOf
      refine lawHeldC (n := n + 6) gc1 gv (by rw [ln]; exact hb) (by k_data) fun τ2 k2 => ?_
      have gv2 := k2.get gv (by simp)
      have gd2 := k2.get gd1 (by simp)
      have gc2 := k2.get gc1 (by simp)
      have ga2 := k2.get ga1 (by simp)
      have hD8 : idxOf (bls ((List.range 8).map D)) (k : Int) = some (.bool (D k)) := by
        refine idx_nat ?_
        simp [bls, hi]
      rw [held_true h0.wf rfl I hx.1, hD k]
      k_typeOf
      row_witness_with e2
      k_typeOf
      row_witness_with e5
      k_typeOf
      o_head gd2
      refine ⟨by k_data, ?_⟩
      rw [hD8]
      k_types
      try (refine Br.ffd (by simp) ?_)
      k_typeOf
      row_witness_with e4
      k_types
      refine .inr ⟨_, items_list ga2, ?_⟩
      have hl2 := hl.set (x := "values") (v := .ref vv) (by simp)
      have nva : aa ≠ vv := by rintro rfl; rw [ga1] at *; exact absurd (k1.get (k0.get ga (by simp)) (by simp)) (by intro _; have := k0.get ga (by simp); rw [zv] at this; cases this)
      have nvc : cc ≠ vv := by rintro rfl; have := k0.get gc (by simp); rw [zv] at this; cases this
      have hFall : ∀ l3 τ3, LL t1 t2 p1 o1 p2 o2 p pr l3 → l3 "apart" = some (.int ap) → l3 "differ" = some (.ref dd) → l3 "clauses" = some (.ref cc) → l3 "ands" = some (.ref aa) → Keep [vv] τ2 τ3 → F l3 τ3 := fun l3 τ3 a1 a2 a3 a4 a5 a6 =>
        hF _ _ ⟨a1, a2, a3, a4, a5, ((((k0.trans k1).trans k2).weaken (S' := [vv]) (by simp)).trans a6).drop zv0, k + 1, by k_data, rfl⟩
      generalize hV : nv (alF k) g.nd = V at *
      refine forL_inv (fun rest l τ' => A9 (LL t1 t2 p1 o1 p2 o2 p pr l) (l "apart" = some (.int ap)) (l "differ" = some (.ref dd)) (l "clauses" = some (.ref cc)) (l "ands" = some (.ref aa)) (l "values" = some (.ref vv)) (Keep [vv] τ2 τ') (τ' vv = some (.list (bis V))) (X2 fun done todo => (A = done ++ todo) ∧ (rest = nats todo))) (fun v vs l τ' F' hI hF' => ?_) (fun l τ' hI => ?_) _ _ _ ⟨hl2, by (first | exact e1 | (k_units; exact e1)), by (first | exact e2 | (k_units; exact e2)), by (first | exact e3 | (k_units; exact e3)), by (first | exact e4 | (k_units; exact e4)), by first | rfl | k_units, Keep.refl, gv2, [], A, rfl, rfl⟩
      · obtain ⟨hl, e1, e2, e3, e4, e6, kv, fv, done, todo, f2, f3⟩ := hI
        cases todo with
        | nil => cases f3
        | cons i todo =>
          cases f3
          obtain ⟨hiI, lfi, rti, hnd⟩ := ca.at_ i (by rw [f2]; simp)
          have hil := ca.lt i hiI
          have f2' : A = (done ++ [i]) ++ todo := by rw [f2]; simp
          refine ⟨items_list (kv.get ga2 (by simp [nva])), _, rfl, ?_⟩
          have hl := hl.set (x := "node") (v := .int (i : Int)) (by simp)
          have e1 : updL l "node" (.int (i : Int)) "apart" = some (.int ap) := by (first | exact e1 | (k_units; exact e1))
          have e2 : updL l "node" (.int (i : Int)) "differ" = some (.ref dd) := by (first | exact e2 | (k_units; exact e2))
          have e3 : updL l "node" (.int (i : Int)) "clauses" = some (.ref cc) := by (first | exact e3 | (k_units; exact e3))
          have e4 : updL l "node" (.int (i : Int)) "ands" = some (.ref aa) := by (first | exact e4 | (k_units; exact e4))
          have e6 : updL l "node" (.int (i : Int)) "values" = some (.ref vv) := by (first | exact e6 | (k_units; exact e6))
          have e7 : updL l "node" (.int (i : Int)) "node" = some (.int (i : Int)) := by k_units
          revert hl e1 e2 e3 e4 e6 e7
          generalize updL l "node" (.int (i : Int)) = l4
          intro hl e1 e2 e3 e4 e6 e7
          k_typeOf
          row_witness_with e6
          k_typeOf
          row_witness_with e7
          k_typeOf
          o_head fv
          refine ⟨by k_data, ?_⟩
          rw [bis_get (by k_data)]
          k_types
          rw [bI_flip]
          row_witness_with e6
          k_typeOf
          row_witness_with e7
          k_typeOf
          o_head fv
          refine ⟨by k_data, by k_data, by simp [bis]; k_data, ?_⟩
          rw [Int.toNat_natCast, bis_set]
          have fv5 := upd_self τ' vv (.list (bis (V.set i (!V.getD i false))))
          have k5 : Keep [vv] τ2 (upd τ' vv (.list (bis (V.set i (!V.getD i false))))) := kv.trans (Keep.put (by simp))
          revert fv5 k5
          generalize upd τ' vv (.list (bis (V.set i (!V.getD i false)))) = τ5
          intro fv5 k5
          have hget : (V.set i (!V.getD i false)).getD i false = !V.getD i false := by
            rw [List.getD_eq_getElem?_getD, List.getElem?_set_self (by k_data)]; rfl
          k_typeOf
          row_witness_with e7
          k_typeOf
          row_witness_with e1
          k_types
          (refine Br.mk (fun hc => ?_) (fun hc => ?_))
          · k_typeOf
            row_witness_with e3
            k_typeOf
            row_witness_with e6
            k_typeOf
            refine lawHeldC (n := n + 6) (k5.get gc2 (by simp [nvc])) fv5 (by simp only [List.length_set]; rw [ln]; exact hb) (by simp; k_data) fun τ6 k6 => ?_
            have fv6 := k6.get fv5 (by simp)
            have k6' := k5.trans (k6.weaken (S' := [vv]) (by simp))
            rw [show heldB (V.set i (!V.getD i false)) (gates g I ++ [[varOf ap]]) = false by rw [← hV]; exact held_flip h0.wf I hnd hiI _]
            k_typeOf
            row_witness_with e6
            k_typeOf
            row_witness_with e7
            k_typeOf
            o_head fv6
            refine ⟨by k_data, ?_⟩
            rw [bis_get (by simp; k_data), hget]
            k_types
            rw [bI_flip, Bool.not_not]
            row_witness_with e6
            k_typeOf
            row_witness_with e7
            k_typeOf
            o_head fv6
            refine ⟨by k_data, by k_data, by simp [bis]; k_data, ?_⟩
            rw [Int.toNat_natCast, bis_set, set_back V i (by k_data)]
            k_types
            (repeat (refine blk.nil ?_; try dsimp only [kn]))
            exact hF' _ _ ⟨hl, e1, e2, e3, e4, e6, k6'.trans (Keep.put (by simp)), upd_self .., done ++ [i], todo, f2', rfl⟩
          · k_typeOf
            row_witness_with e6
            k_typeOf
            row_witness_with e7
            k_typeOf
            o_head fv5
            refine ⟨by k_data, ?_⟩
            rw [bis_get (by simp; k_data), hget]
            k_types
            rw [bI_flip, Bool.not_not]
            row_witness_with e6
            k_typeOf
            row_witness_with e7
            k_typeOf
            o_head fv5
            refine ⟨by k_data, by k_data, by simp [bis]; k_data, ?_⟩
            rw [Int.toNat_natCast, bis_set, set_back V i (by k_data)]
            k_types
            (repeat (refine blk.nil ?_; try dsimp only [kn]))
            exact hF' _ _ ⟨hl, e1, e2, e3, e4, e6, k5.trans (Keep.put (by simp)), upd_self .., done ++ [i], todo, f2', rfl⟩
      · obtain ⟨hl, e1, e2, e3, e4, e6, kv, fv, done, todo, f2, f3⟩ := hI
        refine ⟨items_list (kv.get ga2 (by simp [nva])), ?_⟩
        k_types
        exact hFall _ _ hl e1 e2 e3 e4 kv
  · obtain ⟨hl, e1, e2, e3, e4, k0, k, hk, f1⟩ := hI
    refine ⟨items_rng (k := 8) (by decide), ?_⟩
    k_types
    (repeat (refine blk.nil ?_; try dsimp only [kn]))
    exact q l τ' hl k0
end


section
variable {prog : Program} {w : World} {n : Nat} {σ : AH} {Q : AV → AH → Prop}
variable {t1 t2 : NtP} {y1 z1 y2 z2 : Int} {cs1 cs2 : List (Kd × Int × List Int)} {p1 o1 p2 o2 : Addr} {p : AP} {pr : Addr} {g0 : G} {l1 r1 l2 r2 : Int}
theorem pick (j : Nat) (hj : j < 2) (jt : Joint g0 (mkN false y1 z1 cs1) (mkN true y2 z2 cs2) l1 r1 l2 r2) (gd1 : (mkN false y1 z1 cs1).Good) (gd2 : (mkN true y2 z2 cs2).Good) :
    ∃ lf rt nm x1 x2, idxOf [AV.tup [.int l1, .int r1], .tup [.int l2, .int r2]] (j : Int) = some (.tup [.int lf, .int rt]) ∧ idxOf [AV.str "y", .str "z"] (j : Int) = some (.str nm) ∧
      Bears g0 (mkN false y1 z1 cs1) L1 x1 lf ∧ Bears g0 (mkN true y2 z2 cs2) L2 x2 rt ∧ lookK (outD y1 z1) nm = some (.int x1) ∧ lookK (outD y2 z2) nm = some (.int x2) ∧
      (0 ≤ x1 ∧ x1 < 5 + (cs1.length : Int)) ∧ (0 ≤ x2 ∧ x2 < 5 + (cs2.length : Int)) := by
  have a1 := gd1.y1
  have a2 := gd1.y2
  have a3 := gd2.y1
  have a4 := gd2.y2
  have c1 : (mkN false y1 z1 cs1).y1 = y1 := rfl
  have c2 : (mkN false y1 z1 cs1).y2 = z1 := rfl
  have c3 : (mkN true y2 z2 cs2).y1 = z2 := rfl
  have c4 : (mkN true y2 z2 cs2).y2 = y2 := rfl
  have c5 : (mkN false y1 z1 cs1).cs = cs1 := rfl
  have c6 : (mkN true y2 z2 cs2).cs = cs2 := rfl
  rw [c1, c5] at a1
  rw [c2, c5] at a2
  rw [c3, c6] at a3
  rw [c4, c6] at a4
  match j, hj with
  | 0, _ => exact ⟨l1, r1, "y", y1, y2, rfl, rfl, jt.l1, jt.r1, outD_y .., outD_y .., ⟨by k_data, a1.2⟩, ⟨by k_data, a4.2⟩⟩
  | 1, _ => exact ⟨l2, r2, "z", z1, z2, rfl, rfl, jt.l2, jt.r2, outD_z .., outD_z .., ⟨by k_data, a2.2⟩, ⟨by k_data, a3.2⟩⟩

theorem lawC {K : Kont} {l : Loc} {τ : AH} (hl : LL t1 t2 p1 o1 p2 o2 p pr l) (h : LB τ t1 t2 y1 z1 y2 z2 cs1 cs2 p1 o1 p2 o2 p pr g0 l1 r1 l2 r2) (q : ∀ τ, K.ret (.bool true) τ) :
    blk (sk20 prog w (n + 7) lawN) (lawB.drop 4) l τ K := by
  have sp : SP t1 t2 p pr := ⟨h.s1, h.s2, h.np.2.2.2.2⟩
  have hi3 : g0.ins = [1, 2, 3] := h.jt.ext.ins
  k_typeOf
  o_head hl.pairs
  k_typeOf
  o_head h.hpr
  k_types
  try (refine Br.ffd rfl ?_)
  k_typeOf
  o_head hl.graph
  k_typeOf
  o_head h.ag.ns
  k_types
  rw [h.ag.i, show g0.iAV = [.int 1, .int 2, .int 3] by unfold G.iAV; rw [hi3]; rfl]
  k_types
  refine .inr ⟨_, items_rng (k := 2) (by decide), ?_⟩
  have s0 : LS t1 t2 y1 z1 y2 z2 cs1 cs2 p1 o1 p2 o2 p pr l1 r1 l2 r2 40 g0 τ := ⟨h.n1, h.n2, h.g1, h.g2, h.hp1, h.hp2, h.ho1, h.ho2, h.ag, h.jt.wf, h.jt.ok, h.jt.ext, h.hpr⟩
  refine forL_inv (fun rest l τ => (LL t1 t2 p1 o1 p2 o2 p pr l) ∧ (X3 fun j g m => A5 (j ≤ 2) (m ≤ 40 + 3 * j) (rest = ((List.range 2).drop j).map (fun (i : Nat) => AV.int (i : Int))) (LS t1 t2 y1 z1 y2 z2 cs1 cs2 p1 o1 p2 o2 p pr l1 r1 l2 r2 m g τ) (Ext g0 g))) (fun v vs l τ F hI hF => ?_) (fun l τ hI => ?_) _ _ _ ⟨hl, 0, g0, 40, by decide, by decide, rfl, s0, Ext.refl g0⟩
  · obtain ⟨hl, j, g, m, hj, hm, f1, hs, hx⟩ := hI
    cases hd' : (List.range 2).drop j with
    | nil => rw [hd'] at f1; cases f1
    | cons i r' =>
      obtain ⟨hp, rfl⟩ := drop_cons hd'
      rw [hd'] at f1
      cases f1
      obtain ⟨hi, hi2⟩ := List.getElem?_eq_some_iff.mp hp
      simp only [List.getElem_range] at hi2
      subst hi2
      simp only [List.length_range] at hi
      obtain ⟨lf, rt, nm, x1, x2, q1, q2, b1, b2, u1, u2, v1, v2⟩ := pick j hi h.jt h.g1 h.g2
      have b1 := b1.ext (L1_in.ext h.jt.ext) hx
      have b2 := b2.ext (L2_in.ext h.jt.ext) hx
      have fin : ∀ l τ' g', LL t1 t2 p1 o1 p2 o2 p pr l → LS t1 t2 y1 z1 y2 z2 cs1 cs2 p1 o1 p2 o2 p pr l1 r1 l2 r2 (m + 3) g' τ' → Ext g g' → F l τ' := fun l τ' g' a1 a2 a3 =>
        hF _ _ ⟨a1, j + 1, g', m + 3, by k_data, by k_data, rfl, a2, hx.trans a3⟩
      refine ⟨items_rng (k := 2) (by decide), _, rfl, ?_⟩
      have hl := hl.set (x := "at") (v := .int (j : Int)) (by simp)
      have e0 : updL l "at" (.int (j : Int)) "at" = some (.int (j : Int)) := by k_units
      revert hl e0
      generalize updL l "at" (.int (j : Int)) = lq
      intro hl e0
      refine blk_at 3 ?_
      k_typeOf
      row_witness_with hl.pairs
      k_typeOf
      row_witness_with e0
      k_typeOf
      o_head hs.hpr
      refine ⟨by k_data, ?_⟩
      rw [q1]
      k_typeOf
      (first | refine fun c1 zc1 => ?_ | (k_types; intro c1 zc1))
      have hs1 := hs.same (Keep.new (o := .list [.str "y", .str "z"]) zc1)
      k_typeOf
      row_witness_with e0
      k_typeOf
      o_head upd_self
      refine ⟨by k_data, ?_⟩
      rw [q2]
      k_typeOf
      (first | refine fun dd zd => ?_ | (k_types; intro dd zd))
      have hs2 := hs1.same (Keep.new (o := .list []) zd)
      have hl3 := (((hl.set (x := "left") (v := .int lf) (by simp)).set (x := "right") (v := .int rt) (by simp)).set (x := "name") (v := .str nm) (by simp)).set (x := "differ") (v := .ref dd) (by simp)
      have nd : dd ≠ p.na := by first | exact nes hs1.ag.n zd | exact nes' hs1.ag.n zd | (rintro rfl; rw [hs1.ag.n] at zd; cases zd)
      have c3 : upd (upd τ c1 (AO.list [AV.str "y", AV.str "z"])) dd (AO.list []) dd = some (.list []) := upd_self ..
      have e6 : lq "at" = some (.int (j : Int)) := e0
      (repeat (refine blk.nil ?_; try dsimp only [kn]))
      refine show blk (sk19 prog w (n + 7) lawN) (lawF.drop 3) _ _ ⟨F, K.ret, F⟩ from ?_
      refine blk_at 1 (lawX (n := n) (K := ⟨_, _, _⟩) hs1 (by k_data) hl3 (by first | rfl | k_units) (by first | rfl | k_units) (by first | rfl | k_units) (by first | rfl | k_units) zd (Keep.new zd) c3 b1 b2 u1 u2 v1 v2 fun l τ' hl e1 e2 e4 kd gd => ?_)
      have hs3 : LS t1 t2 y1 z1 y2 z2 cs1 cs2 p1 o1 p2 o2 p pr l1 r1 l2 r2 m g τ' := hs1.same (kd.drop zd)
      have hD : ∀ k, (g.lit (alF k) lf ^^ g.lit (alF k) rt) = dfs (mkN false y1 z1 cs1) (mkN true y2 z2 cs2) x1 x2 k := fun k => by
        rw [bears1 hs1.ext b1 k, bears2 hs1.ext b2 k]
        unfold dfs
        cases Nt.at_ (mkN false y1 z1 cs1) false k x1 <;> cases Nt.at_ (mkN true y2 z2 cs2) true k x2 <;> rfl
      refine show blk (sk19 prog w (n + 7) lawN) (lawF.drop 4) _ _ ⟨F, K.ret, F⟩ from ?_
      refine blk_at 2 (lawY (n := n) (K := ⟨_, _, _⟩) hs3 sp (by k_data) hl e1 e2 e4 gd nd b1.inn b2.inn hD (fun l τ' g' a1 a2 a3 => fin l τ' g' a1 a2 a3) fun l τ2 g' ap hl hs4 hx4 e1 e4 gd hin h2 hD2 => ?_)
      refine show blk (sk19 prog w (n + 7) lawN) (lawF.drop 6) _ _ ⟨F, K.ret, F⟩ from ?_
      refine blk_at 3 (lawZ1 (n := n) (K := ⟨_, _, _⟩) hs4 (by k_data) hl e1 e4 gd hin fun l τ3 cc aa I A hl k3 e1 e4 ec ea gc ga ca => ?_)
      refine show blk (sk19 prog w (n + 7) lawN) (lawF.drop 9) _ _ ⟨F, K.ret, F⟩ from ?_
      exact lawZ2 (n := n) (hs4.same k3) (by k_data) hl e1 e4 ec ea (k3.get gd (by simp)) gc ga ca hin hD2 fun l τ4 hl k4 => fin l τ4 g' hl ((hs4.same k3).same k4) hx4
  · obtain ⟨hl, j, g, m, hj, hm, f1, hs, hx⟩ := hI
    refine ⟨items_rng (k := 2) (by decide), ?_⟩
    k_types
    (repeat (refine blk.nil ?_; try dsimp only [kn]))
    exact q τ
end


section
variable {prog : Program} {w : World} {n : Nat} {σ : AH}
theorem drop13 {P : List Stmt → Prop} (L : List Stmt) (h : P (L.drop 4)) : P ((L.drop 1).drop 3) := by
  rw [List.drop_drop]; exact h
/-- the law's body behind its first statement answers True -/
theorem lawD {K : Kont} {l : Loc} {s i : Addr} (hs : Src σ s i) (e1 : l "source" = some (.ref s)) (q : ∀ τ, K.ret (.bool true) τ) :
    blk (sk20 prog w (n + 7) lawN) (lawB.drop 1) l σ K := by
  refine blk_at 3 (lawA (n := n) (K := ⟨fun l σ => blk (sk20 prog w (n + 7) lawN) ((lawB.drop 1).drop 3) l σ K, K.ret, K.cont⟩) hs e1 fun l t1 t2 y1 z1 y2 z2 cs1 cs2 p1 o1 p2 o2 p pr g0 l1 r1 l2 r2 τ hl h => ?_)
  have r := lawC (n := n) (prog := prog) (w := w) (K := K) hl h q
  dsimp only
  exact drop13 (P := fun as => blk (sk20 prog w (n + 7) lawN) as l τ K) lawB r
end
end Mine.Internal

namespace MineH.Internal
/-- each look at the law by a kernel check of its own: one check of all of them takes 43 s and 4 GB -/
theorem saidL : PySem.Challenge.rw_on0128_01.wellSaid = true := by
  unfold OpenLaw.wellSaid
  repeat' (with_reducible refine look_both ?_ ?_)
  all_goals try (unfold OpenRow.wellSaid; repeat' (with_reducible refine look_both ?_ ?_))
  all_goals try (unfold OpenRow.partSaid; repeat' (with_reducible refine look_both ?_ ?_))
  all_goals try (unfold looksOpen; repeat' (with_reducible refine look_both ?_ ?_))
  all_goals first | decide +kernel | rfl
end MineH.Internal


namespace MineH.Internal
noncomputable def dLaw : DefRec := ⟨Str.ofString "law", sP (st1 45), sB (st1 45), sS (st1 45), qH⟩
noncomputable abbrev rwL : OpenRow := PySem.Challenge.rw_on0128_01.row
theorem defL : defOf vw rwL.name = some (dLaw, []) := by kernel_rfl
theorem theL : rwL.prog.theDef rwL.name = some (dLaw.params, dLaw.body, dLaw.scope) := by kernel_rfl
theorem kwL : kwWritten? dLaw.params.kwonlyargs dLaw.params.kw_defaults = some [] := by kernel_rfl
theorem okL : (chainsOk vw && opensWell rwL.prog && (frees rwL.toRowW && rwL.within.isEmpty)) = true := by kernel_rfl
theorem bareL : PySem.Challenge.pw_on0128_01.bare := ⟨rfl, rfl, rfl, rfl, rfl, by decide +kernel⟩
theorem witL : rwL.toRowW.promised := by
  show (PySem.Challenge.rw_on0128_01.row.toRowW).promised
  w_witness2
theorem head (hc : WalkO vw lo (XL vw []) HK.says rwL.toRowW dLaw [] fun f vs => PySem.call f vs) : PySem.Challenge.rw_on0128_01.Holds :=
  holds_law saidL fun said => PySem.W.holds_open (q := vw) (loose := lo) (Xt := XT) (XP := XL vw []) (Yf := HK.obs) (Ya := HK.val) (YP := HK.says) (N := 5362) leftT (Hook.of HK) (Hook.keeps HK) (fun s e => xl_of s (Bool.and_eq_true_iff.mp e).1) XL.keeps (d := dLaw) (kwd := []) defL theL kwL (fun s e => recFacts_of (Bool.and_eq_true_iff.mp e).2) (by rfl) said okL bareL witL hc
end MineH.Internal


namespace Mine.Internal
theorem ints_all2 {h : Heap} : ∀ {vs : List Value} {ns : List Int}, IntsAre vs ns → All2 (VRel h) (ns.map AV.int) vs
  | _, _, .nil => .nil
  | _, _, .cons _ _ r => .cons ⟨_, rfl⟩ (ints_all2 r)
theorem cells_law (L : Nat) : cellsFrom (L + 1) MineH.Internal.dLaw.scope.names [] = [(("graph" : Str), L + 1)] := by kernel_rfl
theorem names_law : (MineH.Internal.dLaw.scope.names.all fun p => (p.2 != .cell && p.2 != .free) || p.1 == ("graph" : Str)) = true := by kernel_rfl
theorem kind_law {x : Str} {k : NameKind} (e : MineH.Internal.dLaw.scope.names.lookup x = some k) (hk : k = .cell ∨ k = .free) : x = "graph" := by
  have := List.all_eq_true.mp names_law _ (mem_of_lookup e)
  rcases hk with rfl | rfl <;> simpa using this
theorem drop1_law : MineH.Internal.dLaw.body.drop 1 = lawB.drop 1 := rfl

theorem rest_ok {w : World} {s₁ : Shared} {fa : Addr} {cdv : Value} (KX : (MineH.Internal.KT w.params).In s₁.heap) (T : ∃ p loose mg mb, TopRead p loose mg mb s₁.heap)
    {h : Heap} {tk : Nat} {m : Str → Option Value} {D a : Addr} {t1 t2 : Nat} {b : Int} {ws : List Value} {xs : List Int} {c : Nat} {ob : Obj} {u : Option Value}
    (F : Fr s₁.heap s₁.heap.objs.size h m) (hm : m "source" = some (.ref a))
    (N : News s₁.heap s₁.heap.objs.size h [(a, W.listOf #[Value.ref D, Value.int 0 t1, Value.int b t2] 0), (D, W.listOf ws.toArray c), (s₁.heap.objs.size + 1, ob)]) (ho : ob.data = .cell u) (hI : IntsAre ws xs) (len : xs.length ≤ 63) (hb0 : 0 ≤ b) (hb1 : b < 2147483563)
    (l1 : D < a) (l2 : s₁.heap.objs.size + 1 < D) {name : Str} (hn : MineH.Internal.dLaw.scope.kind = .function)
    {Q : Flow → Shared → Prop} {E : Value → Shared → Prop} (hQ : ∀ h' tk', (∀ b o, s₁.heap.get? b = some o → h'.get? b = some o) → Q (.ret (.bool true)) { s₁ with heap := h', toks := tk' }) :
    wpAny (model MineH.Internal.pg w) (callerA.deeper (envOfC name MineH.Internal.dLaw.scope s₁.heap.objs.size fa cdv)) (execs (MineH.Internal.dLaw.body.drop 1) (envOfC name MineH.Internal.dLaw.scope s₁.heap.objs.size fa cdv)) Q E { s₁ with heap := h, toks := tk } := by
  let env := envOfC name MineH.Internal.dLaw.scope s₁.heap.objs.size fa cdv
  let C : Cx := { w := w, A := callerA.deeper env, env := env, hf := s₁.heap, Lf := s₁.heap.objs.size, fenv := env, base := s₁.heap, outer := [], A₀ := callerA, lo := s₁.heap.objs.size }
  have ec : env.cells = [(("graph" : Str), s₁.heap.objs.size + 1)] := cells_law _
  have ek : ∀ x, env.kindOf x = MineH.Internal.dLaw.scope.names.lookup x := fun _ => rfl
  have fresh : ∀ {b : Addr}, s₁.heap.objs.size ≤ b → s₁.heap.get? b = none := fun {b} hb => by
    cases q : s₁.heap.get? b with
    | none => rfl
    | some o => exact absurd (Heap.lt_size q) (Nat.not_lt.mpr hb)
  have look : ∀ {x : Str} {c : Addr}, env.cells.lookup x = some c → x = "graph" ∧ c = s₁.heap.objs.size + 1 := fun {x c} e => by
    rw [ec] at e
    have := mem_of_lookup e
    rcases List.mem_cons.mp this with q | q
    · exact ⟨congrArg Prod.fst q, congrArg Prod.snd q⟩
    · cases q
  have lg : env.cells.lookup ("graph" : Str) = some (s₁.heap.objs.size + 1) := by rw [ec]; rfl
  have hc : h.IsCell (s₁.heap.objs.size + 1) u := ⟨ob, (N (_, _) (List.mem_cons_of_mem _ (List.mem_cons_of_mem _ List.mem_cons_self))).1, ho⟩
  have cx : CxOK w (lib w.params) (0 + 7) C :=
    { weq := rfl, below := below_caller _, frames := rfl, frame := rfl, fkind := hn, X := KX, T := T, hh := rfl, lolf := Nat.le_refl _
      sys := by
        have := Heap.lt_size (KX 2 (MineH.Internal.o49 w.params) rfl)
        show sysModules < s₁.heap.objs.size
        show 1 < _; exact Nat.lt_of_succ_lt this
      depth := by show callerA.depth + 1 + 2 * (0 + 7) < 990; decide +kernel
      units := by show callerA.units + 3 + 20 * (0 + 7) < 9000; decide +kernel
      kind := hn, glob := rfl, bins := rfl, frm := rfl
      cells := fun y c e => by
        obtain ⟨_, rfl⟩ := look e
        exact ⟨fresh (Nat.le_succ _), Nat.succ_ne_self _⟩ }
  let σ : AH := upd (upd (fun _ => none) D (.list (xs.map AV.int))) a (.list [.ref D, .int 0, .int b])
  let l : Loc := fun x => if x = "source" then some (.ref a) else none
  have hs : Src σ a D := ⟨xs, 0, b, by
    refine ⟨upd_self _ _ _, ?_, len, Int.le_refl _, hb0, hb1⟩
    show upd _ a _ D = _
    rw [upd_ne (Nat.ne_of_lt l1), upd_self]⟩
  have cases2 : ∀ {p : Addr} {o : AO}, σ p = some o → (p = a ∧ o = .list [.ref D, .int 0, .int b]) ∨ (p = D ∧ o = .list (xs.map AV.int)) := fun {p o} e => by
    by_cases z : p = a
    · subst z
      have e' : upd (upd (fun _ => none) D (.list (xs.map AV.int))) p (.list [.ref D, .int 0, .int b]) p = some o := e
      rw [upd_self] at e'; cases e'; exact .inl ⟨rfl, rfl⟩
    · have e' : upd (upd (fun _ => none) D (.list (xs.map AV.int))) a (.list [.ref D, .int 0, .int b]) p = some o := e
      rw [upd_ne z] at e'
      by_cases y : p = D
      · subst y; rw [upd_self] at e'; cases e'; exact .inr ⟨rfl, rfl⟩
      · rw [upd_ne y] at e'; cases e'
  have iv : Inv MineH.Internal.pg C l σ h := by
    refine ⟨⟨m, F⟩, fun p q => ?_, fun p o e => ?_, ?_⟩
    · obtain ⟨o, e⟩ := Option.ne_none_iff_exists'.mp q
      have hp : s₁.heap.objs.size < p := by
        rcases cases2 e with ⟨rfl, _⟩ | ⟨rfl, _⟩
        · exact Nat.lt_trans (Nat.lt_trans (Nat.lt_succ_self _) l2) l1
        · exact Nat.lt_trans (Nat.lt_succ_self _) l2
      exact ⟨Nat.le_of_lt hp, fresh (Nat.le_of_lt hp), Nat.ne_of_gt hp, Nat.ne_of_gt hp⟩
    · rcases cases2 e with ⟨rfl, rfl⟩ | ⟨rfl, rfl⟩
      · exact ⟨[.ref D, .int 0 t1, .int b t2], 0, (N (_, _) List.mem_cons_self).1, .cons rfl (.cons ⟨_, rfl⟩ (.cons ⟨_, rfl⟩ .nil))⟩
      · exact ⟨ws, c, (N (_, _) (List.mem_cons_of_mem _ List.mem_cons_self)).1, ints_all2 hI⟩
    · refine ⟨⟨m, F.ns, fun x v e _ => ?_⟩, fun x v e q => ?_, fun x q => ?_, fun x y c e1 e2 => ?_, fun x c e => ?_⟩
      · by_cases z : x = "source"
        · subst z
          have e' : some (AV.ref a) = some v := e
          cases e'; exact ⟨_, hm, rfl⟩
        · have e' : (if x = "source" then some (AV.ref a) else none) = some v := e
          rw [if_neg z] at e'; cases e'
      · have z : x = "source" := by
          apply Decidable.byContradiction; intro z
          have e' : (if x = "source" then some (AV.ref a) else none) = some v := e
          rw [if_neg z] at e'; cases e'
        have g : x = "graph" := by rcases q with q | q <;> exact kind_law ((ek x).symm.trans q) (by simp)
        rw [z] at g; exact absurd g (by decide)
      · have g : x = "graph" := kind_law ((ek x).symm.trans q) (.inl rfl)
        subst g
        exact ⟨_, _, lg, hc⟩
      · obtain ⟨rfl, _⟩ := look e1; obtain ⟨rfl, _⟩ := look e2; rfl
      · obtain ⟨_, rfl⟩ := look e; exact ⟨_, hc⟩
  have key := lawD (prog := MineH.Internal.pg) (w := w) (n := 0) (K := ⟨fun _ _ => False, fun v _ => v = .bool true, fun _ _ => False⟩) (l := l) hs (by show (if _ then _ else _) = _; rw [if_pos rfl]) fun _ => rfl
  rw [sk20_eq] at key
  have run := blk_ok (stN_ok (prog := MineH.Internal.pg) (w := w) (n := 0 + 7) (N := lawN) (libOK w.params) 20 20) cx rfl rfl (lawB.drop 1) l σ { s₁ with heap := h, toks := tk } _ iv key
  rw [drop1_law]
  refine wpAny_mono run (fun f s' p => ?_) fun _ _ e => e.elim
  obtain ⟨h', tk', σ', l', rfl, st, i', p⟩ := p
  cases f with
  | next => exact p.elim
  | cont => exact p.elim
  | brk => exact p.elim
  | ret v =>
    obtain ⟨av, ra, e⟩ := p
    rw [show av = _ from e] at ra
    rw [show v = _ from ra]
    exact hQ h' tk' (i'.fr.elim fun _ F' => F'.keep)
end Mine.Internal


namespace MineH.Internal
theorem execs_split {prog : Program} {w : World} {A : Around} {S : Stmt} {b body : List Stmt} {env : Env} {Q : Flow → Shared → Prop} {E : Value → Shared → Prop} {s : Shared} (e : body = S :: b) (G : Shared → Prop)
    (h1 : ∀ Q' : Flow → Shared → Prop, (∀ s', G s' → Q' .next s') → wpAny (model prog w) A (exec S env) Q' E s) (h2 : ∀ s', G s' → wpAny (model prog w) A (execs b env) Q E s') : wpAny (model prog w) A (execs body env) Q E s := by
  subst e
  exact wpAny_execs_cons (h1 _ fun s' g => h2 s' g)
theorem sub3 {h₀ h : Heap} {L : Addr} {p1 p2 p3 p4 p5 : Addr × Obj} (N : News h₀ L h [p1, p2, p3, p4, p5]) : News h₀ L h [p1, p3, p5] := fun p hp => by
  simp only [List.mem_cons, List.not_mem_nil, or_false] at hp
  rcases hp with rfl | rfl | rfl <;> exact N _ (by simp)
noncomputable def Good (s₁ : Shared) (xs : List Int) (s' : Shared) : Prop := ∃ (h : Heap) (tk : Nat) (m : Str → Option Value) (D a : Addr) (t1 t2 : Nat) (ws : List Value) (c : Nat) (ob : Obj) (u : Option Value),
  s' = { s₁ with heap := h, toks := tk } ∧ Fr s₁.heap s₁.heap.objs.size h m ∧ m "source" = some (.ref a) ∧
  News s₁.heap s₁.heap.objs.size h [(a, W.listOf #[Value.ref D, Value.int 0 t1, Value.int (1 + (xs.take 60).sum.fmod 9973) t2] 0), (D, W.listOf ws.toArray c), (s₁.heap.objs.size + 1, ob)] ∧ ob.data = .cell u ∧ IntsAre ws (xs.take 60) ∧ D < a ∧ s₁.heap.objs.size + 1 < D
local macro_rules | `(tactic| k_qdec) => `(tactic| decide +kernel)
theorem walk0 : WalkO vw lo (XL vw []) HK.says rwL.toRowW dLaw [] fun f vs => PySem.call f vs := by
  intro w s₀ s₁ mg mb G Y fa o pm cd doc dV kV ho hd hcd hD hmg hg args vals as hpre hlay hrd hwl hlo
  have KX := kIn_of Y
  k_behind G ho hd hcd hD hmg hpre hlay hrd hwl hlo cd
  rename_i xs _ _ _ _ _ _ _ _ _ _ _ _ _ _ _ _ _ _ _ _ _ _ _ _ _ _
  refine execs_split (S := dLaw.body.headD (.Pass default)) (b := dLaw.body.drop 1) (by kernel_rfl) (Good s₁ xs) (fun Q' hQ => ?_) fun s' g => ?_
  · conv => enter [3, 1]; whnf
    k_steps
    have N := ‹News s₁.heap s₁.heap.objs.size _ [_, _, _, _, _]›
    have l1 := ‹_ < _ ∧ _ < _ ∧ _ < _ ∧ _ < _›
    have l2 := ‹_ < _ ∧ s₁.heap.objs.size + 1 < _›
    exact hQ _ ⟨_, _, _, _, _, _, _, _, _, _, _, rfl, by assumption, if_pos rfl, sub3 N, by assumption, by assumption, l1.2.1, l2.2⟩
  · obtain ⟨h, tk, m, D, a, t1, t2, ws, c, ob, u, rfl, F, hm, N, hob, hI, l1, l2⟩ := g
    refine Mine.Internal.rest_ok KX ⟨_, _, _, _, topRead_of ‹Top _ _ _ _ _ _›⟩ F hm N hob hI ?_ ?_ ?_ l1 l2 (by rfl) fun h' tk' k => ?_
    · rw [List.length_take]; exact Nat.le_trans (Nat.min_le_left _ _) (by decide)
    · have := Int.fmod_nonneg_of_pos (xs.take 60).sum (b := 9973) (by decide); (first | lia | omega)
    · have := Int.fmod_lt_of_pos (xs.take 60).sum (b := 9973) (by decide); (first | lia | omega)
    · exact ⟨.inl ⟨.bool true, .bool true, [], rfl, fun _ => rfl, .bool true, by kernel_rfl, fun _ => ⟨.nil, fun _ h => nomatch h⟩⟩, k, rfl, hg⟩
theorem all : PySem.Challenge.rw_on0128_01.Holds := head walk0
end MineH.Internal

set_option maxRecDepth 100000 in
set_option maxHeartbeats 8000000 in
theorem PySem.Challenge.cw_on0128_01_holds : PySem.Challenge.rw_on0128_01.Holds :=
  MineH.Internal.all
