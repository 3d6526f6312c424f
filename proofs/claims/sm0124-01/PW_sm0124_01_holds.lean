import PyProof.Rows.All
import Wide.All
import OpenK.AllK
import Wide.FinOn
import Lean
import PySem.Challenge.RW_sm0124_01
set_option Elab.async false
set_option maxRecDepth 100000
set_option autoImplicit false
set_option linter.unusedVariables false

namespace Mine
open PySem PySem.W PyProof.Rows

section
/-- the program's top, statement by statement -/
noncomputable def topSts : List Stmt := PySem.Challenge.pw_sm0124_01.main.body
noncomputable def topSt (i : Nat) : Option Stmt := topSts[i]?
noncomputable def inSt (i j : Nat) : Option Stmt := match topSt i with
  | some (.ClassDef _ _ _ b _ _ _ _ _ _ _) => b[j]?
  | _ => none
/-- the object that a def of the program is, as it stands behind the top -/
noncomputable def fnObj (s : Option Stmt) (qual mod : Str) (tok code : Nat) : Obj := match s with
  | some (.FunctionDef n a b _ _ _ sc _ _ _) => { cls := .type "function", data := .func { name := n, qualname := qual, params := a, body := .stmts b, scope := sc, globals := 3, closure := [], defaults := .none, kwdefaults := .none, pyModule := .str mod tok, code := .ref code } }
  | _ => default
noncomputable def cdObj (s : Option Stmt) (qual : Str) : Obj := match s with
  | some (.FunctionDef n a b _ _ _ sc _ _ _) => { cls := .none, data := .func { name := n, qualname := qual, params := a, body := .stmts b, scope := sc, globals := 0, closure := [], defaults := .none, kwdefaults := .none } }
  | _ => default
noncomputable def ho3 (P : Params) : Obj := { cls := Value.type "dict", data := Data.dict #[{ hash := PyData.keyHash P ("__name__"), key := Value.str ("__name__") 165, val := Value.str ("law_sm0124_01") 825 }, { hash := PyData.keyHash P ("__doc__"), key := Value.str ("__doc__") 166, val := Value.none }, { hash := PyData.keyHash P ("__package__"), key := Value.str ("__package__") 167, val := Value.none }, { hash := PyData.keyHash P ("__loader__"), key := Value.str ("__loader__") 168, val := Value.builtin "__main__.__loader__#opaque" }, { hash := PyData.keyHash P ("__spec__"), key := Value.str ("__spec__") 169, val := Value.none }, { hash := PyData.keyHash P ("__annotations__"), key := Value.str ("__annotations__") 170, val := Value.ref 6 }, { hash := PyData.keyHash P ("__builtins__"), key := Value.str ("__builtins__") 171, val := Value.ref 4 }, { hash := PyData.keyHash P ("__file__"), key := Value.str ("__file__") 173, val := Value.str ("/claim/cut.py") 172 }, { hash := PyData.keyHash P ("__cached__"), key := Value.str ("__cached__") 174, val := Value.none }, { hash := PyData.keyHash P ("REG_F"), key := Value.str ("REG_F") 190, val := Value.int 6 189 }, { hash := PyData.keyHash P ("REG_A"), key := Value.str ("REG_A") 192, val := Value.int 7 191 }, { hash := PyData.keyHash P ("Cpu"), key := Value.str ("Cpu") 233, val := Value.ref 31 }, { hash := PyData.keyHash P ("Ports"), key := Value.str ("Ports") 264, val := Value.ref 52 }, { hash := PyData.keyHash P ("pair"), key := Value.str ("pair") 272, val := Value.ref 63 }, { hash := PyData.keyHash P ("set_pair"), key := Value.str ("set_pair") 281, val := Value.ref 70 }, { hash := PyData.keyHash P ("stack_pair"), key := Value.str ("stack_pair") 289, val := Value.ref 77 }, { hash := PyData.keyHash P ("set_stack_pair"), key := Value.str ("set_stack_pair") 298, val := Value.ref 84 }, { hash := PyData.keyHash P ("exchange_sets"), key := Value.str ("exchange_sets") 306, val := Value.ref 91 }, { hash := PyData.keyHash P ("exchange_af"), key := Value.str ("exchange_af") 314, val := Value.ref 98 }, { hash := PyData.keyHash P ("peek"), key := Value.str ("peek") 322, val := Value.ref 105 }, { hash := PyData.keyHash P ("poke"), key := Value.str ("poke") 331, val := Value.ref 112 }, { hash := PyData.keyHash P ("peek16"), key := Value.str ("peek16") 339, val := Value.ref 119 }, { hash := PyData.keyHash P ("poke16"), key := Value.str ("poke16") 348, val := Value.ref 126 }, { hash := PyData.keyHash P ("fetch"), key := Value.str ("fetch") 357, val := Value.ref 133 }, { hash := PyData.keyHash P ("fetch16"), key := Value.str ("fetch16") 366, val := Value.ref 140 }, { hash := PyData.keyHash P ("push"), key := Value.str ("push") 375, val := Value.ref 147 }, { hash := PyData.keyHash P ("pop"), key := Value.str ("pop") 384, val := Value.ref 154 }, { hash := PyData.keyHash P ("signed_octet"), key := Value.str ("signed_octet") 391, val := Value.ref 161 }, { hash := PyData.keyHash P ("port_in"), key := Value.str ("port_in") 400, val := Value.ref 168 }, { hash := PyData.keyHash P ("port_out"), key := Value.str ("port_out") 409, val := Value.ref 175 }, { hash := PyData.keyHash P ("S"), key := Value.str ("S") 413, val := Value.int 128 412 }, { hash := PyData.keyHash P ("Z"), key := Value.str ("Z") 415, val := Value.int 64 414 }, { hash := PyData.keyHash P ("H"), key := Value.str ("H") 417, val := Value.int 16 416 }, { hash := PyData.keyHash P ("PV"), key := Value.str ("PV") 419, val := Value.int 4 418 }, { hash := PyData.keyHash P ("N"), key := Value.str ("N") 421, val := Value.int 2 420 }, { hash := PyData.keyHash P ("C"), key := Value.str ("C") 423, val := Value.int 1 422 }, { hash := PyData.keyHash P ("YX"), key := Value.str ("YX") 425, val := Value.int 40 424 }, { hash := PyData.keyHash P ("KEPT"), key := Value.str ("KEPT") 428, val := Value.int 196 427 }, { hash := PyData.keyHash P ("RLC"), key := Value.str ("RLC") 430, val := Value.int 0 429 }, { hash := PyData.keyHash P ("RRC"), key := Value.str ("RRC") 432, val := Value.int 1 431 }, { hash := PyData.keyHash P ("RL"), key := Value.str ("RL") 434, val := Value.int 2 433 }, { hash := PyData.keyHash P ("RR"), key := Value.str ("RR") 436, val := Value.int 3 435 }, { hash := PyData.keyHash P ("SLA"), key := Value.str ("SLA") 438, val := Value.int 4 437 }, { hash := PyData.keyHash P ("SRA"), key := Value.str ("SRA") 440, val := Value.int 5 439 }, { hash := PyData.keyHash P ("SLL"), key := Value.str ("SLL") 442, val := Value.int 6 441 }, { hash := PyData.keyHash P ("SRL"), key := Value.str ("SRL") 444, val := Value.int 7 443 }, { hash := PyData.keyHash P ("parity"), key := Value.str ("parity") 451, val := Value.ref 182 }, { hash := PyData.keyHash P ("szyx"), key := Value.str ("szyx") 458, val := Value.ref 189 }, { hash := PyData.keyHash P ("add8"), key := Value.str ("add8") 470, val := Value.ref 196 }, { hash := PyData.keyHash P ("sub8"), key := Value.str ("sub8") 482, val := Value.ref 203 }, { hash := PyData.keyHash P ("cp8"), key := Value.str ("cp8") 492, val := Value.ref 210 }, { hash := PyData.keyHash P ("and8"), key := Value.str ("and8") 501, val := Value.ref 217 }, { hash := PyData.keyHash P ("or8"), key := Value.str ("or8") 510, val := Value.ref 224 }, { hash := PyData.keyHash P ("xor8"), key := Value.str ("xor8") 519, val := Value.ref 231 }, { hash := PyData.keyHash P ("inc8"), key := Value.str ("inc8") 528, val := Value.ref 238 }, { hash := PyData.keyHash P ("dec8"), key := Value.str ("dec8") 537, val := Value.ref 245 }, { hash := PyData.keyHash P ("high_flags"), key := Value.str ("high_flags") 546, val := Value.ref 252 }, { hash := PyData.keyHash P ("add16"), key := Value.str ("add16") 557, val := Value.ref 259 }, { hash := PyData.keyHash P ("daa"), key := Value.str ("daa") 570, val := Value.ref 266 }, { hash := PyData.keyHash P ("cpl"), key := Value.str ("cpl") 579, val := Value.ref 273 }, { hash := PyData.keyHash P ("scf"), key := Value.str ("scf") 587, val := Value.ref 280 }, { hash := PyData.keyHash P ("ccf"), key := Value.str ("ccf") 595, val := Value.ref 287 }, { hash := PyData.keyHash P ("turned"), key := Value.str ("turned") 606, val := Value.ref 294 }, { hash := PyData.keyHash P ("rotate_a"), key := Value.str ("rotate_a") 617, val := Value.ref 301 }, { hash := PyData.keyHash P ("FLAG"), key := Value.str ("FLAG") 621, val := Value.int 6 620 }, { hash := PyData.keyHash P ("ACC"), key := Value.str ("ACC") 623, val := Value.int 7 622 }, { hash := PyData.keyHash P ("HL"), key := Value.str ("HL") 625, val := Value.int 2 624 }, { hash := PyData.keyHash P ("CARRY"), key := Value.str ("CARRY") 627, val := Value.int 1 626 }, { hash := PyData.keyHash P ("CONDITIONS"), key := Value.str ("CONDITIONS") 632, val := Value.ref 302 }, { hash := PyData.keyHash P ("holds"), key := Value.str ("holds") 641, val := Value.ref 309 }, { hash := PyData.keyHash P ("register"), key := Value.str ("register") 650, val := Value.ref 316 }, { hash := PyData.keyHash P ("set_register"), key := Value.str ("set_register") 660, val := Value.ref 323 }, { hash := PyData.keyHash P ("keep_pair"), key := Value.str ("keep_pair") 669, val := Value.ref 330 }, { hash := PyData.keyHash P ("reckoned"), key := Value.str ("reckoned") 680, val := Value.ref 337 }, { hash := PyData.keyHash P ("plain"), key := Value.str ("plain") 693, val := Value.ref 344 }, { hash := PyData.keyHash P ("plain_load"), key := Value.str ("plain_load") 703, val := Value.ref 351 }, { hash := PyData.keyHash P ("plain_first"), key := Value.str ("plain_first") 717, val := Value.ref 358 }, { hash := PyData.keyHash P ("first_jumps"), key := Value.str ("first_jumps") 728, val := Value.ref 365 }, { hash := PyData.keyHash P ("first_pairs"), key := Value.str ("first_pairs") 740, val := Value.ref 372 }, { hash := PyData.keyHash P ("first_memory"), key := Value.str ("first_memory") 752, val := Value.ref 379 }, { hash := PyData.keyHash P ("first_flags"), key := Value.str ("first_flags") 763, val := Value.ref 386 }, { hash := PyData.keyHash P ("plain_last"), key := Value.str ("plain_last") 775, val := Value.ref 393 }, { hash := PyData.keyHash P ("last_return"), key := Value.str ("last_return") 784, val := Value.ref 400 }, { hash := PyData.keyHash P ("last_stack"), key := Value.str ("last_stack") 794, val := Value.ref 407 }, { hash := PyData.keyHash P ("last_other"), key := Value.str ("last_other") 805, val := Value.ref 414 }, { hash := PyData.keyHash P ("last_call"), key := Value.str ("last_call") 815, val := Value.ref 421 }, { hash := PyData.keyHash P ("last_push"), key := Value.str ("last_push") 824, val := Value.ref 428 }, { hash := PyData.keyHash P ("_law_names"), key := Value.str ("_law_names") 828, val := Value.str ("BCDEHLFA") 827 }, { hash := PyData.keyHash P ("_law_next"), key := Value.str ("_law_next") 838, val := Value.ref 435 }, { hash := PyData.keyHash P ("_law_place"), key := Value.str ("_law_place") 845, val := Value.ref 442 }, { hash := PyData.keyHash P ("_law_order"), key := Value.str ("_law_order") 859, val := Value.ref 449 }, { hash := PyData.keyHash P ("_law_meet"), key := Value.str ("_law_meet") 865, val := Value.ref 454 }, { hash := PyData.keyHash P ("_law_done"), key := Value.str ("_law_done") 879, val := Value.ref 461 }, { hash := PyData.keyHash P ("_law_needed"), key := Value.str ("_law_needed") 885, val := Value.ref 466 }, { hash := PyData.keyHash P ("law"), key := Value.str ("law") 891, val := Value.ref 471 }] 95 }
noncomputable def ho11 (P : Params) : Obj := { cls := Value.type "tuple", data := Data.seq #[] }
noncomputable def ho12 (P : Params) : Obj := { cls := Value.none, data := Data.fields #[Value.int 4 0, Value.int 0 0, Value.ref 20, Value.int 21 0, Value.int 0 0, Value.ref 41, Value.int 27 0, Value.int 0 0, Value.ref 62, Value.int 29 0, Value.int 0 0, Value.ref 69, Value.int 35 0, Value.int 0 0, Value.ref 76, Value.int 37 0, Value.int 0 0, Value.ref 83, Value.int 43 0, Value.int 0 0, Value.ref 90, Value.int 46 0, Value.int 0 0, Value.ref 97, Value.int 49 0, Value.int 0 0, Value.ref 104, Value.int 51 0, Value.int 0 0, Value.ref 111, Value.int 53 0, Value.int 0 0, Value.ref 118, Value.int 55 0, Value.int 0 0, Value.ref 125, Value.int 58 0, Value.int 0 0, Value.ref 132, Value.int 62 0, Value.int 0 0, Value.ref 139, Value.int 65 0, Value.int 0 0, Value.ref 146, Value.int 68 0, Value.int 0 0, Value.ref 153, Value.int 72 0, Value.int 0 0, Value.ref 160, Value.int 74 0, Value.int 0 0, Value.ref 167, Value.int 80 0, Value.int 0 0, Value.ref 174, Value.int 99 0, Value.int 0 0, Value.ref 181, Value.int 104 0, Value.int 0 0, Value.ref 188, Value.int 106 0, Value.int 0 0, Value.ref 195, Value.int 111 0, Value.int 0 0, Value.ref 202, Value.int 116 0, Value.int 0 0, Value.ref 209, Value.int 119 0, Value.int 0 0, Value.ref 216, Value.int 122 0, Value.int 0 0, Value.ref 223, Value.int 125 0, Value.int 0 0, Value.ref 230, Value.int 128 0, Value.int 0 0, Value.ref 237, Value.int 131 0, Value.int 0 0, Value.ref 244, Value.int 134 0, Value.int 0 0, Value.ref 251, Value.int 136 0, Value.int 0 0, Value.ref 258, Value.int 140 0, Value.int 0 0, Value.ref 265, Value.int 151 0, Value.int 0 0, Value.ref 272, Value.int 154 0, Value.int 0 0, Value.ref 279, Value.int 156 0, Value.int 0 0, Value.ref 286, Value.int 158 0, Value.int 0 0, Value.ref 293, Value.int 166 0, Value.int 0 0, Value.ref 300, Value.int 175 0, Value.int 0 0, Value.ref 308, Value.int 178 0, Value.int 0 0, Value.ref 315, Value.int 180 0, Value.int 0 0, Value.ref 322, Value.int 185 0, Value.int 0 0, Value.ref 329, Value.int 187 0, Value.int 0 0, Value.ref 336, Value.int 201 0, Value.int 0 0, Value.ref 343, Value.int 212 0, Value.int 0 0, Value.ref 350, Value.int 219 0, Value.int 0 0, Value.ref 357, Value.int 241 0, Value.int 0 0, Value.ref 364, Value.int 258 0, Value.int 0 0, Value.ref 371, Value.int 267 0, Value.int 0 0, Value.ref 378, Value.int 283 0, Value.int 0 0, Value.ref 385, Value.int 297 0, Value.int 0 0, Value.ref 392, Value.int 320 0, Value.int 0 0, Value.ref 399, Value.int 326 0, Value.int 0 0, Value.ref 406, Value.int 342 0, Value.int 0 0, Value.ref 413, Value.int 367 0, Value.int 0 0, Value.ref 420, Value.int 373 0, Value.int 0 0, Value.ref 427, Value.int 381 0, Value.int 0 0, Value.ref 434, Value.int 387 0, Value.int 0 0, Value.ref 441, Value.int 389 0, Value.int 0 0, Value.ref 448, Value.int 412 0, Value.int 0 0, Value.ref 453, Value.int 414 0, Value.int 0 0, Value.ref 460, Value.int 420 0, Value.int 0 0, Value.ref 465, Value.int 427 0, Value.int 0 0, Value.ref 470] }
noncomputable def ho13 (P : Params) : Obj := { cls := Value.type "code", data := Data.fields #[Value.str ("<module>") 182, Value.str ("<module>") 183, Value.str ("/claim/cut.py") 184, Value.int 1 0, Value.int 0 0, Value.int 0 0, Value.int 0 0, Value.int 0 0, Value.ref 11, Value.bool false, Value.int 181 0, Value.ref 12, Value.none, Value.none, Value.none, Value.none, Value.int 185 0, Value.int 1 0, Value.str ("/claim/cut.py") 186] }
noncomputable def ho14 (P : Params) : Obj := { cls := Value.type "frame", slots := #[some (Value.ref 13), some (Value.ref 3), some (Value.ref 3), none, some (Value.str ("__main__") 164), none, some (Value.ref 0)] }
noncomputable def ho15 (P : Params) : Obj := { cls := Value.type "tuple", data := Data.seq #[] }
noncomputable def ho16 (P : Params) : Obj := { cls := Value.type "builtin_function_or_method", data := Data.fields #[Value.builtin "type.__prepare__", Value.type "type"] }
noncomputable def ho17 (P : Params) : Obj := { cls := Value.type "dict", data := Data.dict #[{ hash := PyData.keyHash P ("__module__"), key := Value.str ("__module__") 200, val := Value.str ("z80.cpu") 187 }, { hash := PyData.keyHash P ("__qualname__"), key := Value.str ("__qualname__") 202, val := Value.str ("Cpu") 201 }, { hash := PyData.keyHash P ("__firstlineno__"), key := Value.str ("__firstlineno__") 204, val := Value.int 4 203 }, { hash := PyData.keyHash P ("__init__"), key := Value.str ("__init__") 211, val := Value.ref 28 }, { hash := PyData.keyHash P ("__static_attributes__"), key := Value.str ("__static_attributes__") 226, val := Value.ref 29 }] 5 }
noncomputable def ho18 (P : Params) : Obj := { cls := Value.type "tuple", data := Data.seq #[] }
noncomputable def ho19 (P : Params) : Obj := { cls := Value.none, data := Data.fields #[Value.int 6 0, Value.int 4 0, Value.ref 27] }
noncomputable def ho20 (P : Params) : Obj := { cls := Value.type "code", data := Data.fields #[Value.str ("Cpu") 195, Value.str ("Cpu") 196, Value.str ("/claim/cut.py") 197, Value.int 4 0, Value.int 0 0, Value.int 0 0, Value.int 0 0, Value.int 0 0, Value.ref 18, Value.bool false, Value.int 181 0, Value.ref 19, Value.none, Value.none, Value.none, Value.none, Value.int 198 0, Value.int 4 0, Value.str ("/claim/cut.py") 199] }
noncomputable def ho21 (P : Params) : Obj := { cls := Value.type "frame", slots := #[some (Value.ref 20), some (Value.ref 3), some (Value.ref 17), none, some (Value.str ("z80.cpu") 187), none, some (Value.ref 0)] }
noncomputable def ho22 (P : Params) : Obj := { cls := Value.type "tuple", data := Data.seq #[] }
noncomputable def ho23 (P : Params) : Obj := { cls := Value.none, data := Data.fields #[] }
noncomputable def ho24 (P : Params) : Obj := { cls := Value.type "tuple", data := Data.seq #[Value.str ("self") 208] }
noncomputable def ho25 (P : Params) : Obj := { cls := Value.type "tuple", data := Data.seq #[] }
noncomputable def ho26 (P : Params) : Obj := cdObj (inSt 3 0) "Cpu.__init__"
noncomputable def ho27 (P : Params) : Obj := { cls := Value.type "code", data := Data.fields #[Value.str ("__init__") 205, Value.str ("Cpu.__init__") 206, Value.str ("/claim/cut.py") 207, Value.int 6 0, Value.int 1 0, Value.int 0 0, Value.int 0 0, Value.int 3 0, Value.ref 22, Value.bool true, Value.int 181 0, Value.ref 23, Value.none, Value.ref 24, Value.ref 25, Value.ref 26, Value.int 209 0, Value.int 6 0, Value.str ("/claim/cut.py") 210] }
noncomputable def ho28 (P : Params) : Obj := fnObj (inSt 3 0) "Cpu.__init__" "z80.cpu" 187 27
noncomputable def ho29 (P : Params) : Obj := { cls := Value.type "tuple", data := Data.seq #[Value.str ("i") 212, Value.str ("iff1") 213, Value.str ("iff2") 214, Value.str ("is_halted") 215, Value.str ("is_held") 216, Value.str ("ix") 217, Value.str ("iy") 218, Value.str ("mode") 219, Value.str ("pc") 220, Value.str ("r") 221, Value.str ("ref") 222, Value.str ("s") 223, Value.str ("sp") 224, Value.str ("states") 225] }
noncomputable def ho30 (P : Params) : Obj := { cls := Value.type "dict", data := Data.dict #[{ hash := PyData.keyHash P ("__module__"), key := Value.str ("__module__") 200, val := Value.str ("z80.cpu") 187 }, { hash := PyData.keyHash P ("__firstlineno__"), key := Value.str ("__firstlineno__") 204, val := Value.int 4 203 }, { hash := PyData.keyHash P ("__init__"), key := Value.str ("__init__") 211, val := Value.ref 28 }, { hash := PyData.keyHash P ("__static_attributes__"), key := Value.str ("__static_attributes__") 226, val := Value.ref 29 }, { hash := PyData.keyHash P ("__dict__"), key := Value.str ("__dict__") 228, val := Value.ref 32 }, { hash := PyData.keyHash P ("__weakref__"), key := Value.str ("__weakref__") 230, val := Value.ref 33 }, { hash := PyData.keyHash P ("__doc__"), key := Value.str ("__doc__") 231, val := Value.none }] 4 }
noncomputable def ho31 (P : Params) : Obj := { cls := Value.type "type", data := Data.cls { name := "Cpu", bases := [Value.type "object"], mro := [Value.ref 31, Value.type "object"], ns := 30, qualname := "Cpu" }, slots := #[none, none, some (Value.str ("Cpu") 193), some (Value.str ("Cpu") 201), some (Value.builtin "object.__new__"), some (Value.bool true)] }
noncomputable def ho32 (P : Params) : Obj := { cls := Value.type "getset_descriptor", data := Data.fields #[Value.str ("__dict__") 227, Value.ref 31, Value.builtin "function.__dict__", Value.builtin "function.__dict__#set"] }
noncomputable def ho33 (P : Params) : Obj := { cls := Value.type "getset_descriptor", data := Data.fields #[Value.str ("__weakref__") 229, Value.ref 31, Value.builtin "ExceptionGroup.__weakref__", Value.none] }
noncomputable def ho34 (P : Params) : Obj := { cls := Value.type "super", data := Data.fields #[Value.ref 31, Value.ref 31, Value.ref 31] }
noncomputable def ho35 (P : Params) : Obj := { cls := Value.type "builtin_function_or_method", data := Data.fields #[Value.builtin "object.__init_subclass__", Value.ref 31] }
noncomputable def ho36 (P : Params) : Obj := { cls := Value.type "tuple", data := Data.seq #[] }
noncomputable def ho37 (P : Params) : Obj := { cls := Value.type "builtin_function_or_method", data := Data.fields #[Value.builtin "type.__prepare__", Value.type "type"] }
noncomputable def ho38 (P : Params) : Obj := { cls := Value.type "dict", data := Data.dict #[{ hash := PyData.keyHash P ("__module__"), key := Value.str ("__module__") 241, val := Value.str ("z80.cpu") 187 }, { hash := PyData.keyHash P ("__qualname__"), key := Value.str ("__qualname__") 243, val := Value.str ("Ports") 242 }, { hash := PyData.keyHash P ("__firstlineno__"), key := Value.str ("__firstlineno__") 245, val := Value.int 21 244 }, { hash := PyData.keyHash P ("__init__"), key := Value.str ("__init__") 253, val := Value.ref 49 }, { hash := PyData.keyHash P ("__static_attributes__"), key := Value.str ("__static_attributes__") 257, val := Value.ref 50 }] 5 }
noncomputable def ho39 (P : Params) : Obj := { cls := Value.type "tuple", data := Data.seq #[] }
noncomputable def ho40 (P : Params) : Obj := { cls := Value.none, data := Data.fields #[Value.int 23 0, Value.int 4 0, Value.ref 48] }
noncomputable def ho41 (P : Params) : Obj := { cls := Value.type "code", data := Data.fields #[Value.str ("Ports") 236, Value.str ("Ports") 237, Value.str ("/claim/cut.py") 238, Value.int 21 0, Value.int 0 0, Value.int 0 0, Value.int 0 0, Value.int 0 0, Value.ref 39, Value.bool false, Value.int 181 0, Value.ref 40, Value.none, Value.none, Value.none, Value.none, Value.int 239 0, Value.int 21 0, Value.str ("/claim/cut.py") 240] }
noncomputable def ho42 (P : Params) : Obj := { cls := Value.type "frame", slots := #[some (Value.ref 41), some (Value.ref 3), some (Value.ref 38), none, some (Value.str ("z80.cpu") 187), none, some (Value.ref 0)] }
noncomputable def ho43 (P : Params) : Obj := { cls := Value.type "tuple", data := Data.seq #[] }
noncomputable def ho44 (P : Params) : Obj := { cls := Value.none, data := Data.fields #[] }
noncomputable def ho45 (P : Params) : Obj := { cls := Value.type "tuple", data := Data.seq #[Value.str ("self") 249, Value.str ("ins") 250] }
noncomputable def ho46 (P : Params) : Obj := { cls := Value.type "tuple", data := Data.seq #[] }
noncomputable def ho47 (P : Params) : Obj := cdObj (inSt 4 0) "Ports.__init__"
noncomputable def ho48 (P : Params) : Obj := { cls := Value.type "code", data := Data.fields #[Value.str ("__init__") 246, Value.str ("Ports.__init__") 247, Value.str ("/claim/cut.py") 248, Value.int 23 0, Value.int 2 0, Value.int 0 0, Value.int 0 0, Value.int 3 0, Value.ref 43, Value.bool true, Value.int 181 0, Value.ref 44, Value.none, Value.ref 45, Value.ref 46, Value.ref 47, Value.int 251 0, Value.int 23 0, Value.str ("/claim/cut.py") 252] }
noncomputable def ho49 (P : Params) : Obj := fnObj (inSt 4 0) "Ports.__init__" "z80.cpu" 187 48
noncomputable def ho50 (P : Params) : Obj := { cls := Value.type "tuple", data := Data.seq #[Value.str ("at") 254, Value.str ("ins") 255, Value.str ("outs") 256] }
noncomputable def ho51 (P : Params) : Obj := { cls := Value.type "dict", data := Data.dict #[{ hash := PyData.keyHash P ("__module__"), key := Value.str ("__module__") 241, val := Value.str ("z80.cpu") 187 }, { hash := PyData.keyHash P ("__firstlineno__"), key := Value.str ("__firstlineno__") 245, val := Value.int 21 244 }, { hash := PyData.keyHash P ("__init__"), key := Value.str ("__init__") 253, val := Value.ref 49 }, { hash := PyData.keyHash P ("__static_attributes__"), key := Value.str ("__static_attributes__") 257, val := Value.ref 50 }, { hash := PyData.keyHash P ("__dict__"), key := Value.str ("__dict__") 259, val := Value.ref 53 }, { hash := PyData.keyHash P ("__weakref__"), key := Value.str ("__weakref__") 261, val := Value.ref 54 }, { hash := PyData.keyHash P ("__doc__"), key := Value.str ("__doc__") 262, val := Value.none }] 4 }
noncomputable def ho52 (P : Params) : Obj := { cls := Value.type "type", data := Data.cls { name := "Ports", bases := [Value.type "object"], mro := [Value.ref 52, Value.type "object"], ns := 51, qualname := "Ports" }, slots := #[none, none, some (Value.str ("Ports") 234), some (Value.str ("Ports") 242), some (Value.builtin "object.__new__"), some (Value.bool true)] }
noncomputable def ho53 (P : Params) : Obj := { cls := Value.type "getset_descriptor", data := Data.fields #[Value.str ("__dict__") 258, Value.ref 52, Value.builtin "function.__dict__", Value.builtin "function.__dict__#set"] }
noncomputable def ho54 (P : Params) : Obj := { cls := Value.type "getset_descriptor", data := Data.fields #[Value.str ("__weakref__") 260, Value.ref 52, Value.builtin "ExceptionGroup.__weakref__", Value.none] }
noncomputable def ho55 (P : Params) : Obj := { cls := Value.type "super", data := Data.fields #[Value.ref 52, Value.ref 52, Value.ref 52] }
noncomputable def ho56 (P : Params) : Obj := { cls := Value.type "builtin_function_or_method", data := Data.fields #[Value.builtin "object.__init_subclass__", Value.ref 52] }
noncomputable def ho57 (P : Params) : Obj := { cls := Value.type "tuple", data := Data.seq #[] }
noncomputable def ho58 (P : Params) : Obj := { cls := Value.none, data := Data.fields #[] }
noncomputable def ho59 (P : Params) : Obj := { cls := Value.type "tuple", data := Data.seq #[Value.str ("cpu") 268, Value.str ("p") 269] }
noncomputable def ho60 (P : Params) : Obj := { cls := Value.type "tuple", data := Data.seq #[] }
noncomputable def ho61 (P : Params) : Obj := cdObj (topSt 5) "pair"
noncomputable def ho62 (P : Params) : Obj := { cls := Value.type "code", data := Data.fields #[Value.str ("pair") 265, Value.str ("pair") 266, Value.str ("/claim/cut.py") 267, Value.int 27 0, Value.int 2 0, Value.int 0 0, Value.int 0 0, Value.int 3 0, Value.ref 57, Value.bool true, Value.int 181 0, Value.ref 58, Value.none, Value.ref 59, Value.ref 60, Value.ref 61, Value.int 270 0, Value.int 27 0, Value.str ("/claim/cut.py") 271] }
noncomputable def ho63 (P : Params) : Obj := fnObj (topSt 5) "pair" "z80.cpu" 187 62
noncomputable def ho64 (P : Params) : Obj := { cls := Value.type "tuple", data := Data.seq #[] }
noncomputable def ho65 (P : Params) : Obj := { cls := Value.none, data := Data.fields #[] }
noncomputable def ho66 (P : Params) : Obj := { cls := Value.type "tuple", data := Data.seq #[Value.str ("cpu") 276, Value.str ("p") 277, Value.str ("value") 278] }
noncomputable def ho67 (P : Params) : Obj := { cls := Value.type "tuple", data := Data.seq #[] }
noncomputable def ho68 (P : Params) : Obj := cdObj (topSt 6) "set_pair"
noncomputable def ho69 (P : Params) : Obj := { cls := Value.type "code", data := Data.fields #[Value.str ("set_pair") 273, Value.str ("set_pair") 274, Value.str ("/claim/cut.py") 275, Value.int 29 0, Value.int 3 0, Value.int 0 0, Value.int 0 0, Value.int 3 0, Value.ref 64, Value.bool true, Value.int 181 0, Value.ref 65, Value.none, Value.ref 66, Value.ref 67, Value.ref 68, Value.int 279 0, Value.int 29 0, Value.str ("/claim/cut.py") 280] }
noncomputable def ho70 (P : Params) : Obj := fnObj (topSt 6) "set_pair" "z80.cpu" 187 69
noncomputable def ho71 (P : Params) : Obj := { cls := Value.type "tuple", data := Data.seq #[] }
noncomputable def ho72 (P : Params) : Obj := { cls := Value.none, data := Data.fields #[] }
noncomputable def ho73 (P : Params) : Obj := { cls := Value.type "tuple", data := Data.seq #[Value.str ("cpu") 285, Value.str ("p") 286] }
noncomputable def ho74 (P : Params) : Obj := { cls := Value.type "tuple", data := Data.seq #[] }
noncomputable def ho75 (P : Params) : Obj := cdObj (topSt 7) "stack_pair"
noncomputable def ho76 (P : Params) : Obj := { cls := Value.type "code", data := Data.fields #[Value.str ("stack_pair") 282, Value.str ("stack_pair") 283, Value.str ("/claim/cut.py") 284, Value.int 35 0, Value.int 2 0, Value.int 0 0, Value.int 0 0, Value.int 3 0, Value.ref 71, Value.bool true, Value.int 181 0, Value.ref 72, Value.none, Value.ref 73, Value.ref 74, Value.ref 75, Value.int 287 0, Value.int 35 0, Value.str ("/claim/cut.py") 288] }
noncomputable def ho77 (P : Params) : Obj := fnObj (topSt 7) "stack_pair" "z80.cpu" 187 76
noncomputable def ho78 (P : Params) : Obj := { cls := Value.type "tuple", data := Data.seq #[] }
noncomputable def ho79 (P : Params) : Obj := { cls := Value.none, data := Data.fields #[] }
noncomputable def ho80 (P : Params) : Obj := { cls := Value.type "tuple", data := Data.seq #[Value.str ("cpu") 293, Value.str ("p") 294, Value.str ("value") 295] }
noncomputable def ho81 (P : Params) : Obj := { cls := Value.type "tuple", data := Data.seq #[] }
noncomputable def ho82 (P : Params) : Obj := cdObj (topSt 8) "set_stack_pair"
noncomputable def ho83 (P : Params) : Obj := { cls := Value.type "code", data := Data.fields #[Value.str ("set_stack_pair") 290, Value.str ("set_stack_pair") 291, Value.str ("/claim/cut.py") 292, Value.int 37 0, Value.int 3 0, Value.int 0 0, Value.int 0 0, Value.int 3 0, Value.ref 78, Value.bool true, Value.int 181 0, Value.ref 79, Value.none, Value.ref 80, Value.ref 81, Value.ref 82, Value.int 296 0, Value.int 37 0, Value.str ("/claim/cut.py") 297] }
noncomputable def ho84 (P : Params) : Obj := fnObj (topSt 8) "set_stack_pair" "z80.cpu" 187 83
noncomputable def ho85 (P : Params) : Obj := { cls := Value.type "tuple", data := Data.seq #[] }
noncomputable def ho86 (P : Params) : Obj := { cls := Value.none, data := Data.fields #[] }
noncomputable def ho87 (P : Params) : Obj := { cls := Value.type "tuple", data := Data.seq #[Value.str ("cpu") 302, Value.str ("at") 303] }
noncomputable def ho88 (P : Params) : Obj := { cls := Value.type "tuple", data := Data.seq #[] }
noncomputable def ho89 (P : Params) : Obj := cdObj (topSt 9) "exchange_sets"
noncomputable def ho90 (P : Params) : Obj := { cls := Value.type "code", data := Data.fields #[Value.str ("exchange_sets") 299, Value.str ("exchange_sets") 300, Value.str ("/claim/cut.py") 301, Value.int 43 0, Value.int 1 0, Value.int 0 0, Value.int 0 0, Value.int 3 0, Value.ref 85, Value.bool true, Value.int 181 0, Value.ref 86, Value.none, Value.ref 87, Value.ref 88, Value.ref 89, Value.int 304 0, Value.int 43 0, Value.str ("/claim/cut.py") 305] }
noncomputable def ho91 (P : Params) : Obj := fnObj (topSt 9) "exchange_sets" "z80.cpu" 187 90
noncomputable def ho92 (P : Params) : Obj := { cls := Value.type "tuple", data := Data.seq #[] }
noncomputable def ho93 (P : Params) : Obj := { cls := Value.none, data := Data.fields #[] }
noncomputable def ho94 (P : Params) : Obj := { cls := Value.type "tuple", data := Data.seq #[Value.str ("cpu") 310, Value.str ("at") 311] }
noncomputable def ho95 (P : Params) : Obj := { cls := Value.type "tuple", data := Data.seq #[] }
noncomputable def ho96 (P : Params) : Obj := cdObj (topSt 10) "exchange_af"
noncomputable def ho97 (P : Params) : Obj := { cls := Value.type "code", data := Data.fields #[Value.str ("exchange_af") 307, Value.str ("exchange_af") 308, Value.str ("/claim/cut.py") 309, Value.int 46 0, Value.int 1 0, Value.int 0 0, Value.int 0 0, Value.int 3 0, Value.ref 92, Value.bool true, Value.int 181 0, Value.ref 93, Value.none, Value.ref 94, Value.ref 95, Value.ref 96, Value.int 312 0, Value.int 46 0, Value.str ("/claim/cut.py") 313] }
noncomputable def ho98 (P : Params) : Obj := fnObj (topSt 10) "exchange_af" "z80.cpu" 187 97
noncomputable def ho99 (P : Params) : Obj := { cls := Value.type "tuple", data := Data.seq #[] }
noncomputable def ho100 (P : Params) : Obj := { cls := Value.none, data := Data.fields #[] }
noncomputable def ho101 (P : Params) : Obj := { cls := Value.type "tuple", data := Data.seq #[Value.str ("memory") 318, Value.str ("at") 319] }
noncomputable def ho102 (P : Params) : Obj := { cls := Value.type "tuple", data := Data.seq #[] }
noncomputable def ho103 (P : Params) : Obj := cdObj (topSt 11) "peek"
noncomputable def ho104 (P : Params) : Obj := { cls := Value.type "code", data := Data.fields #[Value.str ("peek") 315, Value.str ("peek") 316, Value.str ("/claim/cut.py") 317, Value.int 49 0, Value.int 2 0, Value.int 0 0, Value.int 0 0, Value.int 3 0, Value.ref 99, Value.bool true, Value.int 181 0, Value.ref 100, Value.none, Value.ref 101, Value.ref 102, Value.ref 103, Value.int 320 0, Value.int 49 0, Value.str ("/claim/cut.py") 321] }
noncomputable def ho105 (P : Params) : Obj := fnObj (topSt 11) "peek" "z80.cpu" 187 104
noncomputable def ho106 (P : Params) : Obj := { cls := Value.type "tuple", data := Data.seq #[] }
noncomputable def ho107 (P : Params) : Obj := { cls := Value.none, data := Data.fields #[] }
noncomputable def ho108 (P : Params) : Obj := { cls := Value.type "tuple", data := Data.seq #[Value.str ("memory") 326, Value.str ("at") 327, Value.str ("octet") 328] }
noncomputable def ho109 (P : Params) : Obj := { cls := Value.type "tuple", data := Data.seq #[] }
noncomputable def ho110 (P : Params) : Obj := cdObj (topSt 12) "poke"
noncomputable def ho111 (P : Params) : Obj := { cls := Value.type "code", data := Data.fields #[Value.str ("poke") 323, Value.str ("poke") 324, Value.str ("/claim/cut.py") 325, Value.int 51 0, Value.int 3 0, Value.int 0 0, Value.int 0 0, Value.int 3 0, Value.ref 106, Value.bool true, Value.int 181 0, Value.ref 107, Value.none, Value.ref 108, Value.ref 109, Value.ref 110, Value.int 329 0, Value.int 51 0, Value.str ("/claim/cut.py") 330] }
noncomputable def ho112 (P : Params) : Obj := fnObj (topSt 12) "poke" "z80.cpu" 187 111
noncomputable def ho113 (P : Params) : Obj := { cls := Value.type "tuple", data := Data.seq #[] }
noncomputable def ho114 (P : Params) : Obj := { cls := Value.none, data := Data.fields #[] }
noncomputable def ho115 (P : Params) : Obj := { cls := Value.type "tuple", data := Data.seq #[Value.str ("memory") 335, Value.str ("at") 336] }
noncomputable def ho116 (P : Params) : Obj := { cls := Value.type "tuple", data := Data.seq #[] }
noncomputable def ho117 (P : Params) : Obj := cdObj (topSt 13) "peek16"
noncomputable def ho118 (P : Params) : Obj := { cls := Value.type "code", data := Data.fields #[Value.str ("peek16") 332, Value.str ("peek16") 333, Value.str ("/claim/cut.py") 334, Value.int 53 0, Value.int 2 0, Value.int 0 0, Value.int 0 0, Value.int 3 0, Value.ref 113, Value.bool true, Value.int 181 0, Value.ref 114, Value.none, Value.ref 115, Value.ref 116, Value.ref 117, Value.int 337 0, Value.int 53 0, Value.str ("/claim/cut.py") 338] }
noncomputable def ho119 (P : Params) : Obj := fnObj (topSt 13) "peek16" "z80.cpu" 187 118
noncomputable def ho120 (P : Params) : Obj := { cls := Value.type "tuple", data := Data.seq #[] }
noncomputable def ho121 (P : Params) : Obj := { cls := Value.none, data := Data.fields #[] }
noncomputable def ho122 (P : Params) : Obj := { cls := Value.type "tuple", data := Data.seq #[Value.str ("memory") 343, Value.str ("at") 344, Value.str ("value") 345] }
noncomputable def ho123 (P : Params) : Obj := { cls := Value.type "tuple", data := Data.seq #[] }
noncomputable def ho124 (P : Params) : Obj := cdObj (topSt 14) "poke16"
noncomputable def ho125 (P : Params) : Obj := { cls := Value.type "code", data := Data.fields #[Value.str ("poke16") 340, Value.str ("poke16") 341, Value.str ("/claim/cut.py") 342, Value.int 55 0, Value.int 3 0, Value.int 0 0, Value.int 0 0, Value.int 3 0, Value.ref 120, Value.bool true, Value.int 181 0, Value.ref 121, Value.none, Value.ref 122, Value.ref 123, Value.ref 124, Value.int 346 0, Value.int 55 0, Value.str ("/claim/cut.py") 347] }
noncomputable def ho126 (P : Params) : Obj := fnObj (topSt 14) "poke16" "z80.cpu" 187 125
noncomputable def ho127 (P : Params) : Obj := { cls := Value.type "tuple", data := Data.seq #[] }
noncomputable def ho128 (P : Params) : Obj := { cls := Value.none, data := Data.fields #[] }
noncomputable def ho129 (P : Params) : Obj := { cls := Value.type "tuple", data := Data.seq #[Value.str ("cpu") 352, Value.str ("memory") 353, Value.str ("octet") 354] }
noncomputable def ho130 (P : Params) : Obj := { cls := Value.type "tuple", data := Data.seq #[] }
noncomputable def ho131 (P : Params) : Obj := cdObj (topSt 15) "fetch"
noncomputable def ho132 (P : Params) : Obj := { cls := Value.type "code", data := Data.fields #[Value.str ("fetch") 349, Value.str ("fetch") 350, Value.str ("/claim/cut.py") 351, Value.int 58 0, Value.int 2 0, Value.int 0 0, Value.int 0 0, Value.int 3 0, Value.ref 127, Value.bool true, Value.int 181 0, Value.ref 128, Value.none, Value.ref 129, Value.ref 130, Value.ref 131, Value.int 355 0, Value.int 58 0, Value.str ("/claim/cut.py") 356] }
noncomputable def ho133 (P : Params) : Obj := fnObj (topSt 15) "fetch" "z80.cpu" 187 132
noncomputable def ho134 (P : Params) : Obj := { cls := Value.type "tuple", data := Data.seq #[] }
noncomputable def ho135 (P : Params) : Obj := { cls := Value.none, data := Data.fields #[] }
noncomputable def ho136 (P : Params) : Obj := { cls := Value.type "tuple", data := Data.seq #[Value.str ("cpu") 361, Value.str ("memory") 362, Value.str ("under") 363] }
noncomputable def ho137 (P : Params) : Obj := { cls := Value.type "tuple", data := Data.seq #[] }
noncomputable def ho138 (P : Params) : Obj := cdObj (topSt 16) "fetch16"
noncomputable def ho139 (P : Params) : Obj := { cls := Value.type "code", data := Data.fields #[Value.str ("fetch16") 358, Value.str ("fetch16") 359, Value.str ("/claim/cut.py") 360, Value.int 62 0, Value.int 2 0, Value.int 0 0, Value.int 0 0, Value.int 3 0, Value.ref 134, Value.bool true, Value.int 181 0, Value.ref 135, Value.none, Value.ref 136, Value.ref 137, Value.ref 138, Value.int 364 0, Value.int 62 0, Value.str ("/claim/cut.py") 365] }
noncomputable def ho140 (P : Params) : Obj := fnObj (topSt 16) "fetch16" "z80.cpu" 187 139
noncomputable def ho141 (P : Params) : Obj := { cls := Value.type "tuple", data := Data.seq #[] }
noncomputable def ho142 (P : Params) : Obj := { cls := Value.none, data := Data.fields #[] }
noncomputable def ho143 (P : Params) : Obj := { cls := Value.type "tuple", data := Data.seq #[Value.str ("cpu") 370, Value.str ("memory") 371, Value.str ("value") 372] }
noncomputable def ho144 (P : Params) : Obj := { cls := Value.type "tuple", data := Data.seq #[] }
noncomputable def ho145 (P : Params) : Obj := cdObj (topSt 17) "push"
noncomputable def ho146 (P : Params) : Obj := { cls := Value.type "code", data := Data.fields #[Value.str ("push") 367, Value.str ("push") 368, Value.str ("/claim/cut.py") 369, Value.int 65 0, Value.int 3 0, Value.int 0 0, Value.int 0 0, Value.int 3 0, Value.ref 141, Value.bool true, Value.int 181 0, Value.ref 142, Value.none, Value.ref 143, Value.ref 144, Value.ref 145, Value.int 373 0, Value.int 65 0, Value.str ("/claim/cut.py") 374] }
noncomputable def ho147 (P : Params) : Obj := fnObj (topSt 17) "push" "z80.cpu" 187 146
noncomputable def ho148 (P : Params) : Obj := { cls := Value.type "tuple", data := Data.seq #[] }
noncomputable def ho149 (P : Params) : Obj := { cls := Value.none, data := Data.fields #[] }
noncomputable def ho150 (P : Params) : Obj := { cls := Value.type "tuple", data := Data.seq #[Value.str ("cpu") 379, Value.str ("memory") 380, Value.str ("value") 381] }
noncomputable def ho151 (P : Params) : Obj := { cls := Value.type "tuple", data := Data.seq #[] }
noncomputable def ho152 (P : Params) : Obj := cdObj (topSt 18) "pop"
noncomputable def ho153 (P : Params) : Obj := { cls := Value.type "code", data := Data.fields #[Value.str ("pop") 376, Value.str ("pop") 377, Value.str ("/claim/cut.py") 378, Value.int 68 0, Value.int 2 0, Value.int 0 0, Value.int 0 0, Value.int 3 0, Value.ref 148, Value.bool true, Value.int 181 0, Value.ref 149, Value.none, Value.ref 150, Value.ref 151, Value.ref 152, Value.int 382 0, Value.int 68 0, Value.str ("/claim/cut.py") 383] }
noncomputable def ho154 (P : Params) : Obj := fnObj (topSt 18) "pop" "z80.cpu" 187 153
noncomputable def ho155 (P : Params) : Obj := { cls := Value.type "tuple", data := Data.seq #[] }
noncomputable def ho156 (P : Params) : Obj := { cls := Value.none, data := Data.fields #[] }
noncomputable def ho157 (P : Params) : Obj := { cls := Value.type "tuple", data := Data.seq #[Value.str ("octet") 388] }
noncomputable def ho158 (P : Params) : Obj := { cls := Value.type "tuple", data := Data.seq #[] }
noncomputable def ho159 (P : Params) : Obj := cdObj (topSt 19) "signed_octet"
noncomputable def ho160 (P : Params) : Obj := { cls := Value.type "code", data := Data.fields #[Value.str ("signed_octet") 385, Value.str ("signed_octet") 386, Value.str ("/claim/cut.py") 387, Value.int 72 0, Value.int 1 0, Value.int 0 0, Value.int 0 0, Value.int 3 0, Value.ref 155, Value.bool true, Value.int 181 0, Value.ref 156, Value.none, Value.ref 157, Value.ref 158, Value.ref 159, Value.int 389 0, Value.int 72 0, Value.str ("/claim/cut.py") 390] }
noncomputable def ho161 (P : Params) : Obj := fnObj (topSt 19) "signed_octet" "z80.cpu" 187 160
noncomputable def ho162 (P : Params) : Obj := { cls := Value.type "tuple", data := Data.seq #[] }
noncomputable def ho163 (P : Params) : Obj := { cls := Value.none, data := Data.fields #[] }
noncomputable def ho164 (P : Params) : Obj := { cls := Value.type "tuple", data := Data.seq #[Value.str ("ports") 395, Value.str ("number") 396, Value.str ("octet") 397] }
noncomputable def ho165 (P : Params) : Obj := { cls := Value.type "tuple", data := Data.seq #[] }
noncomputable def ho166 (P : Params) : Obj := cdObj (topSt 20) "port_in"
noncomputable def ho167 (P : Params) : Obj := { cls := Value.type "code", data := Data.fields #[Value.str ("port_in") 392, Value.str ("port_in") 393, Value.str ("/claim/cut.py") 394, Value.int 74 0, Value.int 2 0, Value.int 0 0, Value.int 0 0, Value.int 3 0, Value.ref 162, Value.bool true, Value.int 181 0, Value.ref 163, Value.none, Value.ref 164, Value.ref 165, Value.ref 166, Value.int 398 0, Value.int 74 0, Value.str ("/claim/cut.py") 399] }
noncomputable def ho168 (P : Params) : Obj := fnObj (topSt 20) "port_in" "z80.cpu" 187 167
noncomputable def ho169 (P : Params) : Obj := { cls := Value.type "tuple", data := Data.seq #[] }
noncomputable def ho170 (P : Params) : Obj := { cls := Value.none, data := Data.fields #[] }
noncomputable def ho171 (P : Params) : Obj := { cls := Value.type "tuple", data := Data.seq #[Value.str ("ports") 404, Value.str ("number") 405, Value.str ("octet") 406] }
noncomputable def ho172 (P : Params) : Obj := { cls := Value.type "tuple", data := Data.seq #[] }
noncomputable def ho173 (P : Params) : Obj := cdObj (topSt 21) "port_out"
noncomputable def ho174 (P : Params) : Obj := { cls := Value.type "code", data := Data.fields #[Value.str ("port_out") 401, Value.str ("port_out") 402, Value.str ("/claim/cut.py") 403, Value.int 80 0, Value.int 3 0, Value.int 0 0, Value.int 0 0, Value.int 3 0, Value.ref 169, Value.bool true, Value.int 181 0, Value.ref 170, Value.none, Value.ref 171, Value.ref 172, Value.ref 173, Value.int 407 0, Value.int 80 0, Value.str ("/claim/cut.py") 408] }
noncomputable def ho175 (P : Params) : Obj := fnObj (topSt 21) "port_out" "z80.cpu" 187 174
noncomputable def ho176 (P : Params) : Obj := { cls := Value.type "tuple", data := Data.seq #[] }
noncomputable def ho177 (P : Params) : Obj := { cls := Value.none, data := Data.fields #[] }
noncomputable def ho178 (P : Params) : Obj := { cls := Value.type "tuple", data := Data.seq #[Value.str ("v") 448] }
noncomputable def ho179 (P : Params) : Obj := { cls := Value.type "tuple", data := Data.seq #[] }
noncomputable def ho180 (P : Params) : Obj := cdObj (topSt 39) "parity"
noncomputable def ho181 (P : Params) : Obj := { cls := Value.type "code", data := Data.fields #[Value.str ("parity") 445, Value.str ("parity") 446, Value.str ("/claim/cut.py") 447, Value.int 99 0, Value.int 1 0, Value.int 0 0, Value.int 0 0, Value.int 3 0, Value.ref 176, Value.bool true, Value.int 181 0, Value.ref 177, Value.none, Value.ref 178, Value.ref 179, Value.ref 180, Value.int 449 0, Value.int 99 0, Value.str ("/claim/cut.py") 450] }
noncomputable def ho182 (P : Params) : Obj := fnObj (topSt 39) "parity" "z80.flags" 410 181
noncomputable def ho183 (P : Params) : Obj := { cls := Value.type "tuple", data := Data.seq #[] }
noncomputable def ho184 (P : Params) : Obj := { cls := Value.none, data := Data.fields #[] }
noncomputable def ho185 (P : Params) : Obj := { cls := Value.type "tuple", data := Data.seq #[Value.str ("v") 455] }
noncomputable def ho186 (P : Params) : Obj := { cls := Value.type "tuple", data := Data.seq #[] }
noncomputable def ho187 (P : Params) : Obj := cdObj (topSt 40) "szyx"
noncomputable def ho188 (P : Params) : Obj := { cls := Value.type "code", data := Data.fields #[Value.str ("szyx") 452, Value.str ("szyx") 453, Value.str ("/claim/cut.py") 454, Value.int 104 0, Value.int 1 0, Value.int 0 0, Value.int 0 0, Value.int 3 0, Value.ref 183, Value.bool true, Value.int 181 0, Value.ref 184, Value.none, Value.ref 185, Value.ref 186, Value.ref 187, Value.int 456 0, Value.int 104 0, Value.str ("/claim/cut.py") 457] }
noncomputable def ho189 (P : Params) : Obj := fnObj (topSt 40) "szyx" "z80.flags" 410 188
noncomputable def ho190 (P : Params) : Obj := { cls := Value.type "tuple", data := Data.seq #[] }
noncomputable def ho191 (P : Params) : Obj := { cls := Value.none, data := Data.fields #[] }
noncomputable def ho192 (P : Params) : Obj := { cls := Value.type "tuple", data := Data.seq #[Value.str ("a") 462, Value.str ("b") 463, Value.str ("carry") 464, Value.str ("whole") 465, Value.str ("r") 466, Value.str ("over") 467] }
noncomputable def ho193 (P : Params) : Obj := { cls := Value.type "tuple", data := Data.seq #[] }
noncomputable def ho194 (P : Params) : Obj := cdObj (topSt 41) "add8"
noncomputable def ho195 (P : Params) : Obj := { cls := Value.type "code", data := Data.fields #[Value.str ("add8") 459, Value.str ("add8") 460, Value.str ("/claim/cut.py") 461, Value.int 106 0, Value.int 3 0, Value.int 0 0, Value.int 0 0, Value.int 3 0, Value.ref 190, Value.bool true, Value.int 181 0, Value.ref 191, Value.none, Value.ref 192, Value.ref 193, Value.ref 194, Value.int 468 0, Value.int 106 0, Value.str ("/claim/cut.py") 469] }
noncomputable def ho196 (P : Params) : Obj := fnObj (topSt 41) "add8" "z80.flags" 410 195
noncomputable def ho197 (P : Params) : Obj := { cls := Value.type "tuple", data := Data.seq #[] }
noncomputable def ho198 (P : Params) : Obj := { cls := Value.none, data := Data.fields #[] }
noncomputable def ho199 (P : Params) : Obj := { cls := Value.type "tuple", data := Data.seq #[Value.str ("a") 474, Value.str ("b") 475, Value.str ("carry") 476, Value.str ("whole") 477, Value.str ("r") 478, Value.str ("over") 479] }
noncomputable def ho200 (P : Params) : Obj := { cls := Value.type "tuple", data := Data.seq #[] }
noncomputable def ho201 (P : Params) : Obj := cdObj (topSt 42) "sub8"
noncomputable def ho202 (P : Params) : Obj := { cls := Value.type "code", data := Data.fields #[Value.str ("sub8") 471, Value.str ("sub8") 472, Value.str ("/claim/cut.py") 473, Value.int 111 0, Value.int 3 0, Value.int 0 0, Value.int 0 0, Value.int 3 0, Value.ref 197, Value.bool true, Value.int 181 0, Value.ref 198, Value.none, Value.ref 199, Value.ref 200, Value.ref 201, Value.int 480 0, Value.int 111 0, Value.str ("/claim/cut.py") 481] }
noncomputable def ho203 (P : Params) : Obj := fnObj (topSt 42) "sub8" "z80.flags" 410 202
noncomputable def ho204 (P : Params) : Obj := { cls := Value.type "tuple", data := Data.seq #[] }
noncomputable def ho205 (P : Params) : Obj := { cls := Value.none, data := Data.fields #[] }
noncomputable def ho206 (P : Params) : Obj := { cls := Value.type "tuple", data := Data.seq #[Value.str ("a") 486, Value.str ("b") 487, Value.str ("r") 488, Value.str ("f") 489] }
noncomputable def ho207 (P : Params) : Obj := { cls := Value.type "tuple", data := Data.seq #[] }
noncomputable def ho208 (P : Params) : Obj := cdObj (topSt 43) "cp8"
noncomputable def ho209 (P : Params) : Obj := { cls := Value.type "code", data := Data.fields #[Value.str ("cp8") 483, Value.str ("cp8") 484, Value.str ("/claim/cut.py") 485, Value.int 116 0, Value.int 2 0, Value.int 0 0, Value.int 0 0, Value.int 3 0, Value.ref 204, Value.bool true, Value.int 181 0, Value.ref 205, Value.none, Value.ref 206, Value.ref 207, Value.ref 208, Value.int 490 0, Value.int 116 0, Value.str ("/claim/cut.py") 491] }
noncomputable def ho210 (P : Params) : Obj := fnObj (topSt 43) "cp8" "z80.flags" 410 209
noncomputable def ho211 (P : Params) : Obj := { cls := Value.type "tuple", data := Data.seq #[] }
noncomputable def ho212 (P : Params) : Obj := { cls := Value.none, data := Data.fields #[] }
noncomputable def ho213 (P : Params) : Obj := { cls := Value.type "tuple", data := Data.seq #[Value.str ("a") 496, Value.str ("b") 497, Value.str ("r") 498] }
noncomputable def ho214 (P : Params) : Obj := { cls := Value.type "tuple", data := Data.seq #[] }
noncomputable def ho215 (P : Params) : Obj := cdObj (topSt 44) "and8"
noncomputable def ho216 (P : Params) : Obj := { cls := Value.type "code", data := Data.fields #[Value.str ("and8") 493, Value.str ("and8") 494, Value.str ("/claim/cut.py") 495, Value.int 119 0, Value.int 2 0, Value.int 0 0, Value.int 0 0, Value.int 3 0, Value.ref 211, Value.bool true, Value.int 181 0, Value.ref 212, Value.none, Value.ref 213, Value.ref 214, Value.ref 215, Value.int 499 0, Value.int 119 0, Value.str ("/claim/cut.py") 500] }
noncomputable def ho217 (P : Params) : Obj := fnObj (topSt 44) "and8" "z80.flags" 410 216
noncomputable def ho218 (P : Params) : Obj := { cls := Value.type "tuple", data := Data.seq #[] }
noncomputable def ho219 (P : Params) : Obj := { cls := Value.none, data := Data.fields #[] }
noncomputable def ho220 (P : Params) : Obj := { cls := Value.type "tuple", data := Data.seq #[Value.str ("a") 505, Value.str ("b") 506, Value.str ("r") 507] }
noncomputable def ho221 (P : Params) : Obj := { cls := Value.type "tuple", data := Data.seq #[] }
noncomputable def ho222 (P : Params) : Obj := cdObj (topSt 45) "or8"
noncomputable def ho223 (P : Params) : Obj := { cls := Value.type "code", data := Data.fields #[Value.str ("or8") 502, Value.str ("or8") 503, Value.str ("/claim/cut.py") 504, Value.int 122 0, Value.int 2 0, Value.int 0 0, Value.int 0 0, Value.int 3 0, Value.ref 218, Value.bool true, Value.int 181 0, Value.ref 219, Value.none, Value.ref 220, Value.ref 221, Value.ref 222, Value.int 508 0, Value.int 122 0, Value.str ("/claim/cut.py") 509] }
noncomputable def ho224 (P : Params) : Obj := fnObj (topSt 45) "or8" "z80.flags" 410 223
noncomputable def ho225 (P : Params) : Obj := { cls := Value.type "tuple", data := Data.seq #[] }
noncomputable def ho226 (P : Params) : Obj := { cls := Value.none, data := Data.fields #[] }
noncomputable def ho227 (P : Params) : Obj := { cls := Value.type "tuple", data := Data.seq #[Value.str ("a") 514, Value.str ("b") 515, Value.str ("r") 516] }
noncomputable def ho228 (P : Params) : Obj := { cls := Value.type "tuple", data := Data.seq #[] }
noncomputable def ho229 (P : Params) : Obj := cdObj (topSt 46) "xor8"
noncomputable def ho230 (P : Params) : Obj := { cls := Value.type "code", data := Data.fields #[Value.str ("xor8") 511, Value.str ("xor8") 512, Value.str ("/claim/cut.py") 513, Value.int 125 0, Value.int 2 0, Value.int 0 0, Value.int 0 0, Value.int 3 0, Value.ref 225, Value.bool true, Value.int 181 0, Value.ref 226, Value.none, Value.ref 227, Value.ref 228, Value.ref 229, Value.int 517 0, Value.int 125 0, Value.str ("/claim/cut.py") 518] }
noncomputable def ho231 (P : Params) : Obj := fnObj (topSt 46) "xor8" "z80.flags" 410 230
noncomputable def ho232 (P : Params) : Obj := { cls := Value.type "tuple", data := Data.seq #[] }
noncomputable def ho233 (P : Params) : Obj := { cls := Value.none, data := Data.fields #[] }
noncomputable def ho234 (P : Params) : Obj := { cls := Value.type "tuple", data := Data.seq #[Value.str ("v") 523, Value.str ("f") 524, Value.str ("r") 525] }
noncomputable def ho235 (P : Params) : Obj := { cls := Value.type "tuple", data := Data.seq #[] }
noncomputable def ho236 (P : Params) : Obj := cdObj (topSt 47) "inc8"
noncomputable def ho237 (P : Params) : Obj := { cls := Value.type "code", data := Data.fields #[Value.str ("inc8") 520, Value.str ("inc8") 521, Value.str ("/claim/cut.py") 522, Value.int 128 0, Value.int 2 0, Value.int 0 0, Value.int 0 0, Value.int 3 0, Value.ref 232, Value.bool true, Value.int 181 0, Value.ref 233, Value.none, Value.ref 234, Value.ref 235, Value.ref 236, Value.int 526 0, Value.int 128 0, Value.str ("/claim/cut.py") 527] }
noncomputable def ho238 (P : Params) : Obj := fnObj (topSt 47) "inc8" "z80.flags" 410 237
noncomputable def ho239 (P : Params) : Obj := { cls := Value.type "tuple", data := Data.seq #[] }
noncomputable def ho240 (P : Params) : Obj := { cls := Value.none, data := Data.fields #[] }
noncomputable def ho241 (P : Params) : Obj := { cls := Value.type "tuple", data := Data.seq #[Value.str ("v") 532, Value.str ("f") 533, Value.str ("r") 534] }
noncomputable def ho242 (P : Params) : Obj := { cls := Value.type "tuple", data := Data.seq #[] }
noncomputable def ho243 (P : Params) : Obj := cdObj (topSt 48) "dec8"
noncomputable def ho244 (P : Params) : Obj := { cls := Value.type "code", data := Data.fields #[Value.str ("dec8") 529, Value.str ("dec8") 530, Value.str ("/claim/cut.py") 531, Value.int 131 0, Value.int 2 0, Value.int 0 0, Value.int 0 0, Value.int 3 0, Value.ref 239, Value.bool true, Value.int 181 0, Value.ref 240, Value.none, Value.ref 241, Value.ref 242, Value.ref 243, Value.int 535 0, Value.int 131 0, Value.str ("/claim/cut.py") 536] }
noncomputable def ho245 (P : Params) : Obj := fnObj (topSt 48) "dec8" "z80.flags" 410 244
noncomputable def ho246 (P : Params) : Obj := { cls := Value.type "tuple", data := Data.seq #[] }
noncomputable def ho247 (P : Params) : Obj := { cls := Value.none, data := Data.fields #[] }
noncomputable def ho248 (P : Params) : Obj := { cls := Value.type "tuple", data := Data.seq #[Value.str ("x") 541, Value.str ("y") 542, Value.str ("r") 543] }
noncomputable def ho249 (P : Params) : Obj := { cls := Value.type "tuple", data := Data.seq #[] }
noncomputable def ho250 (P : Params) : Obj := cdObj (topSt 49) "high_flags"
noncomputable def ho251 (P : Params) : Obj := { cls := Value.type "code", data := Data.fields #[Value.str ("high_flags") 538, Value.str ("high_flags") 539, Value.str ("/claim/cut.py") 540, Value.int 134 0, Value.int 3 0, Value.int 0 0, Value.int 0 0, Value.int 3 0, Value.ref 246, Value.bool true, Value.int 181 0, Value.ref 247, Value.none, Value.ref 248, Value.ref 249, Value.ref 250, Value.int 544 0, Value.int 134 0, Value.str ("/claim/cut.py") 545] }
noncomputable def ho252 (P : Params) : Obj := fnObj (topSt 49) "high_flags" "z80.flags" 410 251
noncomputable def ho253 (P : Params) : Obj := { cls := Value.type "tuple", data := Data.seq #[] }
noncomputable def ho254 (P : Params) : Obj := { cls := Value.none, data := Data.fields #[] }
noncomputable def ho255 (P : Params) : Obj := { cls := Value.type "tuple", data := Data.seq #[Value.str ("x") 550, Value.str ("y") 551, Value.str ("f") 552, Value.str ("whole") 553, Value.str ("r") 554] }
noncomputable def ho256 (P : Params) : Obj := { cls := Value.type "tuple", data := Data.seq #[] }
noncomputable def ho257 (P : Params) : Obj := cdObj (topSt 50) "add16"
noncomputable def ho258 (P : Params) : Obj := { cls := Value.type "code", data := Data.fields #[Value.str ("add16") 547, Value.str ("add16") 548, Value.str ("/claim/cut.py") 549, Value.int 136 0, Value.int 3 0, Value.int 0 0, Value.int 0 0, Value.int 3 0, Value.ref 253, Value.bool true, Value.int 181 0, Value.ref 254, Value.none, Value.ref 255, Value.ref 256, Value.ref 257, Value.int 555 0, Value.int 136 0, Value.str ("/claim/cut.py") 556] }
noncomputable def ho259 (P : Params) : Obj := fnObj (topSt 50) "add16" "z80.flags" 410 258
noncomputable def ho260 (P : Params) : Obj := { cls := Value.type "tuple", data := Data.seq #[] }
noncomputable def ho261 (P : Params) : Obj := { cls := Value.none, data := Data.fields #[] }
noncomputable def ho262 (P : Params) : Obj := { cls := Value.type "tuple", data := Data.seq #[Value.str ("a") 561, Value.str ("f") 562, Value.str ("low") 563, Value.str ("way") 564, Value.str ("carry") 565, Value.str ("r") 566, Value.str ("half") 567] }
noncomputable def ho263 (P : Params) : Obj := { cls := Value.type "tuple", data := Data.seq #[] }
noncomputable def ho264 (P : Params) : Obj := cdObj (topSt 51) "daa"
noncomputable def ho265 (P : Params) : Obj := { cls := Value.type "code", data := Data.fields #[Value.str ("daa") 558, Value.str ("daa") 559, Value.str ("/claim/cut.py") 560, Value.int 140 0, Value.int 2 0, Value.int 0 0, Value.int 0 0, Value.int 3 0, Value.ref 260, Value.bool true, Value.int 181 0, Value.ref 261, Value.none, Value.ref 262, Value.ref 263, Value.ref 264, Value.int 568 0, Value.int 140 0, Value.str ("/claim/cut.py") 569] }
noncomputable def ho266 (P : Params) : Obj := fnObj (topSt 51) "daa" "z80.flags" 410 265
noncomputable def ho267 (P : Params) : Obj := { cls := Value.type "tuple", data := Data.seq #[] }
noncomputable def ho268 (P : Params) : Obj := { cls := Value.none, data := Data.fields #[] }
noncomputable def ho269 (P : Params) : Obj := { cls := Value.type "tuple", data := Data.seq #[Value.str ("a") 574, Value.str ("f") 575, Value.str ("r") 576] }
noncomputable def ho270 (P : Params) : Obj := { cls := Value.type "tuple", data := Data.seq #[] }
noncomputable def ho271 (P : Params) : Obj := cdObj (topSt 52) "cpl"
noncomputable def ho272 (P : Params) : Obj := { cls := Value.type "code", data := Data.fields #[Value.str ("cpl") 571, Value.str ("cpl") 572, Value.str ("/claim/cut.py") 573, Value.int 151 0, Value.int 2 0, Value.int 0 0, Value.int 0 0, Value.int 3 0, Value.ref 267, Value.bool true, Value.int 181 0, Value.ref 268, Value.none, Value.ref 269, Value.ref 270, Value.ref 271, Value.int 577 0, Value.int 151 0, Value.str ("/claim/cut.py") 578] }
noncomputable def ho273 (P : Params) : Obj := fnObj (topSt 52) "cpl" "z80.flags" 410 272
noncomputable def ho274 (P : Params) : Obj := { cls := Value.type "tuple", data := Data.seq #[] }
noncomputable def ho275 (P : Params) : Obj := { cls := Value.none, data := Data.fields #[] }
noncomputable def ho276 (P : Params) : Obj := { cls := Value.type "tuple", data := Data.seq #[Value.str ("a") 583, Value.str ("f") 584] }
noncomputable def ho277 (P : Params) : Obj := { cls := Value.type "tuple", data := Data.seq #[] }
noncomputable def ho278 (P : Params) : Obj := cdObj (topSt 53) "scf"
noncomputable def ho279 (P : Params) : Obj := { cls := Value.type "code", data := Data.fields #[Value.str ("scf") 580, Value.str ("scf") 581, Value.str ("/claim/cut.py") 582, Value.int 154 0, Value.int 2 0, Value.int 0 0, Value.int 0 0, Value.int 3 0, Value.ref 274, Value.bool true, Value.int 181 0, Value.ref 275, Value.none, Value.ref 276, Value.ref 277, Value.ref 278, Value.int 585 0, Value.int 154 0, Value.str ("/claim/cut.py") 586] }
noncomputable def ho280 (P : Params) : Obj := fnObj (topSt 53) "scf" "z80.flags" 410 279
noncomputable def ho281 (P : Params) : Obj := { cls := Value.type "tuple", data := Data.seq #[] }
noncomputable def ho282 (P : Params) : Obj := { cls := Value.none, data := Data.fields #[] }
noncomputable def ho283 (P : Params) : Obj := { cls := Value.type "tuple", data := Data.seq #[Value.str ("a") 591, Value.str ("f") 592] }
noncomputable def ho284 (P : Params) : Obj := { cls := Value.type "tuple", data := Data.seq #[] }
noncomputable def ho285 (P : Params) : Obj := cdObj (topSt 54) "ccf"
noncomputable def ho286 (P : Params) : Obj := { cls := Value.type "code", data := Data.fields #[Value.str ("ccf") 588, Value.str ("ccf") 589, Value.str ("/claim/cut.py") 590, Value.int 156 0, Value.int 2 0, Value.int 0 0, Value.int 0 0, Value.int 3 0, Value.ref 281, Value.bool true, Value.int 181 0, Value.ref 282, Value.none, Value.ref 283, Value.ref 284, Value.ref 285, Value.int 593 0, Value.int 156 0, Value.str ("/claim/cut.py") 594] }
noncomputable def ho287 (P : Params) : Obj := fnObj (topSt 54) "ccf" "z80.flags" 410 286
noncomputable def ho288 (P : Params) : Obj := { cls := Value.type "tuple", data := Data.seq #[] }
noncomputable def ho289 (P : Params) : Obj := { cls := Value.none, data := Data.fields #[] }
noncomputable def ho290 (P : Params) : Obj := { cls := Value.type "tuple", data := Data.seq #[Value.str ("kind") 599, Value.str ("v") 600, Value.str ("f") 601, Value.str ("out") 602, Value.str ("come") 603] }
noncomputable def ho291 (P : Params) : Obj := { cls := Value.type "tuple", data := Data.seq #[] }
noncomputable def ho292 (P : Params) : Obj := cdObj (topSt 55) "turned"
noncomputable def ho293 (P : Params) : Obj := { cls := Value.type "code", data := Data.fields #[Value.str ("turned") 596, Value.str ("turned") 597, Value.str ("/claim/cut.py") 598, Value.int 158 0, Value.int 3 0, Value.int 0 0, Value.int 0 0, Value.int 3 0, Value.ref 288, Value.bool true, Value.int 181 0, Value.ref 289, Value.none, Value.ref 290, Value.ref 291, Value.ref 292, Value.int 604 0, Value.int 158 0, Value.str ("/claim/cut.py") 605] }
noncomputable def ho294 (P : Params) : Obj := fnObj (topSt 55) "turned" "z80.flags" 410 293
noncomputable def ho295 (P : Params) : Obj := { cls := Value.type "tuple", data := Data.seq #[] }
noncomputable def ho296 (P : Params) : Obj := { cls := Value.none, data := Data.fields #[] }
noncomputable def ho297 (P : Params) : Obj := { cls := Value.type "tuple", data := Data.seq #[Value.str ("kind") 610, Value.str ("a") 611, Value.str ("f") 612, Value.str ("r") 613, Value.str ("out") 614] }
noncomputable def ho298 (P : Params) : Obj := { cls := Value.type "tuple", data := Data.seq #[] }
noncomputable def ho299 (P : Params) : Obj := cdObj (topSt 56) "rotate_a"
noncomputable def ho300 (P : Params) : Obj := { cls := Value.type "code", data := Data.fields #[Value.str ("rotate_a") 607, Value.str ("rotate_a") 608, Value.str ("/claim/cut.py") 609, Value.int 166 0, Value.int 3 0, Value.int 0 0, Value.int 0 0, Value.int 3 0, Value.ref 295, Value.bool true, Value.int 181 0, Value.ref 296, Value.none, Value.ref 297, Value.ref 298, Value.ref 299, Value.int 615 0, Value.int 166 0, Value.str ("/claim/cut.py") 616] }
noncomputable def ho301 (P : Params) : Obj := fnObj (topSt 56) "rotate_a" "z80.flags" 410 300
noncomputable def ho302 (P : Params) : Obj := { cls := Value.type "list", data := Data.seq #[Value.int 64 628, Value.int 1 629, Value.int 4 630, Value.int 128 631] }
noncomputable def ho303 (P : Params) : Obj := { cls := Value.type "tuple", data := Data.seq #[] }
noncomputable def ho304 (P : Params) : Obj := { cls := Value.none, data := Data.fields #[] }
noncomputable def ho305 (P : Params) : Obj := { cls := Value.type "tuple", data := Data.seq #[Value.str ("cpu") 636, Value.str ("number") 637, Value.str ("is_set") 638] }
noncomputable def ho306 (P : Params) : Obj := { cls := Value.type "tuple", data := Data.seq #[] }
noncomputable def ho307 (P : Params) : Obj := cdObj (topSt 63) "holds"
noncomputable def ho308 (P : Params) : Obj := { cls := Value.type "code", data := Data.fields #[Value.str ("holds") 633, Value.str ("holds") 634, Value.str ("/claim/cut.py") 635, Value.int 175 0, Value.int 2 0, Value.int 0 0, Value.int 0 0, Value.int 3 0, Value.ref 303, Value.bool true, Value.int 181 0, Value.ref 304, Value.none, Value.ref 305, Value.ref 306, Value.ref 307, Value.int 639 0, Value.int 175 0, Value.str ("/claim/cut.py") 640] }
noncomputable def ho309 (P : Params) : Obj := fnObj (topSt 63) "holds" "z80.rules" 618 308
noncomputable def ho310 (P : Params) : Obj := { cls := Value.type "tuple", data := Data.seq #[] }
noncomputable def ho311 (P : Params) : Obj := { cls := Value.none, data := Data.fields #[] }
noncomputable def ho312 (P : Params) : Obj := { cls := Value.type "tuple", data := Data.seq #[Value.str ("cpu") 645, Value.str ("memory") 646, Value.str ("number") 647] }
noncomputable def ho313 (P : Params) : Obj := { cls := Value.type "tuple", data := Data.seq #[] }
noncomputable def ho314 (P : Params) : Obj := cdObj (topSt 64) "register"
noncomputable def ho315 (P : Params) : Obj := { cls := Value.type "code", data := Data.fields #[Value.str ("register") 642, Value.str ("register") 643, Value.str ("/claim/cut.py") 644, Value.int 178 0, Value.int 3 0, Value.int 0 0, Value.int 0 0, Value.int 3 0, Value.ref 310, Value.bool true, Value.int 181 0, Value.ref 311, Value.none, Value.ref 312, Value.ref 313, Value.ref 314, Value.int 648 0, Value.int 178 0, Value.str ("/claim/cut.py") 649] }
noncomputable def ho316 (P : Params) : Obj := fnObj (topSt 64) "register" "z80.rules" 618 315
noncomputable def ho317 (P : Params) : Obj := { cls := Value.type "tuple", data := Data.seq #[] }
noncomputable def ho318 (P : Params) : Obj := { cls := Value.none, data := Data.fields #[] }
noncomputable def ho319 (P : Params) : Obj := { cls := Value.type "tuple", data := Data.seq #[Value.str ("cpu") 654, Value.str ("memory") 655, Value.str ("number") 656, Value.str ("value") 657] }
noncomputable def ho320 (P : Params) : Obj := { cls := Value.type "tuple", data := Data.seq #[] }
noncomputable def ho321 (P : Params) : Obj := cdObj (topSt 65) "set_register"
noncomputable def ho322 (P : Params) : Obj := { cls := Value.type "code", data := Data.fields #[Value.str ("set_register") 651, Value.str ("set_register") 652, Value.str ("/claim/cut.py") 653, Value.int 180 0, Value.int 4 0, Value.int 0 0, Value.int 0 0, Value.int 3 0, Value.ref 317, Value.bool true, Value.int 181 0, Value.ref 318, Value.none, Value.ref 319, Value.ref 320, Value.ref 321, Value.int 658 0, Value.int 180 0, Value.str ("/claim/cut.py") 659] }
noncomputable def ho323 (P : Params) : Obj := fnObj (topSt 65) "set_register" "z80.rules" 618 322
noncomputable def ho324 (P : Params) : Obj := { cls := Value.type "tuple", data := Data.seq #[] }
noncomputable def ho325 (P : Params) : Obj := { cls := Value.none, data := Data.fields #[] }
noncomputable def ho326 (P : Params) : Obj := { cls := Value.type "tuple", data := Data.seq #[Value.str ("cpu") 664, Value.str ("number") 665, Value.str ("result") 666] }
noncomputable def ho327 (P : Params) : Obj := { cls := Value.type "tuple", data := Data.seq #[] }
noncomputable def ho328 (P : Params) : Obj := cdObj (topSt 66) "keep_pair"
noncomputable def ho329 (P : Params) : Obj := { cls := Value.type "code", data := Data.fields #[Value.str ("keep_pair") 661, Value.str ("keep_pair") 662, Value.str ("/claim/cut.py") 663, Value.int 185 0, Value.int 3 0, Value.int 0 0, Value.int 0 0, Value.int 3 0, Value.ref 324, Value.bool true, Value.int 181 0, Value.ref 325, Value.none, Value.ref 326, Value.ref 327, Value.ref 328, Value.int 667 0, Value.int 185 0, Value.str ("/claim/cut.py") 668] }
noncomputable def ho330 (P : Params) : Obj := fnObj (topSt 66) "keep_pair" "z80.rules" 618 329
noncomputable def ho331 (P : Params) : Obj := { cls := Value.type "tuple", data := Data.seq #[] }
noncomputable def ho332 (P : Params) : Obj := { cls := Value.none, data := Data.fields #[] }
noncomputable def ho333 (P : Params) : Obj := { cls := Value.type "tuple", data := Data.seq #[Value.str ("cpu") 673, Value.str ("kind") 674, Value.str ("value") 675, Value.str ("acc") 676, Value.str ("carry") 677] }
noncomputable def ho334 (P : Params) : Obj := { cls := Value.type "tuple", data := Data.seq #[] }
noncomputable def ho335 (P : Params) : Obj := cdObj (topSt 67) "reckoned"
noncomputable def ho336 (P : Params) : Obj := { cls := Value.type "code", data := Data.fields #[Value.str ("reckoned") 670, Value.str ("reckoned") 671, Value.str ("/claim/cut.py") 672, Value.int 187 0, Value.int 3 0, Value.int 0 0, Value.int 0 0, Value.int 3 0, Value.ref 331, Value.bool true, Value.int 181 0, Value.ref 332, Value.none, Value.ref 333, Value.ref 334, Value.ref 335, Value.int 678 0, Value.int 187 0, Value.str ("/claim/cut.py") 679] }
noncomputable def ho337 (P : Params) : Obj := fnObj (topSt 67) "reckoned" "z80.rules" 618 336
noncomputable def ho338 (P : Params) : Obj := { cls := Value.type "tuple", data := Data.seq #[] }
noncomputable def ho339 (P : Params) : Obj := { cls := Value.none, data := Data.fields #[] }
noncomputable def ho340 (P : Params) : Obj := { cls := Value.type "tuple", data := Data.seq #[Value.str ("cpu") 684, Value.str ("memory") 685, Value.str ("ports") 686, Value.str ("octet") 687, Value.str ("quarter") 688, Value.str ("y") 689, Value.str ("z") 690] }
noncomputable def ho341 (P : Params) : Obj := { cls := Value.type "tuple", data := Data.seq #[] }
noncomputable def ho342 (P : Params) : Obj := cdObj (topSt 68) "plain"
noncomputable def ho343 (P : Params) : Obj := { cls := Value.type "code", data := Data.fields #[Value.str ("plain") 681, Value.str ("plain") 682, Value.str ("/claim/cut.py") 683, Value.int 201 0, Value.int 4 0, Value.int 0 0, Value.int 0 0, Value.int 3 0, Value.ref 338, Value.bool true, Value.int 181 0, Value.ref 339, Value.none, Value.ref 340, Value.ref 341, Value.ref 342, Value.int 691 0, Value.int 201 0, Value.str ("/claim/cut.py") 692] }
noncomputable def ho344 (P : Params) : Obj := fnObj (topSt 68) "plain" "z80.rules" 618 343
noncomputable def ho345 (P : Params) : Obj := { cls := Value.type "tuple", data := Data.seq #[] }
noncomputable def ho346 (P : Params) : Obj := { cls := Value.none, data := Data.fields #[] }
noncomputable def ho347 (P : Params) : Obj := { cls := Value.type "tuple", data := Data.seq #[Value.str ("cpu") 697, Value.str ("memory") 698, Value.str ("y") 699, Value.str ("z") 700] }
noncomputable def ho348 (P : Params) : Obj := { cls := Value.type "tuple", data := Data.seq #[] }
noncomputable def ho349 (P : Params) : Obj := cdObj (topSt 69) "plain_load"
noncomputable def ho350 (P : Params) : Obj := { cls := Value.type "code", data := Data.fields #[Value.str ("plain_load") 694, Value.str ("plain_load") 695, Value.str ("/claim/cut.py") 696, Value.int 212 0, Value.int 4 0, Value.int 0 0, Value.int 0 0, Value.int 3 0, Value.ref 345, Value.bool true, Value.int 181 0, Value.ref 346, Value.none, Value.ref 347, Value.ref 348, Value.ref 349, Value.int 701 0, Value.int 212 0, Value.str ("/claim/cut.py") 702] }
noncomputable def ho351 (P : Params) : Obj := fnObj (topSt 69) "plain_load" "z80.rules" 618 350
noncomputable def ho352 (P : Params) : Obj := { cls := Value.type "tuple", data := Data.seq #[] }
noncomputable def ho353 (P : Params) : Obj := { cls := Value.none, data := Data.fields #[] }
noncomputable def ho354 (P : Params) : Obj := { cls := Value.type "tuple", data := Data.seq #[Value.str ("cpu") 707, Value.str ("memory") 708, Value.str ("y") 709, Value.str ("z") 710, Value.str ("number") 711, Value.str ("change") 712, Value.str ("value") 713, Value.str ("flags") 714] }
noncomputable def ho355 (P : Params) : Obj := { cls := Value.type "tuple", data := Data.seq #[] }
noncomputable def ho356 (P : Params) : Obj := cdObj (topSt 70) "plain_first"
noncomputable def ho357 (P : Params) : Obj := { cls := Value.type "code", data := Data.fields #[Value.str ("plain_first") 704, Value.str ("plain_first") 705, Value.str ("/claim/cut.py") 706, Value.int 219 0, Value.int 4 0, Value.int 0 0, Value.int 0 0, Value.int 3 0, Value.ref 352, Value.bool true, Value.int 181 0, Value.ref 353, Value.none, Value.ref 354, Value.ref 355, Value.ref 356, Value.int 715 0, Value.int 219 0, Value.str ("/claim/cut.py") 716] }
noncomputable def ho358 (P : Params) : Obj := fnObj (topSt 70) "plain_first" "z80.rules" 618 357
noncomputable def ho359 (P : Params) : Obj := { cls := Value.type "tuple", data := Data.seq #[] }
noncomputable def ho360 (P : Params) : Obj := { cls := Value.none, data := Data.fields #[] }
noncomputable def ho361 (P : Params) : Obj := { cls := Value.type "tuple", data := Data.seq #[Value.str ("cpu") 721, Value.str ("memory") 722, Value.str ("y") 723, Value.str ("way") 724, Value.str ("goes") 725] }
noncomputable def ho362 (P : Params) : Obj := { cls := Value.type "tuple", data := Data.seq #[] }
noncomputable def ho363 (P : Params) : Obj := cdObj (topSt 71) "first_jumps"
noncomputable def ho364 (P : Params) : Obj := { cls := Value.type "code", data := Data.fields #[Value.str ("first_jumps") 718, Value.str ("first_jumps") 719, Value.str ("/claim/cut.py") 720, Value.int 241 0, Value.int 3 0, Value.int 0 0, Value.int 0 0, Value.int 3 0, Value.ref 359, Value.bool true, Value.int 181 0, Value.ref 360, Value.none, Value.ref 361, Value.ref 362, Value.ref 363, Value.int 726 0, Value.int 241 0, Value.str ("/claim/cut.py") 727] }
noncomputable def ho365 (P : Params) : Obj := fnObj (topSt 71) "first_jumps" "z80.rules" 618 364
noncomputable def ho366 (P : Params) : Obj := { cls := Value.type "tuple", data := Data.seq #[] }
noncomputable def ho367 (P : Params) : Obj := { cls := Value.none, data := Data.fields #[] }
noncomputable def ho368 (P : Params) : Obj := { cls := Value.type "tuple", data := Data.seq #[Value.str ("cpu") 732, Value.str ("memory") 733, Value.str ("number") 734, Value.str ("is_sum") 735, Value.str ("value") 736, Value.str ("flags") 737] }
noncomputable def ho369 (P : Params) : Obj := { cls := Value.type "tuple", data := Data.seq #[] }
noncomputable def ho370 (P : Params) : Obj := cdObj (topSt 72) "first_pairs"
noncomputable def ho371 (P : Params) : Obj := { cls := Value.type "code", data := Data.fields #[Value.str ("first_pairs") 729, Value.str ("first_pairs") 730, Value.str ("/claim/cut.py") 731, Value.int 258 0, Value.int 4 0, Value.int 0 0, Value.int 0 0, Value.int 3 0, Value.ref 366, Value.bool true, Value.int 181 0, Value.ref 367, Value.none, Value.ref 368, Value.ref 369, Value.ref 370, Value.int 738 0, Value.int 258 0, Value.str ("/claim/cut.py") 739] }
noncomputable def ho372 (P : Params) : Obj := fnObj (topSt 72) "first_pairs" "z80.rules" 618 371
noncomputable def ho373 (P : Params) : Obj := { cls := Value.type "tuple", data := Data.seq #[] }
noncomputable def ho374 (P : Params) : Obj := { cls := Value.none, data := Data.fields #[] }
noncomputable def ho375 (P : Params) : Obj := { cls := Value.type "tuple", data := Data.seq #[Value.str ("cpu") 744, Value.str ("memory") 745, Value.str ("y") 746, Value.str ("reads") 747, Value.str ("number") 748, Value.str ("address") 749] }
noncomputable def ho376 (P : Params) : Obj := { cls := Value.type "tuple", data := Data.seq #[] }
noncomputable def ho377 (P : Params) : Obj := cdObj (topSt 73) "first_memory"
noncomputable def ho378 (P : Params) : Obj := { cls := Value.type "code", data := Data.fields #[Value.str ("first_memory") 741, Value.str ("first_memory") 742, Value.str ("/claim/cut.py") 743, Value.int 267 0, Value.int 3 0, Value.int 0 0, Value.int 0 0, Value.int 3 0, Value.ref 373, Value.bool true, Value.int 181 0, Value.ref 374, Value.none, Value.ref 375, Value.ref 376, Value.ref 377, Value.int 750 0, Value.int 267 0, Value.str ("/claim/cut.py") 751] }
noncomputable def ho379 (P : Params) : Obj := fnObj (topSt 73) "first_memory" "z80.rules" 618 378
noncomputable def ho380 (P : Params) : Obj := { cls := Value.type "tuple", data := Data.seq #[] }
noncomputable def ho381 (P : Params) : Obj := { cls := Value.none, data := Data.fields #[] }
noncomputable def ho382 (P : Params) : Obj := { cls := Value.type "tuple", data := Data.seq #[Value.str ("cpu") 756, Value.str ("y") 757, Value.str ("acc") 758, Value.str ("flags") 759, Value.str ("result") 760] }
noncomputable def ho383 (P : Params) : Obj := { cls := Value.type "tuple", data := Data.seq #[] }
noncomputable def ho384 (P : Params) : Obj := cdObj (topSt 74) "first_flags"
noncomputable def ho385 (P : Params) : Obj := { cls := Value.type "code", data := Data.fields #[Value.str ("first_flags") 753, Value.str ("first_flags") 754, Value.str ("/claim/cut.py") 755, Value.int 283 0, Value.int 2 0, Value.int 0 0, Value.int 0 0, Value.int 3 0, Value.ref 380, Value.bool true, Value.int 181 0, Value.ref 381, Value.none, Value.ref 382, Value.ref 383, Value.ref 384, Value.int 761 0, Value.int 283 0, Value.str ("/claim/cut.py") 762] }
noncomputable def ho386 (P : Params) : Obj := fnObj (topSt 74) "first_flags" "z80.rules" 618 385
noncomputable def ho387 (P : Params) : Obj := { cls := Value.type "tuple", data := Data.seq #[] }
noncomputable def ho388 (P : Params) : Obj := { cls := Value.none, data := Data.fields #[] }
noncomputable def ho389 (P : Params) : Obj := { cls := Value.type "tuple", data := Data.seq #[Value.str ("cpu") 767, Value.str ("memory") 768, Value.str ("ports") 769, Value.str ("y") 770, Value.str ("z") 771, Value.str ("address") 772] }
noncomputable def ho390 (P : Params) : Obj := { cls := Value.type "tuple", data := Data.seq #[] }
noncomputable def ho391 (P : Params) : Obj := cdObj (topSt 75) "plain_last"
noncomputable def ho392 (P : Params) : Obj := { cls := Value.type "code", data := Data.fields #[Value.str ("plain_last") 764, Value.str ("plain_last") 765, Value.str ("/claim/cut.py") 766, Value.int 297 0, Value.int 5 0, Value.int 0 0, Value.int 0 0, Value.int 3 0, Value.ref 387, Value.bool true, Value.int 181 0, Value.ref 388, Value.none, Value.ref 389, Value.ref 390, Value.ref 391, Value.int 773 0, Value.int 297 0, Value.str ("/claim/cut.py") 774] }
noncomputable def ho393 (P : Params) : Obj := fnObj (topSt 75) "plain_last" "z80.rules" 618 392
noncomputable def ho394 (P : Params) : Obj := { cls := Value.type "tuple", data := Data.seq #[] }
noncomputable def ho395 (P : Params) : Obj := { cls := Value.none, data := Data.fields #[] }
noncomputable def ho396 (P : Params) : Obj := { cls := Value.type "tuple", data := Data.seq #[Value.str ("cpu") 779, Value.str ("memory") 780, Value.str ("y") 781] }
noncomputable def ho397 (P : Params) : Obj := { cls := Value.type "tuple", data := Data.seq #[] }
noncomputable def ho398 (P : Params) : Obj := cdObj (topSt 76) "last_return"
noncomputable def ho399 (P : Params) : Obj := { cls := Value.type "code", data := Data.fields #[Value.str ("last_return") 776, Value.str ("last_return") 777, Value.str ("/claim/cut.py") 778, Value.int 320 0, Value.int 3 0, Value.int 0 0, Value.int 0 0, Value.int 3 0, Value.ref 394, Value.bool true, Value.int 181 0, Value.ref 395, Value.none, Value.ref 396, Value.ref 397, Value.ref 398, Value.int 782 0, Value.int 320 0, Value.str ("/claim/cut.py") 783] }
noncomputable def ho400 (P : Params) : Obj := fnObj (topSt 76) "last_return" "z80.rules" 618 399
noncomputable def ho401 (P : Params) : Obj := { cls := Value.type "tuple", data := Data.seq #[] }
noncomputable def ho402 (P : Params) : Obj := { cls := Value.none, data := Data.fields #[] }
noncomputable def ho403 (P : Params) : Obj := { cls := Value.type "tuple", data := Data.seq #[Value.str ("cpu") 788, Value.str ("memory") 789, Value.str ("number") 790, Value.str ("is_other") 791] }
noncomputable def ho404 (P : Params) : Obj := { cls := Value.type "tuple", data := Data.seq #[] }
noncomputable def ho405 (P : Params) : Obj := cdObj (topSt 77) "last_stack"
noncomputable def ho406 (P : Params) : Obj := { cls := Value.type "code", data := Data.fields #[Value.str ("last_stack") 785, Value.str ("last_stack") 786, Value.str ("/claim/cut.py") 787, Value.int 326 0, Value.int 4 0, Value.int 0 0, Value.int 0 0, Value.int 3 0, Value.ref 401, Value.bool true, Value.int 181 0, Value.ref 402, Value.none, Value.ref 403, Value.ref 404, Value.ref 405, Value.int 792 0, Value.int 326 0, Value.str ("/claim/cut.py") 793] }
noncomputable def ho407 (P : Params) : Obj := fnObj (topSt 77) "last_stack" "z80.rules" 618 406
noncomputable def ho408 (P : Params) : Obj := { cls := Value.type "tuple", data := Data.seq #[] }
noncomputable def ho409 (P : Params) : Obj := { cls := Value.none, data := Data.fields #[] }
noncomputable def ho410 (P : Params) : Obj := { cls := Value.type "tuple", data := Data.seq #[Value.str ("cpu") 798, Value.str ("memory") 799, Value.str ("ports") 800, Value.str ("y") 801, Value.str ("value") 802] }
noncomputable def ho411 (P : Params) : Obj := { cls := Value.type "tuple", data := Data.seq #[] }
noncomputable def ho412 (P : Params) : Obj := cdObj (topSt 78) "last_other"
noncomputable def ho413 (P : Params) : Obj := { cls := Value.type "code", data := Data.fields #[Value.str ("last_other") 795, Value.str ("last_other") 796, Value.str ("/claim/cut.py") 797, Value.int 342 0, Value.int 4 0, Value.int 0 0, Value.int 0 0, Value.int 3 0, Value.ref 408, Value.bool true, Value.int 181 0, Value.ref 409, Value.none, Value.ref 410, Value.ref 411, Value.ref 412, Value.int 803 0, Value.int 342 0, Value.str ("/claim/cut.py") 804] }
noncomputable def ho414 (P : Params) : Obj := fnObj (topSt 78) "last_other" "z80.rules" 618 413
noncomputable def ho415 (P : Params) : Obj := { cls := Value.type "tuple", data := Data.seq #[] }
noncomputable def ho416 (P : Params) : Obj := { cls := Value.none, data := Data.fields #[] }
noncomputable def ho417 (P : Params) : Obj := { cls := Value.type "tuple", data := Data.seq #[Value.str ("cpu") 809, Value.str ("memory") 810, Value.str ("goes") 811, Value.str ("address") 812] }
noncomputable def ho418 (P : Params) : Obj := { cls := Value.type "tuple", data := Data.seq #[] }
noncomputable def ho419 (P : Params) : Obj := cdObj (topSt 79) "last_call"
noncomputable def ho420 (P : Params) : Obj := { cls := Value.type "code", data := Data.fields #[Value.str ("last_call") 806, Value.str ("last_call") 807, Value.str ("/claim/cut.py") 808, Value.int 367 0, Value.int 3 0, Value.int 0 0, Value.int 0 0, Value.int 3 0, Value.ref 415, Value.bool true, Value.int 181 0, Value.ref 416, Value.none, Value.ref 417, Value.ref 418, Value.ref 419, Value.int 813 0, Value.int 367 0, Value.str ("/claim/cut.py") 814] }
noncomputable def ho421 (P : Params) : Obj := fnObj (topSt 79) "last_call" "z80.rules" 618 420
noncomputable def ho422 (P : Params) : Obj := { cls := Value.type "tuple", data := Data.seq #[] }
noncomputable def ho423 (P : Params) : Obj := { cls := Value.none, data := Data.fields #[] }
noncomputable def ho424 (P : Params) : Obj := { cls := Value.type "tuple", data := Data.seq #[Value.str ("cpu") 819, Value.str ("memory") 820, Value.str ("y") 821] }
noncomputable def ho425 (P : Params) : Obj := { cls := Value.type "tuple", data := Data.seq #[] }
noncomputable def ho426 (P : Params) : Obj := cdObj (topSt 80) "last_push"
noncomputable def ho427 (P : Params) : Obj := { cls := Value.type "code", data := Data.fields #[Value.str ("last_push") 816, Value.str ("last_push") 817, Value.str ("/claim/cut.py") 818, Value.int 373 0, Value.int 3 0, Value.int 0 0, Value.int 0 0, Value.int 3 0, Value.ref 422, Value.bool true, Value.int 181 0, Value.ref 423, Value.none, Value.ref 424, Value.ref 425, Value.ref 426, Value.int 822 0, Value.int 373 0, Value.str ("/claim/cut.py") 823] }
noncomputable def ho428 (P : Params) : Obj := fnObj (topSt 80) "last_push" "z80.rules" 618 427
noncomputable def ho429 (P : Params) : Obj := { cls := Value.type "tuple", data := Data.seq #[] }
noncomputable def ho430 (P : Params) : Obj := { cls := Value.none, data := Data.fields #[] }
noncomputable def ho431 (P : Params) : Obj := { cls := Value.type "tuple", data := Data.seq #[Value.str ("feed") 832, Value.str ("many") 833, Value.str ("cells") 834, Value.str ("turn") 835] }
noncomputable def ho432 (P : Params) : Obj := { cls := Value.type "tuple", data := Data.seq #[] }
noncomputable def ho433 (P : Params) : Obj := cdObj (topSt 83) "_law_next"
noncomputable def ho434 (P : Params) : Obj := { cls := Value.type "code", data := Data.fields #[Value.str ("_law_next") 829, Value.str ("_law_next") 830, Value.str ("/claim/cut.py") 831, Value.int 381 0, Value.int 2 0, Value.int 0 0, Value.int 0 0, Value.int 3 0, Value.ref 429, Value.bool true, Value.int 181 0, Value.ref 430, Value.none, Value.ref 431, Value.ref 432, Value.ref 433, Value.int 836 0, Value.int 381 0, Value.str ("/claim/cut.py") 837] }
noncomputable def ho435 (P : Params) : Obj := fnObj (topSt 83) "_law_next" "law_sm0124_01" 825 434
noncomputable def ho436 (P : Params) : Obj := { cls := Value.type "tuple", data := Data.seq #[] }
noncomputable def ho437 (P : Params) : Obj := { cls := Value.none, data := Data.fields #[] }
noncomputable def ho438 (P : Params) : Obj := { cls := Value.type "tuple", data := Data.seq #[Value.str ("number") 842] }
noncomputable def ho439 (P : Params) : Obj := { cls := Value.type "tuple", data := Data.seq #[] }
noncomputable def ho440 (P : Params) : Obj := cdObj (topSt 84) "_law_place"
noncomputable def ho441 (P : Params) : Obj := { cls := Value.type "code", data := Data.fields #[Value.str ("_law_place") 839, Value.str ("_law_place") 840, Value.str ("/claim/cut.py") 841, Value.int 387 0, Value.int 1 0, Value.int 0 0, Value.int 0 0, Value.int 3 0, Value.ref 436, Value.bool true, Value.int 181 0, Value.ref 437, Value.none, Value.ref 438, Value.ref 439, Value.ref 440, Value.int 843 0, Value.int 387 0, Value.str ("/claim/cut.py") 844] }
noncomputable def ho442 (P : Params) : Obj := fnObj (topSt 84) "_law_place" "law_sm0124_01" 825 441
noncomputable def ho443 (P : Params) : Obj := { cls := Value.type "tuple", data := Data.seq #[] }
noncomputable def ho444 (P : Params) : Obj := { cls := Value.none, data := Data.fields #[] }
noncomputable def ho445 (P : Params) : Obj := { cls := Value.type "tuple", data := Data.seq #[Value.str ("feed") 849, Value.str ("_law_pairs") 850, Value.str ("form") 851, Value.str ("one") 852, Value.str ("other") 853, Value.str ("both") 854, Value.str ("beside") 855, Value.str ("kind") 856] }
noncomputable def ho446 (P : Params) : Obj := { cls := Value.type "tuple", data := Data.seq #[] }
noncomputable def ho447 (P : Params) : Obj := cdObj (topSt 85) "_law_order"
noncomputable def ho448 (P : Params) : Obj := { cls := Value.type "code", data := Data.fields #[Value.str ("_law_order") 846, Value.str ("_law_order") 847, Value.str ("/claim/cut.py") 848, Value.int 389 0, Value.int 1 0, Value.int 0 0, Value.int 0 0, Value.int 3 0, Value.ref 443, Value.bool true, Value.int 181 0, Value.ref 444, Value.none, Value.ref 445, Value.ref 446, Value.ref 447, Value.int 857 0, Value.int 389 0, Value.str ("/claim/cut.py") 858] }
noncomputable def ho449 (P : Params) : Obj := fnObj (topSt 85) "_law_order" "law_sm0124_01" 825 448
noncomputable def ho450 (P : Params) : Obj := { cls := Value.type "tuple", data := Data.seq #[] }
noncomputable def ho451 (P : Params) : Obj := { cls := Value.none, data := Data.fields #[] }
noncomputable def ho452 (P : Params) : Obj := cdObj (topSt 86) "_law_meet"
noncomputable def ho453 (P : Params) : Obj := { cls := Value.type "code", data := Data.fields #[Value.str ("_law_meet") 860, Value.str ("_law_meet") 861, Value.str ("/claim/cut.py") 862, Value.int 412 0, Value.int 2 0, Value.int 0 0, Value.int 0 0, Value.int 3 0, Value.ref 450, Value.bool true, Value.int 181 0, Value.ref 451, Value.none, Value.none, Value.none, Value.ref 452, Value.int 863 0, Value.int 412 0, Value.str ("/claim/cut.py") 864] }
noncomputable def ho454 (P : Params) : Obj := fnObj (topSt 86) "_law_meet" "law_sm0124_01" 825 453
noncomputable def ho455 (P : Params) : Obj := { cls := Value.type "tuple", data := Data.seq #[] }
noncomputable def ho456 (P : Params) : Obj := { cls := Value.none, data := Data.fields #[] }
noncomputable def ho457 (P : Params) : Obj := { cls := Value.type "tuple", data := Data.seq #[Value.str ("orders") 869, Value.str ("held") 870, Value.str ("memory") 871, Value.str ("cpu") 872, Value.str ("kept") 873, Value.str ("octet") 874, Value.str ("reads") 875, Value.str ("writes") 876] }
noncomputable def ho458 (P : Params) : Obj := { cls := Value.type "tuple", data := Data.seq #[] }
noncomputable def ho459 (P : Params) : Obj := cdObj (topSt 87) "_law_done"
noncomputable def ho460 (P : Params) : Obj := { cls := Value.type "code", data := Data.fields #[Value.str ("_law_done") 866, Value.str ("_law_done") 867, Value.str ("/claim/cut.py") 868, Value.int 414 0, Value.int 3 0, Value.int 0 0, Value.int 0 0, Value.int 3 0, Value.ref 455, Value.bool true, Value.int 181 0, Value.ref 456, Value.none, Value.ref 457, Value.ref 458, Value.ref 459, Value.int 877 0, Value.int 414 0, Value.str ("/claim/cut.py") 878] }
noncomputable def ho461 (P : Params) : Obj := fnObj (topSt 87) "_law_done" "law_sm0124_01" 825 460
noncomputable def ho462 (P : Params) : Obj := { cls := Value.type "tuple", data := Data.seq #[] }
noncomputable def ho463 (P : Params) : Obj := { cls := Value.none, data := Data.fields #[] }
noncomputable def ho464 (P : Params) : Obj := cdObj (topSt 88) "_law_needed"
noncomputable def ho465 (P : Params) : Obj := { cls := Value.type "code", data := Data.fields #[Value.str ("_law_needed") 880, Value.str ("_law_needed") 881, Value.str ("/claim/cut.py") 882, Value.int 420 0, Value.int 2 0, Value.int 0 0, Value.int 0 0, Value.int 3 0, Value.ref 462, Value.bool true, Value.int 181 0, Value.ref 463, Value.none, Value.none, Value.none, Value.ref 464, Value.int 883 0, Value.int 420 0, Value.str ("/claim/cut.py") 884] }
noncomputable def ho466 (P : Params) : Obj := fnObj (topSt 88) "_law_needed" "law_sm0124_01" 825 465
noncomputable def ho467 (P : Params) : Obj := { cls := Value.type "tuple", data := Data.seq #[] }
noncomputable def ho468 (P : Params) : Obj := { cls := Value.none, data := Data.fields #[] }
noncomputable def ho469 (P : Params) : Obj := cdObj (topSt 89) "law"
noncomputable def ho470 (P : Params) : Obj := { cls := Value.type "code", data := Data.fields #[Value.str ("law") 886, Value.str ("law") 887, Value.str ("/claim/cut.py") 888, Value.int 427 0, Value.int 1 0, Value.int 0 0, Value.int 0 0, Value.int 3 0, Value.ref 467, Value.bool true, Value.int 181 0, Value.ref 468, Value.none, Value.none, Value.none, Value.ref 469, Value.int 889 0, Value.int 427 0, Value.str ("/claim/cut.py") 890] }
noncomputable def ho471 (P : Params) : Obj := fnObj (topSt 89) "law" "law_sm0124_01" 825 470
noncomputable def heapPart0 (P : Params) : List Obj := [boot_o_0 P, boot_o_1 P, boot_o_2 P, ho3 P, boot_o_4 P, boot_o_5 P, boot_o_6 P, boot_o_7 P, boot_o_8 P, boot_o_9 P, boot_o_10 P, ho11 P, ho12 P, ho13 P, ho14 P, ho15 P, ho16 P, ho17 P, ho18 P, ho19 P, ho20 P, ho21 P, ho22 P, ho23 P, ho24 P, ho25 P, ho26 P, ho27 P, ho28 P, ho29 P, ho30 P, ho31 P, ho32 P, ho33 P, ho34 P, ho35 P, ho36 P, ho37 P, ho38 P, ho39 P, ho40 P, ho41 P, ho42 P, ho43 P, ho44 P, ho45 P, ho46 P, ho47 P, ho48 P, ho49 P, ho50 P, ho51 P, ho52 P, ho53 P, ho54 P, ho55 P, ho56 P, ho57 P, ho58 P, ho59 P]
noncomputable def heapPart1 (P : Params) : List Obj := [ho60 P, ho61 P, ho62 P, ho63 P, ho64 P, ho65 P, ho66 P, ho67 P, ho68 P, ho69 P, ho70 P, ho71 P, ho72 P, ho73 P, ho74 P, ho75 P, ho76 P, ho77 P, ho78 P, ho79 P, ho80 P, ho81 P, ho82 P, ho83 P, ho84 P, ho85 P, ho86 P, ho87 P, ho88 P, ho89 P, ho90 P, ho91 P, ho92 P, ho93 P, ho94 P, ho95 P, ho96 P, ho97 P, ho98 P, ho99 P, ho100 P, ho101 P, ho102 P, ho103 P, ho104 P, ho105 P, ho106 P, ho107 P, ho108 P, ho109 P, ho110 P, ho111 P, ho112 P, ho113 P, ho114 P, ho115 P, ho116 P, ho117 P, ho118 P, ho119 P]
noncomputable def heapPart2 (P : Params) : List Obj := [ho120 P, ho121 P, ho122 P, ho123 P, ho124 P, ho125 P, ho126 P, ho127 P, ho128 P, ho129 P, ho130 P, ho131 P, ho132 P, ho133 P, ho134 P, ho135 P, ho136 P, ho137 P, ho138 P, ho139 P, ho140 P, ho141 P, ho142 P, ho143 P, ho144 P, ho145 P, ho146 P, ho147 P, ho148 P, ho149 P, ho150 P, ho151 P, ho152 P, ho153 P, ho154 P, ho155 P, ho156 P, ho157 P, ho158 P, ho159 P, ho160 P, ho161 P, ho162 P, ho163 P, ho164 P, ho165 P, ho166 P, ho167 P, ho168 P, ho169 P, ho170 P, ho171 P, ho172 P, ho173 P, ho174 P, ho175 P, ho176 P, ho177 P, ho178 P, ho179 P]
noncomputable def heapPart3 (P : Params) : List Obj := [ho180 P, ho181 P, ho182 P, ho183 P, ho184 P, ho185 P, ho186 P, ho187 P, ho188 P, ho189 P, ho190 P, ho191 P, ho192 P, ho193 P, ho194 P, ho195 P, ho196 P, ho197 P, ho198 P, ho199 P, ho200 P, ho201 P, ho202 P, ho203 P, ho204 P, ho205 P, ho206 P, ho207 P, ho208 P, ho209 P, ho210 P, ho211 P, ho212 P, ho213 P, ho214 P, ho215 P, ho216 P, ho217 P, ho218 P, ho219 P, ho220 P, ho221 P, ho222 P, ho223 P, ho224 P, ho225 P, ho226 P, ho227 P, ho228 P, ho229 P, ho230 P, ho231 P, ho232 P, ho233 P, ho234 P, ho235 P, ho236 P, ho237 P, ho238 P, ho239 P]
noncomputable def heapPart4 (P : Params) : List Obj := [ho240 P, ho241 P, ho242 P, ho243 P, ho244 P, ho245 P, ho246 P, ho247 P, ho248 P, ho249 P, ho250 P, ho251 P, ho252 P, ho253 P, ho254 P, ho255 P, ho256 P, ho257 P, ho258 P, ho259 P, ho260 P, ho261 P, ho262 P, ho263 P, ho264 P, ho265 P, ho266 P, ho267 P, ho268 P, ho269 P, ho270 P, ho271 P, ho272 P, ho273 P, ho274 P, ho275 P, ho276 P, ho277 P, ho278 P, ho279 P, ho280 P, ho281 P, ho282 P, ho283 P, ho284 P, ho285 P, ho286 P, ho287 P, ho288 P, ho289 P, ho290 P, ho291 P, ho292 P, ho293 P, ho294 P, ho295 P, ho296 P, ho297 P, ho298 P, ho299 P]
noncomputable def heapPart5 (P : Params) : List Obj := [ho300 P, ho301 P, ho302 P, ho303 P, ho304 P, ho305 P, ho306 P, ho307 P, ho308 P, ho309 P, ho310 P, ho311 P, ho312 P, ho313 P, ho314 P, ho315 P, ho316 P, ho317 P, ho318 P, ho319 P, ho320 P, ho321 P, ho322 P, ho323 P, ho324 P, ho325 P, ho326 P, ho327 P, ho328 P, ho329 P, ho330 P, ho331 P, ho332 P, ho333 P, ho334 P, ho335 P, ho336 P, ho337 P, ho338 P, ho339 P, ho340 P, ho341 P, ho342 P, ho343 P, ho344 P, ho345 P, ho346 P, ho347 P, ho348 P, ho349 P, ho350 P, ho351 P, ho352 P, ho353 P, ho354 P, ho355 P, ho356 P, ho357 P, ho358 P, ho359 P]
noncomputable def heapPart6 (P : Params) : List Obj := [ho360 P, ho361 P, ho362 P, ho363 P, ho364 P, ho365 P, ho366 P, ho367 P, ho368 P, ho369 P, ho370 P, ho371 P, ho372 P, ho373 P, ho374 P, ho375 P, ho376 P, ho377 P, ho378 P, ho379 P, ho380 P, ho381 P, ho382 P, ho383 P, ho384 P, ho385 P, ho386 P, ho387 P, ho388 P, ho389 P, ho390 P, ho391 P, ho392 P, ho393 P, ho394 P, ho395 P, ho396 P, ho397 P, ho398 P, ho399 P, ho400 P, ho401 P, ho402 P, ho403 P, ho404 P, ho405 P, ho406 P, ho407 P, ho408 P, ho409 P, ho410 P, ho411 P, ho412 P, ho413 P, ho414 P, ho415 P, ho416 P, ho417 P, ho418 P, ho419 P]
noncomputable def heapPart7 (P : Params) : List Obj := [ho420 P, ho421 P, ho422 P, ho423 P, ho424 P, ho425 P, ho426 P, ho427 P, ho428 P, ho429 P, ho430 P, ho431 P, ho432 P, ho433 P, ho434 P, ho435 P, ho436 P, ho437 P, ho438 P, ho439 P, ho440 P, ho441 P, ho442 P, ho443 P, ho444 P, ho445 P, ho446 P, ho447 P, ho448 P, ho449 P, ho450 P, ho451 P, ho452 P, ho453 P, ho454 P, ho455 P, ho456 P, ho457 P, ho458 P, ho459 P, ho460 P, ho461 P, ho462 P, ho463 P, ho464 P, ho465 P, ho466 P, ho467 P, ho468 P, ho469 P, ho470 P, ho471 P]
/-- the heap behind the top -/
noncomputable def heapEnd (P : Params) : Heap := ⟨⟨heapPart0 P ++ (heapPart1 P ++ (heapPart2 P ++ (heapPart3 P ++ (heapPart4 P ++ (heapPart5 P ++ (heapPart6 P ++ (heapPart7 P)))))))⟩, {}⟩
/-- what of it the law reaches -/
noncomputable def heapK : Params → Frag := fun P => [(2, boot_o_2 P), (3, ho3 P), (22, ho22 P), (24, ho24 P), (25, ho25 P), (27, ho27 P), (28, ho28 P), (29, ho29 P), (30, ho30 P), (31, ho31 P), (32, ho32 P), (33, ho33 P), (43, ho43 P), (45, ho45 P), (46, ho46 P), (48, ho48 P), (49, ho49 P), (50, ho50 P), (51, ho51 P), (52, ho52 P), (53, ho53 P), (54, ho54 P), (57, ho57 P), (59, ho59 P), (60, ho60 P), (62, ho62 P), (63, ho63 P), (64, ho64 P), (66, ho66 P), (67, ho67 P), (69, ho69 P), (70, ho70 P), (71, ho71 P), (73, ho73 P), (74, ho74 P), (76, ho76 P), (77, ho77 P), (78, ho78 P), (80, ho80 P), (81, ho81 P), (83, ho83 P), (84, ho84 P), (85, ho85 P), (87, ho87 P), (88, ho88 P), (90, ho90 P), (91, ho91 P), (92, ho92 P), (94, ho94 P), (95, ho95 P), (97, ho97 P), (98, ho98 P), (99, ho99 P), (101, ho101 P), (102, ho102 P), (104, ho104 P), (105, ho105 P), (106, ho106 P), (108, ho108 P), (109, ho109 P), (111, ho111 P), (112, ho112 P), (113, ho113 P), (115, ho115 P), (116, ho116 P), (118, ho118 P), (119, ho119 P), (120, ho120 P), (122, ho122 P), (123, ho123 P), (125, ho125 P), (126, ho126 P), (127, ho127 P), (129, ho129 P), (130, ho130 P), (132, ho132 P), (133, ho133 P), (134, ho134 P), (136, ho136 P), (137, ho137 P), (139, ho139 P), (140, ho140 P), (141, ho141 P), (143, ho143 P), (144, ho144 P), (146, ho146 P), (147, ho147 P), (148, ho148 P), (150, ho150 P), (151, ho151 P), (153, ho153 P), (154, ho154 P), (155, ho155 P), (157, ho157 P), (158, ho158 P), (160, ho160 P), (161, ho161 P), (162, ho162 P), (164, ho164 P), (165, ho165 P), (167, ho167 P), (168, ho168 P), (169, ho169 P), (171, ho171 P), (172, ho172 P), (174, ho174 P), (175, ho175 P), (176, ho176 P), (178, ho178 P), (179, ho179 P), (181, ho181 P), (182, ho182 P), (183, ho183 P), (185, ho185 P), (186, ho186 P), (188, ho188 P), (189, ho189 P), (190, ho190 P), (192, ho192 P), (193, ho193 P), (195, ho195 P), (196, ho196 P), (197, ho197 P), (199, ho199 P), (200, ho200 P), (202, ho202 P), (203, ho203 P), (204, ho204 P), (206, ho206 P), (207, ho207 P), (209, ho209 P), (210, ho210 P), (211, ho211 P), (213, ho213 P), (214, ho214 P), (216, ho216 P), (217, ho217 P), (218, ho218 P), (220, ho220 P), (221, ho221 P), (223, ho223 P), (224, ho224 P), (225, ho225 P), (227, ho227 P), (228, ho228 P), (230, ho230 P), (231, ho231 P), (232, ho232 P), (234, ho234 P), (235, ho235 P), (237, ho237 P), (238, ho238 P), (239, ho239 P), (241, ho241 P), (242, ho242 P), (244, ho244 P), (245, ho245 P), (246, ho246 P), (248, ho248 P), (249, ho249 P), (251, ho251 P), (252, ho252 P), (253, ho253 P), (255, ho255 P), (256, ho256 P), (258, ho258 P), (259, ho259 P), (260, ho260 P), (262, ho262 P), (263, ho263 P), (265, ho265 P), (266, ho266 P), (267, ho267 P), (269, ho269 P), (270, ho270 P), (272, ho272 P), (273, ho273 P), (274, ho274 P), (276, ho276 P), (277, ho277 P), (279, ho279 P), (280, ho280 P), (281, ho281 P), (283, ho283 P), (284, ho284 P), (286, ho286 P), (287, ho287 P), (288, ho288 P), (290, ho290 P), (291, ho291 P), (293, ho293 P), (294, ho294 P), (295, ho295 P), (297, ho297 P), (298, ho298 P), (300, ho300 P), (301, ho301 P), (302, ho302 P), (303, ho303 P), (305, ho305 P), (306, ho306 P), (308, ho308 P), (309, ho309 P), (310, ho310 P), (312, ho312 P), (313, ho313 P), (315, ho315 P), (316, ho316 P), (317, ho317 P), (319, ho319 P), (320, ho320 P), (322, ho322 P), (323, ho323 P), (324, ho324 P), (326, ho326 P), (327, ho327 P), (329, ho329 P), (330, ho330 P), (331, ho331 P), (333, ho333 P), (334, ho334 P), (336, ho336 P), (337, ho337 P), (338, ho338 P), (340, ho340 P), (341, ho341 P), (343, ho343 P), (344, ho344 P), (345, ho345 P), (347, ho347 P), (348, ho348 P), (350, ho350 P), (351, ho351 P), (352, ho352 P), (354, ho354 P), (355, ho355 P), (357, ho357 P), (358, ho358 P), (359, ho359 P), (361, ho361 P), (362, ho362 P), (364, ho364 P), (365, ho365 P), (366, ho366 P), (368, ho368 P), (369, ho369 P), (371, ho371 P), (372, ho372 P), (373, ho373 P), (375, ho375 P), (376, ho376 P), (378, ho378 P), (379, ho379 P), (380, ho380 P), (382, ho382 P), (383, ho383 P), (385, ho385 P), (386, ho386 P), (387, ho387 P), (389, ho389 P), (390, ho390 P), (392, ho392 P), (393, ho393 P), (394, ho394 P), (396, ho396 P), (397, ho397 P), (399, ho399 P), (400, ho400 P), (401, ho401 P), (403, ho403 P), (404, ho404 P), (406, ho406 P), (407, ho407 P), (408, ho408 P), (410, ho410 P), (411, ho411 P), (413, ho413 P), (414, ho414 P), (415, ho415 P), (417, ho417 P), (418, ho418 P), (420, ho420 P), (421, ho421 P), (422, ho422 P), (424, ho424 P), (425, ho425 P), (427, ho427 P), (428, ho428 P), (429, ho429 P), (431, ho431 P), (432, ho432 P), (434, ho434 P), (435, ho435 P), (436, ho436 P), (438, ho438 P), (439, ho439 P), (441, ho441 P), (442, ho442 P), (443, ho443 P), (445, ho445 P), (446, ho446 P), (448, ho448 P), (449, ho449 P), (450, ho450 P), (453, ho453 P), (454, ho454 P), (455, ho455 P), (457, ho457 P), (458, ho458 P), (460, ho460 P), (461, ho461 P), (462, ho462 P), (465, ho465 P), (466, ho466 P), (467, ho467 P), (470, ho470 P), (471, ho471 P)]
noncomputable def heapAt : List Nat := [2, 3, 22, 24, 25, 27, 28, 29, 30, 31, 32, 33, 43, 45, 46, 48, 49, 50, 51, 52, 53, 54, 57, 59, 60, 62, 63, 64, 66, 67, 69, 70, 71, 73, 74, 76, 77, 78, 80, 81, 83, 84, 85, 87, 88, 90, 91, 92, 94, 95, 97, 98, 99, 101, 102, 104, 105, 106, 108, 109, 111, 112, 113, 115, 116, 118, 119, 120, 122, 123, 125, 126, 127, 129, 130, 132, 133, 134, 136, 137, 139, 140, 141, 143, 144, 146, 147, 148, 150, 151, 153, 154, 155, 157, 158, 160, 161, 162, 164, 165, 167, 168, 169, 171, 172, 174, 175, 176, 178, 179, 181, 182, 183, 185, 186, 188, 189, 190, 192, 193, 195, 196, 197, 199, 200, 202, 203, 204, 206, 207, 209, 210, 211, 213, 214, 216, 217, 218, 220, 221, 223, 224, 225, 227, 228, 230, 231, 232, 234, 235, 237, 238, 239, 241, 242, 244, 245, 246, 248, 249, 251, 252, 253, 255, 256, 258, 259, 260, 262, 263, 265, 266, 267, 269, 270, 272, 273, 274, 276, 277, 279, 280, 281, 283, 284, 286, 287, 288, 290, 291, 293, 294, 295, 297, 298, 300, 301, 302, 303, 305, 306, 308, 309, 310, 312, 313, 315, 316, 317, 319, 320, 322, 323, 324, 326, 327, 329, 330, 331, 333, 334, 336, 337, 338, 340, 341, 343, 344, 345, 347, 348, 350, 351, 352, 354, 355, 357, 358, 359, 361, 362, 364, 365, 366, 368, 369, 371, 372, 373, 375, 376, 378, 379, 380, 382, 383, 385, 386, 387, 389, 390, 392, 393, 394, 396, 397, 399, 400, 401, 403, 404, 406, 407, 408, 410, 411, 413, 414, 415, 417, 418, 420, 421, 422, 424, 425, 427, 428, 429, 431, 432, 434, 435, 436, 438, 439, 441, 442, 443, 445, 446, 448, 449, 450, 453, 454, 455, 457, 458, 460, 461, 462, 465, 466, 467, 470, 471]
end
end Mine

namespace Mine
open PySem PySem.W PyProof.Rows
section
abbrev lawP : PySem.Program := PySem.Challenge.pw_sm0124_01
abbrev lawRow : OpenRow := PySem.Challenge.rw_sm0124_01.row
/- The names te.. below are the library's own equations of a look with its quick form; without them the plain kernel_rfl does the same, slower. -/
/-- the top without the four rows that name a file -/
noncomputable def view : PySem.Program := { lawP with main := { lawP.main with body := (topSts.drop 1).take 21 ++ ((topSts.drop 23).take 34 ++ ((topSts.drop 58).take 23 ++ topSts.drop 82)) } }
abbrev looseL : List Str := ["KEPT", "CONDITIONS"]
abbrev looseV : List (Str × WData) := [("KEPT", .int 196)]
theorem heapAt_eq (P : Params) : heapAt = (heapK P).map (·.1) := by kernel_rfl
noncomputable def hook : Hook := kHook heapK heapAt heapAt_eq
theorem lawOpening : opening lawP = plainProg lawP.main.scope.names := by kernel_rfl
theorem lawFence (s : Shared) : fenceModules? lawP s = some s := by kernel_rfl
theorem lawSize (w : World) : ((boot_heap w.params).isNs mainGlobals && (Array.mk ([] : List GenState)).size == 0, (boot_heap w.params).objs.size, (boot_heap w.params).nsMap mainGlobals "__annotations__") = (true, 11, some (.ref 6)) := by kernel_rfl
theorem lawRun (w : World) (os : OsState) : topRun treeTable lawP w 11 (some (.ref 6)) 2640 ⟨boot_heap w.params, Array.mk [], boot_drawn, boot_toks, os⟩ (topStub lawP) = some ⟨heapEnd w.params, Array.mk [], {}, 892, os⟩ := by
  first
  | (rw [PySem.W.Fast.te14082659384304107361, PySem.W.Fast.te14364793385576792824]; kernel_rfl)
  | kernel_rfl
end
end Mine

namespace Mine
open PySem PySem.W PyProof.Rows
section
noncomputable abbrev endS (w : World) (os : OsState) : Shared := ⟨heapEnd w.params, Array.mk [], {}, 892, os⟩
theorem look1 (w : World) (os : OsState) : (staticsOk (importedModules lawP.main.body) (boot_heap w.params) (heapEnd w.params) && namesBound lawP (heapEnd w.params) && gensDone (endS w os) && laidKept (boot_heap w.params) (heapEnd w.params)) = true := by kernel_rfl
theorem look2a (w : World) (os : OsState) : seen ((recsOf view).map (·.name)) (ownsOf view) [] { endS w os with gens := #[] } = expectedOf view := by
  first
  | (unfold expectedOf; rw [PySem.W.Fast.te5160383126252970620, PySem.W.Fast.te3399658132070893891, PySem.W.Fast.te5991557255702980513]; kernel_rfl)
  | kernel_rfl
theorem look2b (w : World) (os : OsState) : (endS w os).heap.bltView = bltViewBooted := by kernel_rfl
theorem look2c (w : World) (os : OsState) : ((endS w os).heap.keysOk (looseW view looseL) ((recsOf view).map (·.name)) ((litsOf view).map (·.1)) ((clssOf view (looseW view looseL)).map (·.name)) && (endS w os).heap.accountedOkI (importedModules lawP.main.body) && (endS w os).heap.isNs mainGlobals && (endS w os).heap.isNs builtinsNs && tablesOk view (endS w os).heap && (fun s => xlAt view looseV s && recOk lawRow.toRowW.records s) (endS w os) && (if true then (endS w os).gens.size == 0 else !leftWithCleanup (endS w os).gens)) = true := by
  first
  | (rw [PySem.W.Fast.te10880121769531294198, PySem.W.Fast.te821141287760084731, PySem.W.Fast.te7409074990110511671, PySem.W.Fast.te13664370479719496447, PySem.W.Fast.te14722251495701143533, PySem.W.Fast.te10994771534591457954, PySem.W.Fast.te3399658132070893891]; kernel_rfl)
  | kernel_rfl
theorem look2d (w : World) (os : OsState) : tabsOk view (endS w os) = true := by
  first
  | (rw [PySem.W.Fast.te479339242167458305]; kernel_rfl)
  | kernel_rfl
theorem look2e (w : World) (os : OsState) : pinSeenD view (drecsOf view) (endS w os) = pinGoodD (drecsOf view) := by
  first
  | (rw [PySem.W.Fast.te16090120013241838585, PySem.W.Fast.te3247288618530077131]; kernel_rfl)
  | kernel_rfl
theorem look2f (w : World) (os : OsState) : plainSeenE view (looseW view looseL) (endS w os) = plainGoodE view (looseW view looseL) := by
  first
  | (rw [PySem.W.Fast.te2386780881361962483, PySem.W.Fast.te821141287760084731]; kernel_rfl)
  | kernel_rfl
theorem look2g (w : World) (os : OsState) : plainSeenD view looseL (endS w os) = plainGoodD view looseL := by
  first
  | (rw [PySem.W.Fast.te11698064438423848299]; kernel_rfl)
  | kernel_rfl
theorem look2h (w : World) (os : OsState) : wideSeen view (endS w os) = wideGood view := by
  first
  | (rw [PySem.W.Fast.te7317090234206586261]; kernel_rfl)
  | kernel_rfl
theorem look2i (w : World) (os : OsState) : clsSeenW view looseL (endS w os) = clsGoodW view looseL := by
  first
  | (rw [PySem.W.Fast.te7369524293546568484]; kernel_rfl)
  | kernel_rfl
theorem look2 (w : World) (os : OsState) : openSeen view looseL (importedModules lawP.main.body) (fun s => xlAt view looseV s && recOk lawRow.toRowW.records s) true (endS w os) = openGood view looseL :=
  looks_pair (look2a w os) (looks_pair (look2b w os) (looks_pair (look2c w os) (looks_pair (look2d w os) (looks_pair (look2e w os) (looks_pair (look2f w os) (looks_pair (look2g w os) (looks_pair (look2h w os) (look2i w os))))))))
theorem look3 (w : World) (os : OsState) : hook.obs (endS w os) = hook.val w := by kernel_rfl
end
end Mine

namespace Mine
open PySem PySem.W PyProof.Rows
section
theorem left : LeftO lawRow.prog view looseL (fun s => xlAt view looseV s && recOk lawRow.toRowW.records s) hook.obs hook.val 5360 :=
  LeftO.of_pieces (H₀ := boot_heap) (H₁ := heapEnd) (m₀ := 11) (ann := some (.ref 6)) (M := 2640) (boot_open lawOpening rfl lawFence) lawSize lawRun rfl fun w => funext fun os => looks_pair (look1 w os) (looks_pair (look2 w os) (look3 w os))
noncomputable def theLaw : DefRec × List (Str × PySem.Expr) := (defOf view lawRow.name).getD ⟨⟨"", ⟨[], [], none, [], [], none, []⟩, [], default, default⟩, []⟩
theorem said : PySem.Challenge.rw_sm0124_01.wellSaid = true := by
  first
  | (rw [PySem.W.Fast.te9446332074065402090]; kernel_rfl)
  | kernel_rfl
theorem oks : (chainsOk view && opensWell lawRow.prog && (frees lawRow.toRowW && lawRow.within.isEmpty)) = true := by kernel_rfl
theorem isDef : defOf view lawRow.name = some (theLaw.1, theLaw.2) := by kernel_rfl
theorem isThe : lawRow.prog.theDef lawRow.name = some (theLaw.1.params, theLaw.1.body, theLaw.1.scope) := by kernel_rfl
theorem isKw : kwWritten? theLaw.1.params.kwonlyargs theLaw.1.params.kw_defaults = some theLaw.2 := by kernel_rfl
theorem bare : lawRow.prog.bare := ⟨rfl, rfl, rfl, rfl, rfl, by decide +kernel⟩
theorem meant : lawRow.toRowW.promised := ⟨[.list [.int 3, .int 1]], by decide +kernel, by decide +kernel⟩
theorem hd (call : WalkO view looseL (XL view looseV) hook.says lawRow.toRowW theLaw.1 theLaw.2 fun f vs => PySem.call f vs) : PySem.Challenge.rw_sm0124_01.Holds :=
  holds_law said fun k1 => holds_open (q := view) (loose := looseL) (Xt := fun s => xlAt view looseV s && recOk lawRow.toRowW.records s) (XP := XL view looseV) (Yf := hook.obs) (Ya := hook.val) (YP := hook.says) (N := 5360)
    left hook.of hook.keeps (fun s e => xl_of s (Bool.and_eq_true_iff.mp e).1) XL.keeps isDef isThe isKw (fun s e => recFacts_of (Bool.and_eq_true_iff.mp e).2) rfl k1 oks bare meant call
end
end Mine

namespace Mine
open PySem PySem.W PyProof.Rows

noncomputable section
noncomputable abbrev KF : Params → Frag := Mine.heapK

/-- a range that an int is known to lie in -/
noncomputable abbrev Rng := Option (Int × Int)

inductive V where
  | none
  | bool (b : Bool)
  | int (i : Int) (g : Rng)
  | str (s : Str)
  | tup (vs : List V)
  | lst (vs : List V)
  | cpu
  | regs
  | mem
  | ref (a : Addr)
  | bfn

structure CS where
  R : List Int
  M : List Int
  st : Int

noncomputable def Rng.join : Rng → Rng → Rng
  | some (a, b), some (c, d) => some (min a c, max b d)
  | _, _ => Option.none
noncomputable def topOf (n : Int) : Int := ((2 ^ (n.toNat.log2 + 1) : Nat) : Int) - 1
noncomputable def Rng.add : Rng → Rng → Rng
  | some (a, b), some (c, d) => some (a + c, b + d)
  | _, _ => Option.none
noncomputable def Rng.sub : Rng → Rng → Rng
  | some (a, b), some (c, d) => some (a - d, b - c)
  | _, _ => Option.none
noncomputable def Rng.one (f : Int → Int → Int) (g k : Rng) (r : Rng) : Rng := match g, k with
  | some (a, b), some (c, d) => if a = b ∧ c = d then some (f a c, f a c) else r
  | _, _ => r
noncomputable def Rng.and0 : Rng → Rng → Rng
  | some (a, b), some (c, d) => if 0 ≤ c then (if 0 ≤ a then some (0, min b d) else some (0, d)) else if 0 ≤ a then some (0, b) else Option.none
  | some (a, b), Option.none => if 0 ≤ a then some (0, b) else Option.none
  | Option.none, some (c, d) => if 0 ≤ c then some (0, d) else Option.none
  | Option.none, Option.none => Option.none
noncomputable def Rng.or0 : Rng → Rng → Rng
  | some (a, b), some (c, d) => if 0 ≤ a ∧ 0 ≤ c then some (0, topOf (max b d)) else Option.none
  | _, _ => Option.none
noncomputable def Rng.mul : Rng → Rng → Rng
  | some (a, b), some (c, d) => if a = b ∧ c = d then some (a * c, a * c) else Option.none
  | _, _ => Option.none

noncomputable def binA (op : Operator) (x y : V) : Option V := match x, y with
  | .int a g, .int b k => match op with
    | .Add => some (.int (a + b) (Rng.add g k))
    | .Sub => some (.int (a - b) (Rng.sub g k))
    | .Mult => match g with
      | some (lo, hi) => if -(2 ^ 63) ≤ lo ∧ hi ≤ 2 ^ 63 then some (.int (a * b) (Rng.mul g k)) else Option.none
      | Option.none => Option.none
    | .BitAnd => some (.int (Builtin.bitAnd a b) (Rng.one Builtin.bitAnd g k (Rng.and0 g k)))
    | .BitOr => some (.int (Builtin.bitOr a b) (Rng.one Builtin.bitOr g k (Rng.or0 g k)))
    | .BitXor => some (.int (Builtin.bitXor a b) (Rng.one Builtin.bitXor g k (Rng.or0 g k)))
    | .LShift => match g, k with
      | some (lo, hi), some (c, d) => if -(2 ^ 63) ≤ lo ∧ hi ≤ 2 ^ 63 ∧ 0 ≤ c ∧ c = d ∧ d ≤ 64 then some (.int (a * 2 ^ b.toNat) (some (lo * 2 ^ c.toNat, hi * 2 ^ c.toNat))) else Option.none
      | _, _ => Option.none
    | .RShift => match g, k with
      | some (lo, hi), some (c, d) => if 0 ≤ c ∧ c = d then some (.int (a.fdiv (2 ^ b.toNat)) (some (lo.fdiv (2 ^ c.toNat), hi.fdiv (2 ^ c.toNat)))) else Option.none
      | _, _ => Option.none
    | .Mod => match k with
      | some (c, d) => if 0 < c then some (.int (a.fmod b) (some (0, d - 1))) else Option.none
      | Option.none => Option.none
    | .FloorDiv => match k with
      | some (c, d) => if 0 < c ∧ d < 1000000 then some (.int (a.fdiv b) Option.none) else Option.none
      | Option.none => Option.none
    | _ => Option.none
  | .str a, .str b => match op with
    | .Add => if a.length + b.length ≤ 1000 then some (.str (a ++ b)) else Option.none
    | _ => Option.none
  | _, _ => Option.none

noncomputable def unA (op : UnaryOp) (x : V) : Option V := match op, x with
  | .Invert, .int a (some (lo, hi)) => some (.int (Builtin.bitNot a) (some (-hi - 1, -lo - 1)))
  | .USub, .int a (some (lo, hi)) => some (.int (-a) (some (-hi, -lo)))
  | _, _ => Option.none

noncomputable def intsA : List V → Option (List Int)
  | [] => some []
  | .int i _ :: r => (intsA r).map (i :: ·)
  | _ => Option.none

noncomputable def cmpA (op : CmpOp) (x y : V) : Option Bool := match x, y with
  | .int a _, .int b _ => match op with
    | .Eq => some (a == b)
    | .NotEq => some (a != b)
    | .Lt => some (decide (a < b))
    | .Gt => some (decide (b < a))
    | _ => Option.none
  | .int a _, .tup vs => match op with
    | .In => (intsA vs).map fun l => l.any (fun i => i == a)
    | _ => Option.none
  | _, _ => Option.none

noncomputable def truthA : V → Option Bool
  | .bool b => some b
  | .int i _ => some (i != 0)
  | _ => Option.none

noncomputable def globA (P : Params) (id : Str) : Option V := match nsIn (KF P) mainGlobals id with
  | some (some (.int i _)) => some (.int i (some (i, i)))
  | some (some (.str s _)) => some (.str s)
  | some (some (.ref a)) => some (.ref a)
  | some Option.none => if id == ("len" : Str) then some .bfn else Option.none
  | _ => Option.none

noncomputable def nameA (P : Params) (sc : Scope) (e : List (Str × V)) (id : Str) : Option V :=
  if id == ("__debug__" : Str) then Option.none else
  match sc.names.lookup id with
  | some .local => e.lookup id
  | some .cell => e.lookup id
  | some .globalImplicit => globA P id
  | _ => Option.none

/-- an index that lies in 0 .. n - 1 for sure -/
noncomputable def inA (g : Rng) (n : Int) : Bool := match g with
  | some (lo, hi) => decide (0 ≤ lo) && decide (hi < n)
  | Option.none => false

noncomputable def subA (σ : CS) (o i : V) : Option V := match o, i with
  | .regs, .int k g => if inA g 8 then some (.int (σ.R.getD k.toNat 0) (some (0, 255))) else Option.none
  | .mem, .int k g => if inA g 64 then some (.int (σ.M.getD k.toNat 0) (some (0, 255))) else Option.none
  | .tup vs, .int k g => if inA g vs.length && decide (vs.length ≤ 1000) then vs[k.toNat]? else Option.none
  | .lst vs, .int k g => if inA g vs.length && decide (vs.length ≤ 1000) then vs[k.toNat]? else Option.none
  | .str s, .int k g => if inA g s.length && decide (s.length ≤ 1000) then (s.cps[k.toNat]?).map (fun c => .str ⟨#[c]⟩) else Option.none
  | _, _ => Option.none

noncomputable def setA (σ : CS) (o i v : V) : Option CS := match o, i, v with
  | .regs, .int k g, .int x gx => if inA g 8 && inA gx 256 then some { σ with R := σ.R.set k.toNat x } else Option.none
  | .mem, .int k g, .int x gx => if inA g 64 && inA gx 256 then some { σ with M := σ.M.set k.toNat x } else Option.none
  | _, _, _ => Option.none

noncomputable def attrA (σ : CS) (o : V) (a : Str) : Option V := match o with
  | .cpu => if a == ("r" : Str) then some .regs else if a == ("states" : Str) then some (.int σ.st Option.none) else Option.none
  | _ => Option.none

noncomputable def joinA (b : Bool) (x y : V) : V := match x, y with
  | .int i g, .int j k => .int (cond b i j) (Rng.join g k)
  | x, y => cond b x y

noncomputable def atomE : PySem.Expr → Bool
  | .Constant (.int _) _ _ => true
  | .Name _ _ => true
  | _ => false

noncomputable def funA (P : Params) (a : Addr) : Option FuncData := match (KF P).lookup a with
  | some ⟨_, _, .func fd, _⟩ => some fd
  | _ => Option.none

noncomputable def plainFd (fd : FuncData) : Bool := match fd with
  | { params := ⟨[], as, Option.none, [], [], Option.none, []⟩, closure := [], globals := 3, defaults := .none, kwdefaults := .none, scope := sc, builtins := 0, .. } =>
    sc.kind == .function && !sc.isCoroutine && !sc.isGenerator && sc.names.all (fun x => x.2 == .local || x.2 == .globalImplicit) &&
    as.all (fun a => sc.names.lookup a.arg == some .local) && decide ((as.map (·.arg)).Nodup)
  | _ => false

noncomputable def putA (x : Str) (v : V) (e : List (Str × V)) : List (Str × V) := (x, v) :: e

inductive Fl where
  | next
  | ret (v : V)

/-- the keys of a dict display -/
noncomputable def keysA : List (V × V) → Option (List (Int × V))
  | [] => some []
  | (.int k _, v) :: r => (keysA r).map ((k, v) :: ·)
  | _ => Option.none

noncomputable def lenA (σ : CS) : V → Option V
  | .mem => some (.int 64 (some (64, 64)))
  | _ => Option.none

/-- the names of a tuple of targets on one line -/
noncomputable def namesA : List PySem.Expr → Option (List Str)
  | [] => some []
  | .Name x _ :: r => (namesA r).map (x :: ·)
  | _ => Option.none

noncomputable def swapA (sc : Scope) (ts : List PySem.Expr) (value : PySem.Expr) : Option (Option (List Str)) :=
  pureOf (swappedStores [.Tuple ts 0 ⟨0, 0, 0, 0⟩] value { scope := sc, locals := 0, globals := 0, cells := [] })

noncomputable def notSlice : PySem.Expr → Bool
  | .Slice .. => false
  | _ => true

noncomputable def notComp : PySem.Expr → Bool
  | .ListComp .. | .SetComp .. | .DictComp .. => false
  | _ => true

mutual
noncomputable def evA (P : Params) : Nat → Scope → List (Str × V) → CS → PySem.Expr → Option (V × CS)
  | 0, _, _, _, _ => Option.none
  | n + 1, sc, e, σ, x => match x with
    | .Constant (.int i) _ _ => some (.int i (some (i, i)), σ)
    | .Constant (.str s) _ _ => some (.str s, σ)
    | .Name id _ => (nameA P sc e id).map fun v => (v, σ)
    | .BinOp l op r _ =>
      (evA P n sc e σ l).bind fun a => (evA P n sc e a.2 r).bind fun b => (binA op a.1 b.1).map fun v => (v, b.2)
    | .UnaryOp op l _ => (evA P n sc e σ l).bind fun a => (unA op a.1).map fun v => (v, a.2)
    | .Compare l [op] [r] _ =>
      (evA P n sc e σ l).bind fun a => (evA P n sc e a.2 r).bind fun b => (cmpA op a.1 b.1).map fun c => (.bool c, b.2)
    | .IfExp t b o _ => (tsA P n sc e σ t).bind fun c =>
      if atomE b && atomE o then (evA P n sc e c.2 b).bind fun x => (evA P n sc e c.2 o).map fun y => (joinA c.1 x.1 y.1, c.2)
      else match c.1 with
        | true => evA P n sc e c.2 b
        | false => evA P n sc e c.2 o
    | .Attribute (.Name id _) a _ => (nameA P sc e id).bind fun o => (attrA σ o a).map fun v => (v, σ)
    | .Subscript (.Dict ks vs _) i _ =>
      if notSlice i && decide (ks.length ≤ 15) && ks.all (·.isSome) && ks.length == vs.length && !ks.isEmpty then
      (prA P n sc e σ ks vs).bind fun kv => (evA P n sc e kv.2 i).bind fun j => match j.1 with
        | .int i _ => (keysA kv.1).bind fun l => if (l.map (·.1)).Nodup then (l.lookup i).map fun v => (v, j.2) else Option.none
        | _ => Option.none
      else Option.none
    | .Subscript o i _ =>
      if notSlice i then (evA P n sc e σ o).bind fun a => (evA P n sc e a.2 i).bind fun b => (subA b.2 a.1 b.1).map fun v => (v, b.2) else Option.none
    | .Tuple es _ _ => if es.length ≤ 100 then (esA P n sc e σ es).map fun vs => (.tup vs.1, vs.2) else Option.none
    | .List es _ => if es.length ≤ 100 then (esA P n sc e σ es).map fun vs => (.lst vs.1, vs.2) else Option.none
    | .Call (.Name f _) as [] _ =>
      (nameA P sc e f).bind fun fv => (esA P n sc e σ as).bind fun vs =>
        if as.isEmpty then Option.none else
        match fv with
        | .ref a => caA P n a vs.1 vs.2
        | .bfn => match vs.1 with
          | [v] => (lenA vs.2 v).map fun r => (r, vs.2)
          | _ => Option.none
        | _ => Option.none
    | _ => Option.none
noncomputable def esA (P : Params) : Nat → Scope → List (Str × V) → CS → List PySem.Expr → Option (List V × CS)
  | 0, _, _, _, _ => Option.none
  | n + 1, sc, e, σ, xs => match xs with
    | [] => some ([], σ)
    | .Starred _ _ :: _ => Option.none
    | x :: r => (evA P n sc e σ x).bind fun a => (esA P n sc e a.2 r).map fun b => (a.1 :: b.1, b.2)
noncomputable def prA (P : Params) : Nat → Scope → List (Str × V) → CS → List (Option PySem.Expr) → List PySem.Expr → Option (List (V × V) × CS)
  | 0, _, _, _, _, _ => Option.none
  | n + 1, sc, e, σ, ks, vs => match ks, vs with
    | [], [] => some ([], σ)
    | some k :: ks, v :: vs => (evA P n sc e σ k).bind fun a => (evA P n sc e a.2 v).bind fun b => (prA P n sc e b.2 ks vs).map fun r => ((a.1, b.1) :: r.1, r.2)
    | _, _ => Option.none
noncomputable def tsA (P : Params) : Nat → Scope → List (Str × V) → CS → PySem.Expr → Option (Bool × CS)
  | 0, _, _, _, _ => Option.none
  | n + 1, sc, e, σ, x => match x with
    | .Compare l [op] [r] _ =>
      (evA P n sc e σ l).bind fun a => (evA P n sc e a.2 r).bind fun b => (cmpA op a.1 b.1).map fun c => (c, b.2)
    | .BoolOp .And [a, b] _ => (tsA P n sc e σ a).bind fun x => match x.1 with
      | true => tsA P n sc e x.2 b
      | false => some (false, x.2)
    | .BoolOp .Or [a, b] _ => (tsA P n sc e σ a).bind fun x => match x.1 with
      | true => some (true, x.2)
      | false => tsA P n sc e x.2 b
    | .Name id _ => (nameA P sc e id).bind fun v => (truthA v).map fun b => (b, σ)
    | .BinOp l op r p => (evA P n sc e σ (.BinOp l op r p)).bind fun a => (truthA a.1).map fun b => (b, a.2)
    | _ => Option.none
noncomputable def caA (P : Params) : Nat → Addr → List V → CS → Option (V × CS)
  | 0, _, _, _ => Option.none
  | n + 1, f, vs, σ => (funA P f).bind fun fd =>
      if plainFd fd && vs.length == fd.params.args.length then
        match fd.body with
        | .stmts b => (ssA P n fd.scope ((fd.params.args.map (·.arg)).zip vs) σ b).bind fun r => match r.1 with
          | .ret v => some (v, r.2.2)
          | .next => some (.none, r.2.2)
        | _ => Option.none
      else Option.none
noncomputable def stA (P : Params) : Nat → Scope → List (Str × V) → CS → Stmt → Option (Fl × List (Str × V) × CS)
  | 0, _, _, _, _ => Option.none
  | n + 1, sc, e, σ, x => match x with
    | .Return (some v) _ => (evA P n sc e σ v).map fun a => (.ret a.1, e, a.2)
    | .Expr v _ => if notComp v then (evA P n sc e σ v).map fun a => (.next, e, a.2) else Option.none
    | .If t b o _ => (tsA P n sc e σ t).bind fun c => match c.1 with
      | true => ssA P n sc e c.2 b
      | false => ssA P n sc e c.2 o
    | .Assign [.Name x _] v _ => if notComp v && sc.names.lookup x == some .local then (evA P n sc e σ v).map fun a => (.next, putA x a.1 e, a.2) else Option.none
    | .Assign [.Subscript o i _] v _ => if notComp v then
        (evA P n sc e σ v).bind fun a => (evA P n sc e a.2 o).bind fun b => (evA P n sc e b.2 i).bind fun c => (setA c.2 b.1 c.1 a.1).map fun s => (.next, e, s)
        else Option.none
    | .Assign [.Tuple ts _ _] v _ => if notComp v then
        (evA P n sc e σ v).bind fun a => match a.1 with
        | .tup vs => if ts.length == vs.length then (match swapA sc ts v with
          | some (some names) => if names.length == vs.length && names.all (fun x => sc.names.lookup x == some .local) then some (.next, (names.zip vs).foldr (fun p e => putA p.1 p.2 e) e, a.2) else Option.none
          | some Option.none => (tgA P n sc e a.2 ts vs).map fun r => (.next, r.1, r.2)
          | Option.none => Option.none) else Option.none
        | _ => Option.none
        else Option.none
    | .AugAssign (.Name x _) op v _ => if sc.names.lookup x == some .local then
        (e.lookup x).bind fun old => (evA P n sc e σ v).bind fun a => (match op with | .BitXor => binA .BitXor old a.1 | _ => Option.none).map fun r => (.next, putA x r e, a.2)
        else Option.none
    | .AugAssign (.Attribute (.Name o _) at_ _) .Add v _ =>
        (nameA P sc e o).bind fun ov => (attrA σ ov at_).bind fun old => (evA P n sc e σ v).bind fun a => match ov, old, a.1 with
          | .cpu, .int i Option.none, .int j _ => if at_ == ("states" : Str) then some (.next, e, { a.2 with st := i + j }) else Option.none
          | _, _, _ => Option.none
    | _ => Option.none
noncomputable def tgA (P : Params) : Nat → Scope → List (Str × V) → CS → List PySem.Expr → List V → Option (List (Str × V) × CS)
  | 0, _, _, _, _, _ => Option.none
  | n + 1, sc, e, σ, ts, vs => match ts, vs with
    | [], [] => some (e, σ)
    | .Name x _ :: r, v :: vs => if sc.names.lookup x == some .local then tgA P n sc (putA x v e) σ r vs else Option.none
    | .Subscript o i _ :: r, v :: vs => (evA P n sc e σ o).bind fun b => (evA P n sc e b.2 i).bind fun c => (setA c.2 b.1 c.1 v).bind fun s => tgA P n sc e s r vs
    | _, _ => Option.none
noncomputable def ssA (P : Params) : Nat → Scope → List (Str × V) → CS → List Stmt → Option (Fl × List (Str × V) × CS)
  | 0, _, _, _, _ => Option.none
  | n + 1, sc, e, σ, ss => match ss with
    | [] => some (.next, e, σ)
    | s :: r => (stA P n sc e σ s).bind fun a => match a.1 with
      | .next => ssA P n sc a.2.1 a.2.2 r
      | .ret v => some (.ret v, a.2.1, a.2.2)
end

noncomputable def runA (P : Params) (oct : Int) (σ : CS) : Option (V × CS) := caA P 60 344 [.cpu, .mem, .ref 0, .int oct (some (oct, oct))] σ
end
end Mine

namespace Mine
open PySem PySem.W PyProof.Rows

/-! ranges -/
noncomputable def InR (g : Rng) (i : Int) : Prop := match g with
  | some (lo, hi) => lo ≤ i ∧ i ≤ hi
  | none => True

theorem and_r {x y : Int} (hx : 0 ≤ x) : 0 ≤ Builtin.bitAnd x y ∧ Builtin.bitAnd x y ≤ x := by
  by_cases hy : 0 ≤ y
  · rw [bitAnd_pp hx hy]
    have := Nat.and_le_left (n := x.toNat) (m := y.toNat)
    omega
  · rw [bitAnd_pn hx hy]
    have := Nat.and_le_left (n := x.toNat) (m := (Builtin.bitNot y).toNat)
    omega
theorem and_r' {x y : Int} (hy : 0 ≤ y) : 0 ≤ Builtin.bitAnd x y ∧ Builtin.bitAnd x y ≤ y := by
  rw [bitAnd_comm]; exact and_r hy
theorem or_pp {x y : Int} (hx : 0 ≤ x) (hy : 0 ≤ y) : Builtin.bitOr x y = ((x.toNat ||| y.toNat : Nat) : Int) := by
  rw [bitOr_and, bitAnd_pp hx hy]
  have := nat_or_add_and x.toNat y.toNat
  omega
theorem top_lt {x m : Int} (h0 : 0 ≤ x) (h : x ≤ m) : x.toNat < 2 ^ (m.toNat.log2 + 1) :=
  Nat.lt_of_le_of_lt (by omega) (Nat.lt_log2_self (n := m.toNat))
theorem or_r {x y m : Int} (hx : 0 ≤ x) (hy : 0 ≤ y) (h1 : x ≤ m) (h2 : y ≤ m) : 0 ≤ Builtin.bitOr x y ∧ Builtin.bitOr x y ≤ topOf m := by
  rw [or_pp hx hy]
  have := Nat.or_lt_two_pow (top_lt hx h1) (top_lt hy h2)
  unfold topOf
  omega
theorem xor_r {x y m : Int} (hx : 0 ≤ x) (hy : 0 ≤ y) (h1 : x ≤ m) (h2 : y ≤ m) : 0 ≤ Builtin.bitXor x y ∧ Builtin.bitXor x y ≤ topOf m := by
  have a := or_r hx hy h1 h2
  have b := and_r (y := y) hx
  have c := and_r' (x := x) hy
  have d : Builtin.bitXor x y = Builtin.bitOr x y - Builtin.bitAnd x y := rfl
  have e := bitOr_and x y
  omega

theorem InR.add {g k : Rng} {a b : Int} (h1 : InR g a) (h2 : InR k b) : InR (Rng.add g k) (a + b) := by
  rcases g with _ | ⟨l, u⟩ <;> rcases k with _ | ⟨l', u'⟩ <;> simp only [Rng.add, InR] at * <;> omega
theorem InR.sub {g k : Rng} {a b : Int} (h1 : InR g a) (h2 : InR k b) : InR (Rng.sub g k) (a - b) := by
  rcases g with _ | ⟨l, u⟩ <;> rcases k with _ | ⟨l', u'⟩ <;> simp only [Rng.sub, InR] at * <;> omega
theorem InR.join {g k : Rng} {a b : Int} (c : Bool) (h1 : InR g a) (h2 : InR k b) : InR (Rng.join g k) (cond c a b) := by
  rcases g with _ | ⟨l, u⟩ <;> rcases k with _ | ⟨l', u'⟩ <;> cases c <;> simp only [Rng.join, InR, cond] at * <;> omega
theorem InR.one {f : Int → Int → Int} {g k r : Rng} {a b : Int} (h1 : InR g a) (h2 : InR k b) (h : InR r (f a b)) : InR (Rng.one f g k r) (f a b) := by
  rcases g with _ | ⟨l, u⟩ <;> rcases k with _ | ⟨l', u'⟩ <;> simp only [Rng.one] <;> try exact h
  split
  · rename_i q
    obtain ⟨rfl, rfl⟩ := q
    simp only [InR] at h1 h2 ⊢
    have e1 : l = a := by omega
    have e2 : l' = b := by omega
    subst e1 e2
    omega
  · exact h
theorem InR.ite {c : Prop} [Decidable c] {a b : Rng} {i : Int} (x : c → InR a i) (y : ¬ c → InR b i) : InR (if c then a else b) i := by
  split
  · exact x (by assumption)
  · exact y (by assumption)
theorem InR.and0 {g k : Rng} {a b : Int} (h1 : InR g a) (h2 : InR k b) : InR (Rng.and0 g k) (Builtin.bitAnd a b) := by
  have x1 : 0 ≤ a → 0 ≤ Builtin.bitAnd a b ∧ Builtin.bitAnd a b ≤ a := and_r
  have x2 : 0 ≤ b → 0 ≤ Builtin.bitAnd a b ∧ Builtin.bitAnd a b ≤ b := and_r'
  rcases g with _ | ⟨l, u⟩ <;> rcases k with _ | ⟨l', u'⟩ <;> simp only [InR] at h1 h2
  · trivial
  · refine InR.ite (fun q => ?_) fun _ => trivial
    have := x2 (by omega)
    show _ ∧ _
    omega
  · refine InR.ite (fun q => ?_) fun _ => trivial
    have := x1 (by omega)
    show _ ∧ _
    omega
  · refine InR.ite (fun q => InR.ite (fun q' => ?_) fun q' => ?_) fun q => InR.ite (fun q' => ?_) fun _ => trivial
    · have := x1 (by omega)
      have := x2 (by omega)
      show _ ∧ _
      omega
    · have := x2 (by omega)
      show _ ∧ _
      omega
    · have := x1 (by omega)
      show _ ∧ _
      omega
theorem InR.or0 {g k : Rng} {a b : Int} (h1 : InR g a) (h2 : InR k b) : InR (Rng.or0 g k) (Builtin.bitOr a b) := by
  rcases g with _ | ⟨l, u⟩ <;> rcases k with _ | ⟨l', u'⟩ <;> simp only [Rng.or0, InR] at h1 h2 ⊢
  by_cases q : 0 ≤ l ∧ 0 ≤ l'
  · rw [if_pos q]
    exact or_r (x := a) (y := b) (m := max u u') (by omega) (by omega) (by omega) (by omega)
  · rw [if_neg q]; trivial
theorem InR.xor0 {g k : Rng} {a b : Int} (h1 : InR g a) (h2 : InR k b) : InR (Rng.or0 g k) (Builtin.bitXor a b) := by
  rcases g with _ | ⟨l, u⟩ <;> rcases k with _ | ⟨l', u'⟩ <;> simp only [Rng.or0, InR] at h1 h2 ⊢
  by_cases q : 0 ≤ l ∧ 0 ≤ l'
  · rw [if_pos q]
    exact xor_r (x := a) (y := b) (m := max u u') (by omega) (by omega) (by omega) (by omega)
  · rw [if_neg q]; trivial
theorem InR.mul {g k : Rng} {a b : Int} (h1 : InR g a) (h2 : InR k b) : InR (Rng.mul g k) (a * b) := by
  rcases g with _ | ⟨l, u⟩ <;> rcases k with _ | ⟨l', u'⟩ <;> simp only [Rng.mul, InR] at h1 h2 ⊢
  by_cases q : l = u ∧ l' = u'
  · rw [if_pos q]
    obtain ⟨rfl, rfl⟩ := q
    have e1 : l = a := by omega
    have e2 : l' = b := by omega
    subst e1 e2
    exact ⟨Int.le_refl _, Int.le_refl _⟩
  · rw [if_neg q]; trivial
theorem fdiv_mono {a b c : Int} (hc : 0 < c) (h : a ≤ b) : a.fdiv c ≤ b.fdiv c := by
  rw [Int.fdiv_eq_ediv_of_nonneg _ (by omega), Int.fdiv_eq_ediv_of_nonneg _ (by omega)]
  exact Int.ediv_le_ediv hc h
theorem pow_pos' (k : Nat) : (0 : Int) < 2 ^ k := Int.pow_pos (by decide)

/-! the relation between my values and the model's -/
structure Wd where
  c : Addr
  d : Addr
  r : Addr
  k : Addr

/-- what may be changed: a cpu's parts, and more -/
structure Dm where
  cpu : Option Wd
  ext : List Addr
noncomputable def tch (D : Dm) : List Addr := match D.cpu with
  | none => []
  | some W => [W.d, W.r, W.k]
noncomputable def muts (D : Dm) : List Addr := tch D ++ D.ext
theorem tch_cpu {D : Dm} {W : Wd} (h : D.cpu = some W) : W.d ∈ tch D ∧ W.r ∈ tch D ∧ W.k ∈ tch D := by
  unfold tch
  rw [h]
  simp
theorem tch_muts {D : Dm} {a : Addr} (h : a ∈ tch D) : a ∈ muts D := List.mem_append_left _ h
theorem muts_ext {D : Dm} {a : Addr} (h : a ∈ D.ext) : a ∈ muts D := by
  unfold muts
  exact List.mem_append_right _ h
theorem some_keep {h h' : Heap} {a : Addr} (x : (h.get? a).isSome = true) (k : ∀ o, h.get? a = some o → h'.get? a = some o) : (h'.get? a).isSome = true := by
  obtain ⟨o, ho⟩ := Option.isSome_iff_exists.mp x
  rw [k o ho]; rfl
theorem muts_cpu {D : Dm} {W : Wd} (h : D.cpu = some W) : W.d ∈ muts D ∧ W.r ∈ muts D ∧ W.k ∈ muts D :=
  ⟨tch_muts (tch_cpu h).1, tch_muts (tch_cpu h).2.1, tch_muts (tch_cpu h).2.2⟩

noncomputable abbrev seqObj (T : String) (vs : List Value) (n : Nat) : Obj := { cls := .type T, dict := none, data := .seq vs.toArray n, slots := #[] }

mutual
noncomputable def VR (D : Dm) (h : Heap) : V → Value → Prop
  | .none, v => v = .none
  | .bool b, v => v = .bool b
  | .int i g, v => (∃ t, v = .int i t) ∧ InR g i
  | .str s, v => ∃ t, v = .str s t
  | .tup vs, v => ∃ a rvs n, v = .ref a ∧ a ∉ muts D ∧ h.get? a = some (seqObj "tuple" rvs n) ∧ VRs D h vs rvs
  | .lst vs, v => ∃ a rvs n, v = .ref a ∧ a ∉ muts D ∧ h.get? a = some (seqObj "list" rvs n) ∧ VRs D h vs rvs
  | .cpu, v => ∃ W, D.cpu = some W ∧ v = .ref W.c
  | .regs, v => ∃ W, D.cpu = some W ∧ v = .ref W.r
  | .mem, v => ∃ W, D.cpu = some W ∧ v = .ref W.k
  | .ref a, v => v = .ref a
  | .bfn, v => v = .builtin "len"
noncomputable def VRs (D : Dm) (h : Heap) : List V → List Value → Prop
  | [], rvs => rvs = []
  | v :: vs, rvs => ∃ rv r, rvs = rv :: r ∧ VR D h v rv ∧ VRs D h vs r
end

noncomputable def KB (as : List Addr) (h h' : Heap) : Prop := ∀ b o, b ∉ as → h.get? b = some o → h'.get? b = some o
theorem KB.refl (as : List Addr) (h : Heap) : KB as h h := fun _ _ _ e => e
theorem KB.trans {as : List Addr} {h h' h'' : Heap} (x : KB as h h') (y : KB as h' h'') : KB as h h'' := fun b o n e => y b o n (x b o n e)
theorem KB.mono {as bs : List Addr} {h h' : Heap} (x : KB as h h') (s : ∀ a ∈ as, a ∈ bs) : KB bs h h' := fun b o n e => x b o (fun q => n (s _ q)) e
theorem KB.push (h : Heap) (o : Obj) : KB [] h (h.push o) := fun _ _ _ e => Heap.get?_push_of_some _ e
theorem KB.of_same {L : Addr} {h h' : Heap} (x : Heap.SameBut L h h') : KB [L] h h' := fun b o n e => (x.2 b (fun q => n (by simp [q]))).trans e
theorem KB.of_nil {as : List Addr} {h h' : Heap} (x : KB [] h h') : KB as h h' := x.mono (fun _ q => nomatch q)

/-- sequences that no one changes stay -/
noncomputable def SeqKeep (D : Dm) (h h' : Heap) : Prop := ∀ a T rvs n, a ∉ muts D → h.get? a = some (seqObj T rvs n) → h'.get? a = some (seqObj T rvs n)

mutual
theorem VR.keeps {D : Dm} {h h' : Heap} (K : SeqKeep D h h') : ∀ (v : V) (rv : Value), VR D h v rv → VR D h' v rv
  | .none, _, x => by simp only [VR] at x ⊢; exact x
  | .bool _, _, x => by simp only [VR] at x ⊢; exact x
  | .int _ _, _, x => by simp only [VR] at x ⊢; exact x
  | .str _, _, x => by simp only [VR] at x ⊢; exact x
  | .tup vs, _, x => by
    simp only [VR] at x ⊢
    obtain ⟨a, rvs, n, e, na, g, r⟩ := x
    exact ⟨a, rvs, n, e, na, K _ _ _ _ na g, VRs.keeps K vs rvs r⟩
  | .lst vs, _, x => by
    simp only [VR] at x ⊢
    obtain ⟨a, rvs, n, e, na, g, r⟩ := x
    exact ⟨a, rvs, n, e, na, K _ _ _ _ na g, VRs.keeps K vs rvs r⟩
  | .cpu, _, x => by simp only [VR] at x ⊢; exact x
  | .regs, _, x => by simp only [VR] at x ⊢; exact x
  | .mem, _, x => by simp only [VR] at x ⊢; exact x
  | .ref _, _, x => by simp only [VR] at x ⊢; exact x
  | .bfn, _, x => by simp only [VR] at x ⊢; exact x
theorem VRs.keeps {D : Dm} {h h' : Heap} (K : SeqKeep D h h') : ∀ (vs : List V) (rvs : List Value), VRs D h vs rvs → VRs D h' vs rvs
  | [], _, x => by simp only [VRs] at x ⊢; exact x
  | v :: vs, _, x => by
    simp only [VRs] at x ⊢
    obtain ⟨rv, r, e, a, b⟩ := x
    exact ⟨rv, r, e, VR.keeps K v rv a, VRs.keeps K vs r b⟩
end
theorem KB.m {D : Dm} {h h' : Heap} (K : KB (tch D) h h') : KB (muts D) h h' := K.mono fun _ q => tch_muts q
theorem SeqKeep.of_KBm {D : Dm} {h h' : Heap} (K : KB (muts D) h h') : SeqKeep D h h' := fun a T rvs n na g => K a _ na g
theorem SeqKeep.of_KB {D : Dm} {h h' : Heap} (K : KB (tch D) h h') : SeqKeep D h h' := .of_KBm K.m
theorem SeqKeep.of_KBLm {D : Dm} {h h' : Heap} {L : Addr} {m : Str → Option Value} (N : h.Ns L m) (K : KB (L :: muts D) h h') : SeqKeep D h h' := fun a T rvs n na g => K a _ (fun q => by
  rcases List.mem_cons.mp q with rfl | q
  · obtain ⟨o, es, ep, ho, hd, _⟩ := N
    rw [g] at ho
    cases ho
    cases hd
  · exact na q) g

theorem SeqKeep.of_KBL {D : Dm} {h h' : Heap} {L : Addr} {m : Str → Option Value} (N : h.Ns L m) (K : KB (L :: tch D) h h') : SeqKeep D h h' := .of_KBLm N (K.mono fun a q => by
  rcases List.mem_cons.mp q with rfl | q
  · exact List.mem_cons_self
  · exact List.mem_cons_of_mem _ (tch_muts q))

/-! the state -/
structure LI (h : Heap) (a : Addr) (n : Nat) (xs : List Int) : Prop where
  len : xs.length = n
  byt : ∀ x ∈ xs, 0 ≤ x ∧ x ≤ 255
  at_ : ∃ vs, h.IsList a (List.toArray vs) ∧ IntsAre vs xs

structure Objs (W : Wd) (σ : CS) (h : Heap) : Prop where
  rk : W.r ≠ W.k
  inst : h.get? W.c = some (instObj 31 W.d)
  dict : ∃ es n, h.get? W.d = some (dictOf es n) ∧ getL "r" es = some (some (.ref W.r)) ∧ (∃ t, getL "states" es = some (some (.int σ.st t))) ∧ es.length ≤ 100
  regs : LI h W.r 8 σ.R
  mem : LI h W.k 64 σ.M

structure SR (g : Heap) (D : Dm) (σ : CS) (h : Heap) : Prop where
  keep : ∀ b o, g.get? b = some o → h.get? b = some o
  off : ∀ b ∈ muts D, g.get? b = none
  objs : ∀ W, D.cpu = some W → Objs W σ h
  ext : ∀ a ∈ D.ext, (h.get? a).isSome = true

structure Gd (w : World) (g : Heap) : Prop where
  X : (KF w.params).In g
  T : ∃ p loose mg mb, TopRead p loose mg mb g

/-- the name holds the value -/
noncomputable def Holds (D : Dm) (env : Env) (h : Heap) (m : Str → Option Value) (x : Str) (rv : Value) : Prop := match env.scope.names.lookup x with
  | some .local => m x = some rv
  | some .cell => ∃ c, env.cells.lookup x = some c ∧ h.IsCell c (some rv) ∧ c ∉ muts D
  | _ => False

structure Cx (w : World) (D : Dm) (g h : Heap) (env : Env) (e : List (Str × V)) (σ : CS) : Prop where
  gd : Gd w g
  sr : SR g D σ h
  off : g.get? env.locals = none
  nm : env.locals ∉ muts D
  inj : ∀ x y c, env.cells.lookup x = some c → env.cells.lookup y = some c → x = y
  ns : ∃ m, h.Ns env.locals m ∧ ∀ x v, e.lookup x = some v → ∃ rv, Holds D env h m x rv ∧ VR D h v rv

theorem LI.keep {h h' : Heap} {a : Addr} {n : Nat} {xs : List Int} (x : LI h a n xs) (k : ∀ o, h.get? a = some o → h'.get? a = some o) : LI h' a n xs := by
  obtain ⟨x1, x2, vs, ⟨o, ho, r⟩, x3⟩ := x
  exact ⟨x1, x2, vs, ⟨o, k o ho, r⟩, x3⟩
theorem Objs.cd {W : Wd} {σ : CS} {h : Heap} (x : Objs W σ h) : W.c ≠ W.d := by
  intro q
  have a := x.inst
  obtain ⟨es, n, b, _⟩ := x.dict
  rw [q, b] at a
  cases a
theorem Objs.cr {W : Wd} {σ : CS} {h : Heap} (x : Objs W σ h) : W.c ≠ W.r := by
  intro q
  have a := x.inst
  obtain ⟨_, _, vs, ⟨o, ho, hc, _⟩, _⟩ := x.regs
  rw [q, ho] at a
  cases a
  cases hc
theorem Objs.ck {W : Wd} {σ : CS} {h : Heap} (x : Objs W σ h) : W.c ≠ W.k := by
  intro q
  have a := x.inst
  obtain ⟨_, _, vs, ⟨o, ho, hc, _⟩, _⟩ := x.mem
  rw [q, ho] at a
  cases a
  cases hc
theorem Objs.dr {W : Wd} {σ : CS} {h : Heap} (x : Objs W σ h) : W.d ≠ W.r := by
  intro q
  obtain ⟨es, n, b, _⟩ := x.dict
  obtain ⟨_, _, vs, ⟨o, ho, hc, _⟩, _⟩ := x.regs
  rw [q, ho] at b
  cases b
  simp at hc
theorem Objs.dk {W : Wd} {σ : CS} {h : Heap} (x : Objs W σ h) : W.d ≠ W.k := by
  intro q
  obtain ⟨es, n, b, _⟩ := x.dict
  obtain ⟨_, _, vs, ⟨o, ho, hc, _⟩, _⟩ := x.mem
  rw [q, ho] at b
  cases b
  simp at hc
/-- nothing of the cpu's is touched -/
theorem SR.still {g h h' : Heap} {D : Dm} {σ : CS} {L : Addr} (x : SR g D σ h) (k : KB [L] h h') (off : g.get? L = none) (nm : L ∉ muts D) (nc : ∀ W, D.cpu = some W → L ≠ W.c) : SR g D σ h' := by
  have ne : ∀ b, b ≠ L → b ∉ [L] := fun b n q => n (by simpa using q)
  refine ⟨fun b o e => k b o (ne b ?_) (x.keep b o e), x.off, fun W hW => ?_, fun a ha => some_keep (x.ext a ha) fun o => k a o (ne a fun q => nm (q ▸ muts_ext ha))⟩
  · rintro rfl; rw [off] at e; cases e
  · have O := x.objs W hW
    have n1 : W.d ≠ L := fun q => nm (q ▸ (muts_cpu hW).1)
    have n2 : W.r ≠ L := fun q => nm (q ▸ (muts_cpu hW).2.1)
    have n3 : W.k ≠ L := fun q => nm (q ▸ (muts_cpu hW).2.2)
    obtain ⟨es, n, a, b⟩ := O.dict
    exact ⟨O.rk, k _ _ (ne _ (Ne.symm (nc W hW))) O.inst, ⟨es, n, k _ _ (ne _ n1) a, b⟩, O.regs.keep fun o => k _ _ (ne _ n2), O.mem.keep fun o => k _ _ (ne _ n3)⟩
theorem SR.grow {g h h' : Heap} {D : Dm} {σ : CS} (x : SR g D σ h) (k : KB [] h h') : SR g D σ h' := by
  have ne : ∀ b : Addr, b ∉ ([] : List Addr) := fun b q => nomatch q
  refine ⟨fun b o e => k b o (ne b) (x.keep b o e), x.off, fun W hW => ?_, fun a ha => some_keep (x.ext a ha) fun o => k a o (ne a)⟩
  have O := x.objs W hW
  obtain ⟨es, n, a, b⟩ := O.dict
  exact ⟨O.rk, k _ _ (ne _) O.inst, ⟨es, n, k _ _ (ne _) a, b⟩, O.regs.keep fun o => k _ _ (ne _), O.mem.keep fun o => k _ _ (ne _)⟩

theorem nsAt2 {h h' : Heap} {L : Addr} {m : Str → Option Value} (x : h.Ns L m) (k : ∀ o, h.get? L = some o → h'.get? L = some o) : h'.Ns L m := by
  obtain ⟨o, es, ep, ho, r⟩ := x
  exact ⟨o, es, ep, k o ho, r⟩

theorem Holds.keeps {D : Dm} {env : Env} {h h' : Heap} {m : Str → Option Value} {x : Str} {rv : Value} (H : Holds D env h m x rv) (k : ∀ c v, c ∉ muts D → h.IsCell c v → h'.IsCell c v) : Holds D env h' m x rv := by
  unfold Holds at H ⊢
  split at H
  · exact H
  · obtain ⟨c, a, b, n⟩ := H
    exact ⟨c, a, k _ _ n b, n⟩
  · exact H
theorem IsCell.kb {as : List Addr} {h h' : Heap} {c : Addr} {v : Option Value} (x : h.IsCell c v) (k : KB as h h') (n : c ∉ as) : h'.IsCell c v := by
  obtain ⟨o, a, b⟩ := x
  exact ⟨o, k _ _ n a, b⟩
theorem cell_ne_ns {h : Heap} {c L : Addr} {v : Option Value} {m : Str → Option Value} (x : h.IsCell c v) (N : h.Ns L m) : c ≠ L := by
  rintro rfl
  obtain ⟨o, a, b⟩ := x
  obtain ⟨o', es, ep, a', b', _⟩ := N
  rw [a] at a'
  cases a'
  rw [b] at b'
  cases b'

section
variable {w : World} {D : Dm} {g h h' : Heap} {env : Env} {e : List (Str × V)} {σ σ' : CS}
theorem Cx.nc (x : Cx w D g h env e σ) : ∀ W, D.cpu = some W → env.locals ≠ W.c := by
  intro W hW q
  obtain ⟨m, ⟨o, es, ep, ho, hd, _⟩, _⟩ := x.ns
  have O := (x.sr.objs W hW).inst
  rw [← q, ho] at O
  cases O
  cases hd
theorem Cx.mvm (x : Cx w D g h env e σ) (s : SR g D σ' h') (k : KB (muts D) h h') : Cx w D g h' env e σ' := by
  obtain ⟨m, N, hm⟩ := x.ns
  refine ⟨x.gd, s, x.off, x.nm, x.inj, m, nsAt2 N fun o => k _ _ x.nm, fun y v q => ?_⟩
  obtain ⟨rv, a, b⟩ := hm y v q
  exact ⟨rv, a.keeps fun c v n z => IsCell.kb z k n, VR.keeps (.of_KBm k) _ _ b⟩
theorem Cx.mv (x : Cx w D g h env e σ) (s : SR g D σ' h') (k : KB (tch D) h h') : Cx w D g h' env e σ' := x.mvm s k.m
theorem Cx.ext (x : Cx w D g h env e σ) (k : KB [] h h') : Cx w D g h' env e σ := x.mv (x.sr.grow k) k.of_nil
theorem Cx.store (x : Cx w D g h env e σ) {m : Str → Option Value} (N : h.Ns env.locals m) (hm : ∀ x v, e.lookup x = some v → ∃ rv, Holds D env h m x rv ∧ VR D h v rv)
    {y : Str} {v : V} {rv : Value} (hl : env.scope.names.lookup y = some .local) (r : VR D h v rv) (N' : h'.Ns env.locals (fun z => if z = y then some rv else m z)) (k : Heap.SameBut env.locals h h') : Cx w D g h' env (putA y v e) σ := by
  have kb : KB (env.locals :: muts D) h h' := (KB.of_same k).mono fun a q => by simp at q; simp [q]
  have sk : SeqKeep D h h' := .of_KBLm N kb
  refine ⟨x.gd, x.sr.still (KB.of_same k) x.off x.nm x.nc, x.off, x.nm, x.inj, _, N', fun z u q => ?_⟩
  unfold putA at q
  rw [List.lookup_cons] at q
  by_cases hz : z = y
  · subst hz
    simp only [beq_self_eq_true] at q
    cases q
    refine ⟨rv, ?_, VR.keeps sk _ _ r⟩
    unfold Holds
    rw [hl]
    exact if_pos rfl
  · have : (z == y) = false := by simpa using hz
    rw [this] at q
    obtain ⟨rv', a, b⟩ := hm z u q
    refine ⟨rv', ?_, VR.keeps sk _ _ b⟩
    have a' := a.keeps (h' := h') fun c v n q => by
      have ne := cell_ne_ns q N
      exact IsCell.kb q kb (by simp [ne, n])
    unfold Holds at a' ⊢
    split at a'
    · show (if z = y then _ else _) = _
      rw [if_neg hz]; exact a'
    · exact a'
    · exact a'
end
end Mine

namespace Mine
open PySem PySem.W PyProof.Rows

section
variable {prog : Program} {w : World} {A : Around} {E : Value → Shared → Prop} {s : Shared} {D : Dm} {h : Heap}

theorem vr_int {i : Int} {g : Rng} {t : Tok} (x : InR g i) : VR D h (.int i g) (.int i t) := by
  simp only [VR]; exact ⟨⟨t, rfl⟩, x⟩
theorem vr_str {x : Str} {t : Tok} : VR D h (.str x) (.str x t) := by simp only [VR]; exact ⟨t, rfl⟩

theorem binA_ok {op : Operator} {a b v : V} {ra rb : Value} {Q : Value → Shared → Prop} (e : binA op a b = some v) (ha : VR D h a ra) (hb : VR D h b rb)
    (k : ∀ rv tk, VR D h v rv → Q rv { s with toks := tk }) : wpAny (model prog w) A (binaryOp op ra rb) Q E s := by
  unfold binA at e
  split at e
  · rename_i x1 x2 i g j g'
    simp only [VR] at ha hb
    obtain ⟨⟨t, rfl⟩, r1⟩ := ha
    obtain ⟨⟨u, rfl⟩, r2⟩ := hb
    split at e
    · cases e; exact PyProof.Rows.add_int (k _ _ (vr_int (r1.add r2)))
    · cases e; exact PyProof.Rows.sub_int (k _ _ (vr_int (r1.sub r2)))
    · split at e
      · rename_i lo hi
        split at e
        · rename_i q
          cases e
          refine PyProof.Rows.mul_int (k _ _ (vr_int (r1.mul r2))) (IntMulOk.of_left (intBits_le_64 ?_ ?_))
          · simp only [InR] at r1; omega
          · simp only [InR] at r1; omega
        · cases e
      · cases e
    · cases e; exact PyProof.Rows.and_int (k _ _ (vr_int (InR.one r1 r2 (r1.and0 r2))))
    · cases e; exact PyProof.Rows.or_int (k _ _ (vr_int (InR.one r1 r2 (r1.or0 r2))))
    · cases e; exact PyProof.Rows.xor_int (k _ _ (vr_int (InR.one r1 r2 (r1.xor0 r2))))
    · split at e
      · rename_i lo hi c d
        split at e
        · rename_i q
          cases e
          simp only [InR] at r1 r2
          have ej : c = j := by omega
          subst ej
          refine PyProof.Rows.lshift_int_small (by omega) (by omega) (by omega) (k _ _ (vr_int ?_))
          have hp := pow_pos' c.toNat
          exact ⟨Int.mul_le_mul_of_nonneg_right r1.1 (Int.le_of_lt hp), Int.mul_le_mul_of_nonneg_right r1.2 (Int.le_of_lt hp)⟩
        · cases e
      · cases e
    · split at e
      · rename_i lo hi c d
        split at e
        · rename_i q
          cases e
          simp only [InR] at r1 r2
          have ej : c = j := by omega
          subst ej
          refine PyProof.Rows.rshift_int (by omega) (k _ _ (vr_int ?_))
          have hp := pow_pos' c.toNat
          exact ⟨fdiv_mono hp r1.1, fdiv_mono hp r1.2⟩
        · cases e
      · cases e
    · split at e
      · rename_i c d
        split at e
        · rename_i q
          cases e
          simp only [InR] at r2
          refine PyProof.Rows.mod_int' (by omega) (k _ _ (vr_int ?_))
          have h1 := Int.fmod_nonneg_of_pos i (b := j) (by omega)
          have h2 := Int.fmod_lt_of_pos i (b := j) (by omega)
          exact ⟨h1, by omega⟩
        · cases e
      · cases e
    · split at e
      · rename_i c d
        split at e
        · rename_i q
          cases e
          simp only [InR] at r2
          exact PyProof.Rows.floordiv_int (by omega) (k _ _ (vr_int trivial)) (.inl (PyProof.noPylong_small (by omega)))
        · cases e
      · cases e
    · cases e
  · rename_i x1 x2 x y
    simp only [VR] at ha hb
    obtain ⟨t, rfl⟩ := ha
    obtain ⟨u, rfl⟩ := hb
    split at e
    · split at e
      · rename_i q
        cases e
        exact PyProof.Rows.add_str (fun t' tk => k _ _ vr_str) (by rw [sizeLine_eq]; omega)
      · cases e
    · cases e
  · cases e

theorem unA_ok {op : UnaryOp} {a v : V} {ra : Value} {Q : Value → Shared → Prop} (e : unA op a = some v) (ha : VR D h a ra)
    (k : ∀ rv tk, VR D h v rv → Q rv { s with toks := tk }) : wpAny (model prog w) A (unaryOp op ra) Q E s := by
  unfold unA at e
  split at e
  · cases e
    simp only [VR] at ha
    obtain ⟨⟨t, rfl⟩, r⟩ := ha
    refine PyProof.Rows.invert_int (k _ _ (vr_int ?_))
    simp only [InR] at r ⊢
    unfold Builtin.bitNot
    omega
  · cases e
    simp only [VR] at ha
    obtain ⟨⟨t, rfl⟩, r⟩ := ha
    refine PyProof.Rows.neg_int (k _ _ (vr_int ?_))
    simp only [InR] at r ⊢
    omega
  · cases e

theorem truthA_ok {a : V} {b : Bool} {ra : Value} {Q : Bool → Shared → Prop} (e : truthA a = some b) (ha : VR D h a ra) (k : Q b s) : wpAny (model prog w) A (truthy ra) Q E s := by
  unfold truthA at e
  split at e
  · cases e
    simp only [VR] at ha
    subst ha
    exact wpAny_truthy_bool k
  · cases e
    simp only [VR] at ha
    obtain ⟨⟨t, rfl⟩, r⟩ := ha
    exact PyProof.Rows.truthy_int k
  · cases e

noncomputable def valI (a : Int) (v : Value) : Bool := match v with
  | .int i _ => i == a
  | _ => false
theorem intsA_ok : ∀ {vs : List V} {l : List Int} {rvs : List Value}, intsA vs = some l → VRs D h vs rvs → (∀ y ∈ rvs, ∃ i t, y = Value.int i t) ∧ ∀ a, rvs.any (valI a) = l.any (fun i => i == a)
  | [], l, rvs, e, x => by
    simp only [VRs] at x
    subst x
    cases e
    exact ⟨(fun _ q => nomatch q), fun _ => rfl⟩
  | .int i g :: vs, l, rvs, e, x => by
    simp only [VRs] at x
    obtain ⟨rv, r, rfl, hx, hr⟩ := x
    simp only [VR] at hx
    obtain ⟨⟨t, rfl⟩, _⟩ := hx
    simp only [intsA, Option.map_eq_some_iff] at e
    obtain ⟨l', e', rfl⟩ := e
    obtain ⟨a, b⟩ := intsA_ok e' hr
    refine ⟨fun y hy => ?_, fun c => ?_⟩
    · rcases List.mem_cons.mp hy with rfl | hy
      · exact ⟨_, _, rfl⟩
      · exact a y hy
    · simp only [List.any_cons, valI, b c]

theorem cmpA_ok {op : CmpOp} {a b : V} {c : Bool} {ra rb : Value} {Q : Value → Shared → Prop} (e : cmpA op a b = some c) (ha : VR D h a ra) (hb : VR D h b rb) (hh : s.heap = h)
    (k : ∀ tk, Q (.bool c) { s with toks := tk }) : wpAny (model prog w) A (compareOp op ra rb) Q E s := by
  have k0 : Q (.bool c) s := k s.toks
  unfold cmpA at e
  split at e
  · simp only [VR] at ha hb
    obtain ⟨⟨t, rfl⟩, r1⟩ := ha
    obtain ⟨⟨u, rfl⟩, r2⟩ := hb
    split at e
    · cases e; exact PyProof.Rows.eq_int k0
    · cases e; exact PyProof.Rows.ne_int k0
    · cases e; exact PyProof.Rows.lt_int k0
    · cases e; exact PyProof.Rows.gt_int k0
    · cases e
  · simp only [VR] at ha hb
    obtain ⟨⟨t, rfl⟩, r1⟩ := ha
    obtain ⟨l, rvs, n, rfl, na, hl, hvs⟩ := hb
    split at e
    · rename_i i _ _ _
      simp only [Option.map_eq_some_iff] at e
      obtain ⟨xs, e', rfl⟩ := e
      obtain ⟨p, q⟩ := intsA_ok e' hvs
      refine PySem.SeqRoads2.in_tuple (valI i) (fun y hy => ?_) (by rw [hh]; exact hl) ?_
      · obtain ⟨j, u, rfl⟩ := p y (by simpa using hy)
        exact PySem.MeetsSeq.EqGives.int _ _ _ _
      · have : rvs.toArray.any (valI i) = rvs.any (valI i) := by simp
        rw [this, q]
        exact k0
    · cases e
  · cases e

theorem LI.item {h : Heap} {a : Addr} {n : Nat} {xs : List Int} (x : LI h a n xs) {k : Nat} (hk : k < n) : ∃ (vs : Array Value) (t : Tok), h.IsList a vs ∧ vs[k]? = some (.int (xs.getD k 0) t) ∧ vs.size = n := by
  obtain ⟨x1, x2, vs, x3, x4⟩ := x
  have go : ∀ {vs : List Value} {xs : List Int}, IntsAre vs xs → ∀ k, k < xs.length → ∃ t, vs[k]? = some (.int (xs.getD k 0) t) := by
    intro vs xs I
    induction I with
    | nil => intro k hk; exact absurd hk (Nat.not_lt_zero _)
    | cons i t _ ih =>
      intro k hk
      cases k with
      | zero => exact ⟨t, rfl⟩
      | succ k =>
        obtain ⟨u, hu⟩ := ih k (by simpa using hk)
        exact ⟨u, by simpa using hu⟩
  obtain ⟨t, ht⟩ := go x4 k (by omega)
  exact ⟨vs.toArray, t, x3, by simpa using ht, by have := IntsAre.length x4; simp; omega⟩
theorem getD_byte {xs : List Int} (b : ∀ x ∈ xs, 0 ≤ x ∧ x ≤ 255) (k : Nat) : 0 ≤ xs.getD k 0 ∧ xs.getD k 0 ≤ 255 := by
  rw [List.getD_eq_getElem?_getD]
  cases q : xs[k]? with
  | none => exact ⟨by decide, by decide⟩
  | some x => exact b x (List.mem_of_getElem? q)

theorem inA_ok {g : Rng} {n i : Int} (e : inA g n = true) (r : InR g i) : 0 ≤ i ∧ i < n := by
  unfold inA at e
  split at e
  · simp only [InR] at r
    simp only [Bool.and_eq_true, decide_eq_true_eq] at e
    omega
  · cases e
theorem VRs.get {vs : List V} : ∀ {rvs : List Value}, VRs D h vs rvs → rvs.length = vs.length ∧ ∀ (k : Nat) v, vs[k]? = some v → ∃ rv, rvs[k]? = some rv ∧ VR D h v rv := by
  induction vs with
  | nil => intro rvs x; simp only [VRs] at x; subst x; exact ⟨rfl, fun k v q => by simp at q⟩
  | cons u us ih =>
    intro rvs x
    simp only [VRs] at x
    obtain ⟨rv, r, rfl, a, b⟩ := x
    obtain ⟨c, d⟩ := ih b
    refine ⟨by simp [c], fun k v q => ?_⟩
    cases k with
    | zero => cases q; exact ⟨rv, rfl, a⟩
    | succ k => exact d k v (by simpa using q)
end
end Mine

namespace Mine
open PySem PySem.W PySem.Calls PyProof.Rows

/-! facts of the top, by the kernel -/
theorem k_hasDict (P : Params) : hasDictIn (KF P) 31 = true := by kernel_rfl
theorem k_ga (P : Params) : findIn (KF P) (.ref 31) "__getattribute__" = some (some (.builtin "object.__getattribute__")) := by kernel_rfl
theorem k_sa (P : Params) : findIn (KF P) (.ref 31) "__setattr__" = some (some (.builtin "object.__setattr__")) := by kernel_rfl
theorem k_r (P : Params) : findIn (KF P) (.ref 31) "r" = some none := by kernel_rfl
theorem k_st (P : Params) : findIn (KF P) (.ref 31) "states" = some none := by kernel_rfl
theorem k_over (P : Params) : plainOver (KF P) 31 = true := by kernel_rfl
theorem k_taker (P : Params) : takerIn (KF P) 31 "states" = some none := by kernel_rfl

section
variable {prog : Program} {w : World} {A : Around} {E : Value → Shared → Prop} {s : Shared} {D : Dm} {g : Heap} {σ σ' : CS}

theorem subscripted_of {slice : PySem.Expr} (h : notSlice slice = true) (o i : Value) : subscripted slice false o i = operate [o, i] (getItem o i) := by
  cases slice <;> first | rfl | (simp [notSlice] at h)

theorem seq_list {h : Heap} {a : Addr} {rvs : List Value} {n : Nat} (x : h.get? a = some (seqObj "list" rvs n)) : h.IsList a rvs.toArray := ⟨_, x, rfl, n, rfl⟩
theorem seq_tup {h : Heap} {a : Addr} {rvs : List Value} {n : Nat} (x : h.get? a = some (seqObj "tuple" rvs n)) : PyProof.Rows.IsTup h a rvs.toArray := ⟨_, x, rfl, n, rfl⟩
theorem nat_lt_of {k : Int} {n : Nat} (h : 0 ≤ k ∧ k < (n : Int)) : k.toNat < n := by omega
theorem seqIndex_of {k : Int} {n : Nat} (h : 0 ≤ k ∧ k < (n : Int)) : seqIndex? k n = some k.toNat := by
  unfold seqIndex?
  have : ¬ k < 0 := by omega
  simp [this, h.1, h.2]

theorem subA_ok {value slice : PySem.Expr} {o i v : V} {ro ri : Value} {Q : Value → Shared → Prop} (hs : notSlice slice = true) (e : subA σ o i = some v) (ho : VR D s.heap o ro) (hi : VR D s.heap i ri) (S : SR g D σ s.heap)
    (k : ∀ rv tk, VR D s.heap v rv → Q rv { s with toks := tk }) : wpAny (model prog w) A (subscriptTail value slice ro ri) Q E s := by
  unfold subA at e
  split at e
  · rename_i j r
    simp only [VR] at ho hi
    obtain ⟨W, hW, rfl⟩ := ho
    obtain ⟨⟨t, rfl⟩, hr⟩ := hi
    split at e
    · rename_i q
      cases e
      have b := inA_ok q hr
      have O := S.objs W hW
      obtain ⟨vs, u, hl, hx, hn⟩ := O.regs.item (k := j.toNat) (by omega)
      exact tail_any hl.typeIs slot_list_getitem.lookup (wpAny_getItem_list hl b.1 (by omega) hx (k _ _ (vr_int (getD_byte O.regs.byt _)))) (subscripted_of hs _ _)
    · cases e
  · rename_i j r
    simp only [VR] at ho hi
    obtain ⟨W, hW, rfl⟩ := ho
    obtain ⟨⟨t, rfl⟩, hr⟩ := hi
    split at e
    · rename_i q
      cases e
      have b := inA_ok q hr
      have O := S.objs W hW
      obtain ⟨vs, u, hl, hx, hn⟩ := O.mem.item (k := j.toNat) (by omega)
      exact tail_any hl.typeIs slot_list_getitem.lookup (wpAny_getItem_list hl b.1 (by omega) hx (k _ _ (vr_int (getD_byte O.mem.byt _)))) (subscripted_of hs _ _)
    · cases e
  · rename_i vs j r
    simp only [VR] at ho hi
    obtain ⟨a, rvs, n, rfl, na, ha, hvs⟩ := ho
    obtain ⟨⟨t, rfl⟩, hr⟩ := hi
    split at e
    · rename_i q
      simp only [Bool.and_eq_true, decide_eq_true_eq] at q
      have b := inA_ok q.1 hr
      obtain ⟨hlen, hget⟩ := VRs.get hvs
      obtain ⟨rv, hx, hv⟩ := hget _ _ e
      exact item_tupleT (seq_tup ha) (by omega) (by omega) (seqIndex_of (by rw [hlen]; exact b)) hx (k _ _ hv) (subscripted_of hs _ _)
    · cases e
  · rename_i vs j r
    simp only [VR] at ho hi
    obtain ⟨a, rvs, n, rfl, na, ha, hvs⟩ := ho
    obtain ⟨⟨t, rfl⟩, hr⟩ := hi
    split at e
    · rename_i q
      simp only [Bool.and_eq_true, decide_eq_true_eq] at q
      have b := inA_ok q.1 hr
      obtain ⟨hlen, hget⟩ := VRs.get hvs
      obtain ⟨rv, hx, hv⟩ := hget _ _ e
      have hl := seq_list ha
      exact tail_any hl.typeIs slot_list_getitem.lookup (wpAny_getItem_list hl b.1 (by omega) (by simpa using hx) (k _ _ hv)) (subscripted_of hs _ _)
    · cases e
  · rename_i x j r
    simp only [VR] at ho hi
    obtain ⟨u, rfl⟩ := ho
    obtain ⟨⟨t, rfl⟩, hr⟩ := hi
    split at e
    · rename_i q
      simp only [Bool.and_eq_true, decide_eq_true_eq] at q
      have b := inA_ok q.1 hr
      simp only [Option.map_eq_some_iff] at e
      obtain ⟨c, hc, rfl⟩ := e
      refine tail_any (typeIs_str _ _ _) PySem.F.slot_str_getitem.lookup (PyProof.Rows.getItem_str (c := c) ?_ ?_ (k _ _ vr_str)) (subscripted_of hs _ _)
      · rw [Bool.or_eq_false_iff]; exact ⟨decide_eq_false (by omega), decide_eq_false (by omega)⟩
      · rw [seqIndex_of b]; exact hc
    · cases e
  · cases e

theorem intsSet : ∀ {vs : List Value} {xs : List Int}, IntsAre vs xs → ∀ (k : Nat) (i : Int) (t : Tok), IntsAre (vs.set k (.int i t)) (xs.set k i)
  | _, _, .nil, k, i, t => .nil
  | _, _, .cons n u r, 0, i, t => .cons i t r
  | _, _, .cons n u r, k + 1, i, t => .cons n u (intsSet r k i t)
theorem LI.put {h h' : Heap} {a : Addr} {n : Nat} {xs : List Int} (x : LI h a n xs) {k : Nat} {i : Int} {t : Tok} (hi : 0 ≤ i ∧ i ≤ 255) {vs : List Value} (hv : IntsAre vs xs) (hl : h'.IsList a (vs.toArray.setIfInBounds k (.int i t))) : LI h' a n (xs.set k i) := by
  refine ⟨by simp [x.len], fun y hy => ?_, vs.set k (.int i t), ?_, intsSet hv k i t⟩
  · rcases List.mem_or_eq_of_mem_set hy with hy | rfl
    · exact x.byt y hy
    · exact hi
  · simpa using hl

theorem some_same {h h' : Heap} {l a : Addr} {items : Array Value} (hs : Heap.SameBut l h h') (x : (h.get? a).isSome = true) (hl : h'.IsList l items) : (h'.get? a).isSome = true := by
  by_cases q : a = l
  · obtain ⟨o, ho, _⟩ := hl
    rw [q, ho]; rfl
  · rw [hs.2 a q]; exact x
theorem setA_ok {o i v : V} {ro ri rv : Value} {Q : Unit → Shared → Prop} (e : setA σ o i v = some σ') (ho : VR D s.heap o ro) (hi : VR D s.heap i ri) (hv : VR D s.heap v rv) (S : SR g D σ s.heap)
    (k : ∀ h' tk, SR g D σ' h' → KB (tch D) s.heap h' → Q () { s with heap := h', toks := tk }) : wpAny (model prog w) A (setItem ro ri rv) Q E s := by
  unfold setA at e
  split at e
  · rename_i j r x rx
    simp only [VR] at ho hi hv
    obtain ⟨W, hW, rfl⟩ := ho
    obtain ⟨⟨t, rfl⟩, hr⟩ := hi
    obtain ⟨⟨u, rfl⟩, hx⟩ := hv
    split at e
    · rename_i q
      cases e
      simp only [Bool.and_eq_true] at q
      have b := inA_ok q.1 hr
      have c := inA_ok q.2 hx
      have O := S.objs W hW
      obtain ⟨z1, z2, vs, hl, hI⟩ := O.regs
      have hn : vs.length = 8 := by have := IntsAre.length hI; omega
      refine wpAny_setItem_list hl b.1 (by omega) (by simp; omega) fun h' hl' hs => ?_
      have kb : KB (tch D) s.heap h' := (KB.of_same hs).mono fun a q => by simp at q; rw [q]; exact (tch_cpu hW).2.1
      refine k h' s.toks ⟨fun b o e => ?_, S.off, fun W' hW' => ?_, fun a ha => some_same hs (S.ext a ha) hl'⟩ kb
      · refine (hs.2 b ?_).trans (S.keep b o e)
        rintro rfl
        have := S.off W.r (muts_cpu hW).2.1
        rw [this] at e; cases e
      · cases hW.symm.trans hW'
        obtain ⟨es, n, y1, y2⟩ := O.dict
        exact ⟨O.rk, (hs.2 _ O.cr).trans O.inst, ⟨es, n, (hs.2 _ O.dr).trans y1, y2⟩, O.regs.put ⟨c.1, by omega⟩ hI hl', O.mem.keep fun o e => (hs.2 _ (Ne.symm O.rk)).trans e⟩
    · cases e
  · rename_i j r x rx
    simp only [VR] at ho hi hv
    obtain ⟨W, hW, rfl⟩ := ho
    obtain ⟨⟨t, rfl⟩, hr⟩ := hi
    obtain ⟨⟨u, rfl⟩, hx⟩ := hv
    split at e
    · rename_i q
      cases e
      simp only [Bool.and_eq_true] at q
      have b := inA_ok q.1 hr
      have c := inA_ok q.2 hx
      have O := S.objs W hW
      obtain ⟨z1, z2, vs, hl, hI⟩ := O.mem
      have hn : vs.length = 64 := by have := IntsAre.length hI; omega
      refine wpAny_setItem_list hl b.1 (by omega) (by simp; omega) fun h' hl' hs => ?_
      have kb : KB (tch D) s.heap h' := (KB.of_same hs).mono fun a q => by simp at q; rw [q]; exact (tch_cpu hW).2.2
      refine k h' s.toks ⟨fun b o e => ?_, S.off, fun W' hW' => ?_, fun a ha => some_same hs (S.ext a ha) hl'⟩ kb
      · refine (hs.2 b ?_).trans (S.keep b o e)
        rintro rfl
        have := S.off W.k (muts_cpu hW).2.2
        rw [this] at e; cases e
      · cases hW.symm.trans hW'
        obtain ⟨es, n, y1, y2⟩ := O.dict
        exact ⟨O.rk, (hs.2 _ O.ck).trans O.inst, ⟨es, n, (hs.2 _ O.dk).trans y1, y2⟩, O.regs.keep fun o e => (hs.2 _ O.rk).trans e, O.mem.put ⟨c.1, by omega⟩ hI hl'⟩
    · cases e
  · cases e

theorem Gd.In (G : Gd w g) (S : SR g D σ s.heap) : (KF w.params).In s.heap := G.X.keeps S.keep

theorem attrA_ok {o v : V} {a : Str} {ro : Value} {expr : Bool} {Q : Value → Shared → Prop} (e : attrA σ o a = some v) (ho : VR D s.heap o ro) (G : Gd w g) (S : SR g D σ s.heap)
    (k : ∀ rv tk, VR D s.heap v rv → Q rv { s with toks := tk }) : wpAny (model prog w) A (getAttr ro a expr) Q E s := by
  unfold attrA at e
  split at e
  · simp only [VR] at ho
    obtain ⟨W, hW, rfl⟩ := ho
    have O := S.objs W hW
    obtain ⟨es, n, y1, y2, ⟨t, y3⟩, y4⟩ := O.dict
    have I : PySem.W.InstAt s.heap W.c (instObj 31 W.d) 31 (some (dictOf es n)) := ⟨O.inst, rfl, rfl, y1⟩
    split at e
    · rename_i q
      cases e
      rw [beq_iff_eq.mp q]
      exact get_value (G.In S) I (k_ga _) (findObj_own (k_hasDict _) (k_r _) rfl ((lookIn_dict _ _ _).trans y2)) rfl (k _ _ (by simp only [VR]; exact ⟨W, hW, rfl⟩))
    · split at e
      · rename_i q
        cases e
        rw [beq_iff_eq.mp q]
        exact get_value (G.In S) I (k_ga _) (findObj_own (k_hasDict _) (k_st _) rfl ((lookIn_dict _ _ _).trans y3)) rfl (k _ _ (by simp only [VR]; exact ⟨⟨_, rfl⟩, trivial⟩))
      · cases e
  · cases e

/-! a field stored -/
noncomputable def hasL (name : Str) (es : List DictEntry) : Bool := es.any (·.key.isStr name)
theorem getL_some {name : Str} {es : List DictEntry} {x : Value} (h : getL name es = some (some x)) : hasL name es = true := by
  unfold getL at h
  split at h
  · rename_i e q
    exact List.any_eq_true.mpr ⟨e, List.mem_of_find?_eq_some q, by simpa using List.find?_some q⟩
  · split at h <;> cases h
theorem put_keys {name : Str} {hsh : Int} {key v : Value} : ∀ {es : List DictEntry}, hasL name es = true → (putL name hsh key v es).map (·.key) = es.map (·.key)
  | [], h => by simp [hasL] at h
  | e :: r, h => by
    unfold putL
    split
    · rfl
    · rename_i q
      have : hasL name r = true := by simpa [hasL, q] using h
      rw [List.map_cons, List.map_cons, put_keys this]
theorem put_find_self {name : Str} {hsh : Int} {key v : Value} : ∀ {es : List DictEntry}, hasL name es = true → ∃ e, (putL name hsh key v es).find? (·.key.isStr name) = some e ∧ e.val = v
  | [], h => by simp [hasL] at h
  | e :: r, h => by
    unfold putL
    split
    · rename_i q
      refine ⟨⟨e.hash, e.key, v⟩, ?_, rfl⟩
      rw [List.find?_cons]; simp only [q]
    · rename_i q
      have : hasL name r = true := by simpa [hasL, q] using h
      obtain ⟨e', a, b⟩ := put_find_self (hsh := hsh) (key := key) (v := v) this
      exact ⟨e', by rw [List.find?_cons]; simp only [q]; exact a, b⟩
theorem put_find_ne {name name' : Str} {hsh : Int} {key v : Value} (ne : name' ≠ name) : ∀ {es : List DictEntry}, hasL name es = true → ((putL name hsh key v es).find? (·.key.isStr name')).map (·.val) = (es.find? (·.key.isStr name')).map (·.val)
  | [], h => by simp [hasL] at h
  | e :: r, h => by
    unfold putL
    split
    · rename_i q
      have q' : e.key.isStr name' = false := by
        cases z : e.key.isStr name' with
        | false => rfl
        | true => exact absurd (Value.isStr_inj _ _ _ z q) ne
      simp only [List.find?_cons, q']
    · rename_i q
      have : hasL name r = true := by simpa [hasL, q] using h
      simp only [List.find?_cons]
      cases z : e.key.isStr name' with
      | true => rfl
      | false => exact put_find_ne ne this
theorem any_ref_of_keys : ∀ {es es' : List DictEntry}, es.map (·.key) = es'.map (·.key) → es.any (·.refKey) = es'.any (·.refKey)
  | [], [], _ => rfl
  | [], _ :: _, h => by simp at h
  | _ :: _, [], h => by simp at h
  | e :: r, e' :: r', h => by
    simp only [List.map_cons, List.cons.injEq] at h
    rw [List.any_cons, List.any_cons, any_ref_of_keys h.2]
    congr 1
    simp only [DictEntry.refKey, h.1]
theorem getL_self {name : Str} {hsh : Int} {key v : Value} {es : List DictEntry} (h : hasL name es = true) : getL name (putL name hsh key v es) = some (some v) := by
  obtain ⟨e, a, b⟩ := put_find_self (hsh := hsh) (key := key) (v := v) h
  unfold getL
  rw [a]
  show some (some e.val) = _
  rw [b]
theorem getL_other {name name' : Str} {hsh : Int} {key v x : Value} {es : List DictEntry} (ne : name' ≠ name) (h : hasL name es = true) (q : getL name' es = some (some x)) : getL name' (putL name hsh key v es) = some (some x) := by
  have f := put_find_ne (hsh := hsh) (key := key) (v := v) ne h
  unfold getL at q ⊢
  split at q
  · rename_i e he
    rw [he] at f
    simp only [Option.map_some, Option.map_eq_some_iff] at f
    obtain ⟨e', a, b⟩ := f
    rw [a]
    simp only at q ⊢
    rw [b]; exact q
  · split at q <;> cases q

theorem setSt_ok {W : Wd} {x : Int} {t : Tok} {Q : Unit → Shared → Prop} (hW : D.cpu = some W) (G : Gd w g) (S : SR g D σ s.heap)
    (k : ∀ h' tk, SR g D { σ with st := x } h' → KB (tch D) s.heap h' → Q () { s with heap := h', toks := tk }) : wpAny (model prog w) A (setAttr (.ref W.c) "states" (.int x t)) Q E s := by
  have O := S.objs W hW
  obtain ⟨es, n, y1, y2, ⟨t', y3⟩, y4⟩ := O.dict
  have I : PySem.W.InstAt s.heap W.c (instObj 31 W.d) 31 (some (dictOf es n)) := ⟨O.inst, rfl, rfl, y1⟩
  have X := G.In S
  have hh := getL_some y3
  obtain ⟨cd, hc, hd⟩ := any_some (k_hasDict w.params)
  refine set_plain X I (k_sa _) (osa_open (s := { s with toks := s.toks + 1 }) X I (k_over _) (k_taker _) fun b => ?_)
  have LC : Looks (model prog w) s.heap (classData 31) cd := looks_clsIn X hc
  have e1 : Obj.putName "states" (PyData.keyHash w.params "states") (.str "states" (s.toks + 1)) (.int x t) (dictOf es n) = dictOf (putL "states" (PyData.keyHash w.params "states") (.str "states" (s.toks + 1)) (.int x t) es) n := by
    rw [putName_dict]
    have : putN "states" es n = n := by unfold putN; exact if_pos hh
    rw [this]
  have len : (putL "states" (PyData.keyHash w.params "states") (.str "states" (s.toks + 1)) (.int x t) es).length = es.length := by
    have := congrArg List.length (put_keys (hsh := PyData.keyHash w.params "states") (key := .str "states" (s.toks + 1)) (v := .int x t) hh)
    simpa using this
  have hx := O.inst
  have len2 := Nat.le_trans (Nat.le_of_eq len) y4
  obtain ⟨hh', gg, dd, tk, os⟩ := s
  dsimp only at LC hx y1
  repeat lk
  simp only [hd, Bool.not_true, Bool.false_eq_true, if_false]
  repeat lk
  have ar : aRefKeyMayBeTheName (Str.ofString "states") es.toArray = false := by
    rw [aRefKeyMayBeTheName_at, ← Array.any_toList, show (es.toArray.toList.any fun x => x.key.isStr (Str.ofString "states")) = true from hh]
    rfl
  rw [ar]
  simp only [Bool.false_eq_true, if_false]
  refine wpAny_updatePart y1 ?_
  have e2 : Obj.putName (Str.ofString "states") (if (Str.ofString "states").cps.isEmpty = true then 0 else reduceHash ((model prog w).w.params.strHash (Str.ofString "states").cps)) (Value.str (Str.ofString "states") (tk + 1)) (Value.int x t) (dictOf es n) = _ := e1
  generalize Obj.putName (Str.ofString "states") (if (Str.ofString "states").cps.isEmpty = true then 0 else reduceHash ((model prog w).w.params.strHash (Str.ofString "states").cps)) (Value.str (Str.ofString "states") (tk + 1)) (Value.int x t) = f at e2 ⊢
  have D' : (hh'.update W.d f).get? W.d = some (f (dictOf es n)) := Heap.get?_update_self f y1 (by rw [e2]; rfl)
  rw [e2] at D'
  have sb := Heap.SameBut.update hh' W.d f
  refine wpAny_bind (wpAny_lookBehind D' (pastItsLine_dict (by rw [List.size_toArray, sizeLine_eq]; exact Nat.le_trans len2 (by decide))) ?_)
  refine wpAny_pure (k _ _ ⟨fun b o e => (sb.2 b ?_).trans (S.keep b o e), S.off, fun W' hW' => ?_, fun a ha => ?_⟩ ((KB.of_same sb).mono fun a q => by simp at q; rw [q]; exact (tch_cpu hW).1))
  · rintro rfl
    have := S.off W.d (muts_cpu hW).1
    rw [this] at e; cases e
  · cases hW.symm.trans hW'
    refine ⟨O.rk, (sb.2 _ O.cd).trans O.inst, ⟨_, n, D', getL_other (by decide) hh y2, ⟨t, getL_self hh⟩, len2⟩, O.regs.keep fun o e => (sb.2 _ (Ne.symm O.dr)).trans e, O.mem.keep fun o e => (sb.2 _ (Ne.symm O.dk)).trans e⟩
  · by_cases q : a = W.d
    · rw [q, D']; rfl
    · rw [sb.2 a q]; exact S.ext a ha
end
end Mine

namespace Mine
open PySem PySem.W PySem.Calls PyProof.Rows

structure EnvOk (env : Env) : Prop where
  kind : env.scope.kind = .function
  glob : env.globals = mainGlobals
  blt : env.builtins = builtinsNs

structure AOk (A : Around) (n : Nat) : Prop where
  hand : A.handled = none
  depth : A.depth + n ≤ 900
  units : A.units + 3 * n ≤ 9000
theorem AOk.lower {A : Around} {n m : Nat} (x : AOk A n) (h : m ≤ n) : AOk A m := ⟨x.hand, by have := x.depth; omega, by have := x.units; omega⟩
theorem AOk.deeper {A : Around} {n : Nat} (env : Env) (x : AOk A (n + 1)) : AOk (A.deeper env) n := ⟨x.hand, by have := x.depth; show A.depth + 1 + n ≤ 900; omega, by have := x.units; show A.units + 3 + 3 * n ≤ 9000; omega⟩

section
variable {prog : Program} {w : World} {A : Around} {E : Value → Shared → Prop} {s : Shared} {D : Dm} {g : Heap} {σ σ' : CS} {env : Env} {e : List (Str × V)}

theorem nsIn_ns {P : Params} {h : Heap} {mg : Str → Option Value} (X : (KF P).In h) (N : h.Ns mainGlobals mg) {id : Str} {v : Value} (q : nsIn (KF P) mainGlobals id = some (some v)) : mg id = some v := mg_of X N q

theorem nameA_ok {id : Str} {pos : Pos} {v : V} {Q : Value → Shared → Prop} (q : nameA w.params env.scope e id = some v) (K : EnvOk env) (C : Cx w D g s.heap env e σ)
    (k : ∀ rv, VR D s.heap v rv → Q rv s) : wpAny (model prog w) A (eval (.Name id pos) env) Q E s := by
  unfold nameA at q
  split at q
  · cases q
  rename_i hd
  have hd' : (id == ("__debug__" : Str)) = false := by simpa using hd
  split at q
  · rename_i hl
    obtain ⟨m, N, hm⟩ := C.ns
    obtain ⟨rv, a, b⟩ := hm _ _ q
    unfold Holds at a
    rw [hl] at a
    exact wpAny_Name (wpAny_loadName_local K.kind hl N a (k rv b)) hd'
  · rename_i hl
    obtain ⟨m, N, hm⟩ := C.ns
    obtain ⟨rv, a, b⟩ := hm _ _ q
    unfold Holds at a
    rw [hl] at a
    obtain ⟨c, y1, y2, y3⟩ := a
    exact wpAny_Name (wpAny_loadName_cell K.kind hl y1 y2 (k rv b)) hd'
  · rename_i hl
    obtain ⟨p, loose, mg, mb, T⟩ := C.gd.T
    have T := T.keeps C.sr.keep
    have X := C.gd.In C.sr
    unfold globA at q
    have hg : s.heap.Ns env.globals mg := by rw [K.glob]; exact T.g
    split at q
    · rename_i i t hv
      cases q
      exact Name_function_global K.kind hl (loadGlobal_global hg (mg_of X T.g hv) (k _ (vr_int ⟨Int.le_refl _, Int.le_refl _⟩))) hd'
    · rename_i i t hv
      cases q
      exact Name_function_global K.kind hl (loadGlobal_global hg (mg_of X T.g hv) (k _ vr_str)) hd'
    · rename_i i hv
      cases q
      exact Name_function_global K.kind hl (loadGlobal_global hg (mg_of X T.g hv) (k _ (by simp only [VR]))) hd'
    · rename_i hv
      split at q
      · rename_i hi
        cases q
        have hb : s.heap.Ns env.builtins mb := by rw [K.blt]; exact T.b
        have hi' := beq_iff_eq.mp hi
        subst hi'
        refine Name_function_global K.kind hl (loadGlobal_builtin hg (mg_none_of X T.g hv) hb ((T.builtins _ (by decide)).trans (show bootBuiltins "len" = some (.builtin "len") by boot_by_name)) (k _ (by simp only [VR]))) hd'
      · cases q
    · cases q
  · cases q

theorem KB.of_ext {h h' : Heap} (x : Heap.ExtBut h.objs.size h h') : KB [] h h' := fun b o _ e => x b o (Nat.ne_of_lt (Heap.lt_size e)) e

theorem storeA_ok {x : Str} {v : V} {rv : Value} {Q : Unit → Shared → Prop} (hl : env.scope.names.lookup x = some .local) (K : EnvOk env) (C : Cx w D g s.heap env e σ) (hv : VR D s.heap v rv)
    (k : ∀ h' tk, Cx w D g h' env (putA x v e) σ → KB (env.locals :: tch D) s.heap h' → VR D h' v rv → Q () { s with heap := h', toks := tk }) : wpAny (model prog w) A (storeName env x rv) Q E s := by
  obtain ⟨m, N, hm⟩ := C.ns
  refine wpAny_storeName_local hl N (fun h' N' sb => ?_) (by rw [K.kind]; rfl)
  have kb : KB (env.locals :: tch D) s.heap h' := (KB.of_same sb).mono fun a q => by simp at q; simp [q]
  exact k h' _ (C.store N hm hl hv N' sb) kb (VR.keeps (.of_KBL N kb) _ _ hv)

theorem swap_ok {ts : List PySem.Expr} {value : PySem.Expr} {k : Nat} {tpos : Pos} {r : Option (List Str)} (q : swapA env.scope ts value = some r) : swappedStores [.Tuple ts k tpos] value env = pure r := by
  unfold swapA at q
  have := of_pureOf q
  rw [← this]
  cases value <;> rfl
theorem notComp_swaps {value : PySem.Expr} (h : notComp value = true) (t : Option PySem.Expr) (l : Nat) : swapsWith value t l env = pure false := by
  cases value <;> first | rfl | (simp [notComp] at h)
theorem notComp_sole {value : PySem.Expr} (h : notComp value = true) (ts : List PySem.Expr) (l : Nat) : swapsWithSole ts value l env = pure false := by
  unfold swapsWithSole
  split
  · exact notComp_swaps h _ _
  · rfl
theorem not_interactive (K : EnvOk env) : interactive env = false := by
  unfold interactive
  rw [K.kind]
  rfl
end
theorem zip_lookup : ∀ (ns : List Str) (vs : List Value), ns.length = vs.length → ∀ n ∈ ns, ((ns.zip vs).lookup n).isSome = true
  | [], _, _, _, h => nomatch h
  | n :: ns, [], h, _, _ => by simp at h
  | n :: ns, v :: vs, h, m, hm => by
    rw [List.zip_cons_cons, List.lookup_cons]
    by_cases q : (m == n) = true
    · simp [q]
    · simp only [q]
      have : m ≠ n := by simpa using q
      exact zip_lookup ns vs (by simpa using h) m (by simpa [this] using hm)
theorem zip_filterMap : ∀ (ns : List Str) (vs : List Value), ns.length = vs.length → ns.Nodup → (ns.filterMap fun n => ((ns.zip vs).lookup n).map fun v => (n, v)) = ns.zip vs := by
  suffices H : ∀ (ns : List Str) (vs : List Value), ns.length = vs.length → ns.Nodup → ∀ (pre : List (Str × Value)), (∀ n ∈ ns, pre.lookup n = none) → (ns.filterMap fun n => ((pre ++ ns.zip vs).lookup n).map fun v => (n, v)) = ns.zip vs by
    intro ns vs h1 h2
    simpa using H ns vs h1 h2 [] (by simp)
  intro ns
  induction ns with
  | nil => intro vs _ _ pre _; rfl
  | cons n ns ih =>
    intro vs h1 h2 pre hp
    cases vs with
    | nil => simp at h1
    | cons v vs =>
      have a : (pre ++ (n :: ns).zip (v :: vs)).lookup n = some v := by
        rw [List.lookup_append, hp n (by simp), List.zip_cons_cons, List.lookup_cons]
        simp
      rw [List.filterMap_cons, a]
      simp only [Option.map_some, List.zip_cons_cons]
      congr 1
      have h2' := List.nodup_cons.mp h2
      have := ih vs (by simpa using h1) h2'.2 (pre ++ [(n, v)]) (fun m hm => by
        rw [List.lookup_append, hp m (by simp [hm]), List.lookup_cons]
        have : (m == n) = false := by simp; rintro rfl; exact h2'.1 hm
        rw [this]; rfl)
      simpa [List.append_assoc] using this
theorem bind_plain {fd : FuncData} {as : List Arg} {rvs : List Value} (hp : fd.params = ⟨[], as, none, [], [], none, []⟩) (hd : fd.defaults = .none) (hl : as.length = rvs.length) (hn : (as.map (·.arg)).Nodup) :
    bindArgs fd ⟨rvs, []⟩ = pure ((as.map (·.arg)).zip rvs) := by
  have hl' : (as.map (·.arg)).length = rvs.length := by simpa using hl
  have h0 : seqItems? Value.none = pure none := rfl
  have h2 : ((as.map (·.arg)).filter fun n => (((as.map (·.arg)).zip rvs).lookup n).isNone) = [] := by
    rw [List.filter_eq_nil_iff]
    intro n hn
    have := zip_lookup (as.map (·.arg)) rvs hl' n hn
    cases q : ((as.map (·.arg)).zip rvs).lookup n with
    | none => rw [q] at this; cases this
    | some _ => simp
  have h3 := zip_filterMap _ _ hl' hn
  have h4 : ¬ (rvs.length > (as.map (·.arg)).length) := by simp [hl]
  unfold bindArgs
  simp only [hp, hd, h0, List.map_nil, List.nil_append, List.append_nil, List.forIn_nil, pure_bind, Option.getD_none, List.drop_nil, List.length_nil, Nat.zero_sub, Nat.sub_zero, List.take_length, h2, List.isEmpty_nil, Bool.not_true, Bool.false_eq_true, if_false, List.drop_length, List.zip_nil_right, h4, decide_false, Bool.false_and, h3]

theorem plain_of {fd : FuncData} (h : plainFd fd = true) : ∃ as, fd.params = ⟨[], as, none, [], [], none, []⟩ ∧ fd.closure = [] ∧ fd.globals = mainGlobals ∧ fd.defaults = .none ∧ fd.builtins = builtinsNs ∧
    fd.scope.kind = .function ∧ fd.scope.isCoroutine = false ∧ fd.scope.isGenerator = false ∧ (∀ x ∈ fd.scope.names, x.2 ≠ .cell) ∧ (∀ a ∈ as, fd.scope.names.lookup a.arg = some .local) ∧ (as.map (·.arg)).Nodup := by
  unfold plainFd at h
  split at h
  · rename_i as sc _ _ _ _ _ _ _ _ _
    simp only [Bool.and_eq_true, beq_iff_eq, Bool.not_eq_true', List.all_eq_true, Bool.or_eq_true, decide_eq_true_eq] at h
    obtain ⟨⟨⟨⟨⟨h1, h2⟩, h3⟩, h4⟩, h5⟩, h6⟩ := h
    refine ⟨_, rfl, rfl, rfl, rfl, rfl, h1, h2, h3, fun x hx q => ?_, h5, h6⟩
    rcases h4 x hx with z | z <;> rw [q] at z <;> cases z
  · cases h
theorem zip_mem {as : List Arg} {rvs : List Value} {P : Str → Prop} (h : ∀ a ∈ as, P a.arg) : ∀ x ∈ (as.map (·.arg)).zip rvs, P x.1 := by
  intro x hx
  have := (List.of_mem_zip hx).1
  obtain ⟨a, ha, q⟩ := List.mem_map.mp this
  rw [← q]; exact h a ha
theorem zip_rel {D : Dm} {h : Heap} : ∀ (ns : List Str) (vs : List V) (rvs : List Value), VRs D h vs rvs → ns.Nodup → ∀ x v, (ns.zip vs).lookup x = some v → ∃ rv, (ns.zip rvs).reverse.lookup x = some rv ∧ VR D h v rv
  | [], _, _, _, _, x, v, q => by simp at q
  | n :: ns, [], _, _, _, x, v, q => by simp at q
  | n :: ns, u :: us, rvs, r, hn, x, v, q => by
    simp only [VRs] at r
    obtain ⟨rv, r', rfl, a, b⟩ := r
    have hn' := List.nodup_cons.mp hn
    rw [List.zip_cons_cons, List.lookup_cons] at q
    rw [List.zip_cons_cons, List.reverse_cons, List.lookup_append]
    cases z : (x == n) with
    | true =>
      have z' := beq_iff_eq.mp z
      subst z'
      rw [z] at q
      cases q
      refine ⟨rv, ?_, a⟩
      have : List.lookup x (ns.zip r').reverse = none := by
        cases y : List.lookup x (ns.zip r').reverse with
        | none => rfl
        | some w =>
          exfalso
          have hm : ∀ (l : List (Str × Value)), List.lookup x l = some w → ∃ p ∈ l, p.1 = x := by
            intro l
            induction l with
            | nil => intro h; simp at h
            | cons p l ih =>
              intro h
              rw [List.lookup_cons] at h
              cases e : (x == p.1) with
              | true => exact ⟨p, by simp, (beq_iff_eq.mp e).symm⟩
              | false => rw [e] at h; obtain ⟨p', hp, hq⟩ := ih h; exact ⟨p', by simp [hp], hq⟩
          obtain ⟨p, hp, hq⟩ := hm _ y
          have := (List.of_mem_zip (List.mem_reverse.mp hp)).1
          rw [hq] at this
          exact hn'.1 this
      rw [this]
      simp
    | false =>
      rw [z] at q
      obtain ⟨rv', c, d⟩ := zip_rel ns us r' b hn'.2 x v q
      exact ⟨rv', by rw [c]; rfl, d⟩
end Mine

namespace Mine
open PySem PySem.W PySem.Calls PyProof.Rows

noncomputable def FlR (D : Dm) (h : Heap) : Fl → Flow → Prop
  | .next, f => f = .next
  | .ret v, f => ∃ rv, f = .ret rv ∧ VR D h v rv

noncomputable def SEv (prog : Program) (w : World) (n : Nat) : Prop := ∀ {A : Around} {E : Value → Shared → Prop} {D : Dm} {g : Heap} {env : Env} {e : List (Str × V)} {σ σ' : CS} {x : PySem.Expr} {v : V} {s : Shared} {Q : Value → Shared → Prop},
  evA w.params n env.scope e σ x = some (v, σ') → AOk A n → EnvOk env → Cx w D g s.heap env e σ →
  (∀ rv h' tk, VR D h' v rv → Cx w D g h' env e σ' → KB (tch D) s.heap h' → Q rv { s with heap := h', toks := tk }) → wpAny (model prog w) A (eval x env) Q E s
noncomputable def SEs (prog : Program) (w : World) (n : Nat) : Prop := ∀ {A : Around} {E : Value → Shared → Prop} {D : Dm} {g : Heap} {env : Env} {e : List (Str × V)} {σ σ' : CS} {pos : Pos} {xs : List PySem.Expr} {vs : List V} {s : Shared} {Q : List Value → Shared → Prop},
  esA w.params n env.scope e σ xs = some (vs, σ') → AOk A n → EnvOk env → Cx w D g s.heap env e σ →
  (∀ rvs h' tk, VRs D h' vs rvs → Cx w D g h' env e σ' → KB (tch D) s.heap h' → Q rvs { s with heap := h', toks := tk }) → wpAny (model prog w) A (spliced (backTo pos (starEach xs env))) Q E s
noncomputable def SPr (prog : Program) (w : World) (n : Nat) : Prop := ∀ {A : Around} {E : Value → Shared → Prop} {D : Dm} {g : Heap} {env : Env} {e : List (Str × V)} {σ σ' : CS} {pos : Pos} {ks : List (Option PySem.Expr)} {vs : List PySem.Expr} {l : List (V × V)} {s : Shared} {Q : List (Value × Value) → Shared → Prop},
  prA w.params n env.scope e σ ks vs = some (l, σ') → AOk A n → EnvOk env → Cx w D g s.heap env e σ →
  (∀ ka va h' tk, VRs D h' (l.map (·.1)) ka → VRs D h' (l.map (·.2)) va → Cx w D g h' env e σ' → KB (tch D) s.heap h' → Q (ka.zip va) { s with heap := h', toks := tk }) → wpAny (model prog w) A (evalPairs (pairTrees ks vs env pos)) Q E s
noncomputable def STs (prog : Program) (w : World) (n : Nat) : Prop := ∀ {A : Around} {E : Value → Shared → Prop} {D : Dm} {g : Heap} {env : Env} {e : List (Str × V)} {σ σ' : CS} {x : PySem.Expr} {b : Bool} {s : Shared} {Q : Bool → Shared → Prop},
  tsA w.params n env.scope e σ x = some (b, σ') → AOk A n → EnvOk env → Cx w D g s.heap env e σ →
  (∀ h' tk, Cx w D g h' env e σ' → KB (tch D) s.heap h' → Q b { s with heap := h', toks := tk }) → wpAny (model prog w) A (isTrue x env (eval x env)) Q E s
noncomputable def SCa (prog : Program) (w : World) (n : Nat) : Prop := ∀ {A : Around} {R : Result → Shared → Prop} {D : Dm} {g : Heap} {σ σ' : CS} {f : Addr} {vs : List V} {v : V} {rvs : List Value} {s : Shared},
  caA w.params n f vs σ = some (v, σ') → AOk A n → Gd w g → SR g D σ s.heap → VRs D s.heap vs rvs →
  (∀ rv h' tk, VR D h' v rv → SR g D σ' h' → KB (tch D) s.heap h' → R (.ok (.ret rv)) { s with heap := h', toks := tk }) → codeAny (model prog w) A (.call (.ref f) ⟨rvs, []⟩) R s
noncomputable def SSt (prog : Program) (w : World) (n : Nat) : Prop := ∀ {A : Around} {E : Value → Shared → Prop} {D : Dm} {g : Heap} {env : Env} {e e' : List (Str × V)} {σ σ' : CS} {x : Stmt} {fl : Fl} {s : Shared} {Q : Flow → Shared → Prop},
  stA w.params n env.scope e σ x = some (fl, e', σ') → AOk A n → EnvOk env → Cx w D g s.heap env e σ →
  (∀ f h' tk, FlR D h' fl f → Cx w D g h' env e' σ' → KB (env.locals :: tch D) s.heap h' → Q f { s with heap := h', toks := tk }) → wpAny (model prog w) A (exec x env) Q E s
noncomputable def STg (prog : Program) (w : World) (n : Nat) : Prop := ∀ {A : Around} {E : Value → Shared → Prop} {D : Dm} {g : Heap} {env : Env} {e e' : List (Str × V)} {σ σ' : CS} {ts : List PySem.Expr} {vs : List V} {rvs : List Value} {s : Shared} {Q : Unit → Shared → Prop},
  tgA w.params n env.scope e σ ts vs = some (e', σ') → AOk A n → EnvOk env → Cx w D g s.heap env e σ → VRs D s.heap vs rvs →
  (∀ h' tk, Cx w D g h' env e' σ' → KB (env.locals :: tch D) s.heap h' → Q () { s with heap := h', toks := tk }) → wpAny (model prog w) A (assignInOrder ((assignEach ts env).map (·.2)) rvs) Q E s
noncomputable def SSs (prog : Program) (w : World) (n : Nat) : Prop := ∀ {A : Around} {E : Value → Shared → Prop} {D : Dm} {g : Heap} {env : Env} {e e' : List (Str × V)} {σ σ' : CS} {xs : List Stmt} {fl : Fl} {s : Shared} {Q : Flow → Shared → Prop},
  ssA w.params n env.scope e σ xs = some (fl, e', σ') → AOk A n → EnvOk env → Cx w D g s.heap env e σ →
  (∀ f h' tk, FlR D h' fl f → Cx w D g h' env e' σ' → KB (env.locals :: tch D) s.heap h' → Q f { s with heap := h', toks := tk }) → wpAny (model prog w) A (execs xs env) Q E s

theorem InR.join_l {g k : Rng} {a : Int} (h1 : InR g a) : InR (Rng.join g k) a := by
  rcases g with _ | ⟨l, u⟩ <;> rcases k with _ | ⟨l', u'⟩ <;> simp only [Rng.join, InR] at * <;> omega
theorem InR.join_r {g k : Rng} {a : Int} (h1 : InR k a) : InR (Rng.join g k) a := by
  rcases g with _ | ⟨l, u⟩ <;> rcases k with _ | ⟨l', u'⟩ <;> simp only [Rng.join, InR] at * <;> omega
theorem join_t {D : Dm} {h : Heap} {x y : V} {rv : Value} (r : VR D h x rv) : VR D h (joinA true x y) rv := by
  unfold joinA
  split
  · simp only [VR] at r ⊢
    exact ⟨r.1, InR.join_l r.2⟩
  · exact r
theorem join_f {D : Dm} {h : Heap} {x y : V} {rv : Value} (r : VR D h y rv) : VR D h (joinA false x y) rv := by
  unfold joinA
  split
  · simp only [VR] at r ⊢
    exact ⟨r.1, InR.join_r r.2⟩
  · exact r
theorem atom_same {P : Params} {n : Nat} {sc : Scope} {e : List (Str × V)} {σ σ' : CS} {x : PySem.Expr} {v : V} (ha : atomE x = true) (h : evA P n sc e σ x = some (v, σ')) : σ' = σ := by
  cases n with
  | zero => simp [evA] at h
  | succ n =>
    unfold atomE at ha
    split at ha
    · simp only [evA, Option.some.injEq, Prod.mk.injEq] at h
      exact h.2.symm
    · simp only [evA, Option.map_eq_some_iff, Prod.mk.injEq] at h
      obtain ⟨_, _, _, q⟩ := h
      exact q.symm
    · cases ha
theorem no_marks {P : Params} {n : Nat} {sc : Scope} {e : List (Str × V)} {σ : CS} {x : PySem.Expr} {r : V × CS} (op : CmpOp) (h : evA P n sc e σ x = some r) : behindInMarks op x = false := by
  cases x <;> first | rfl | (exfalso; cases n <;> simp [evA] at h)
theorem star_cons {x : PySem.Expr} {r : List PySem.Expr} (env : Env) (h : ∀ v p, x ≠ .Starred v p) : starEach (x :: r) env = (false, eval x env) :: starEach r env := by
  cases x <;> first | rfl | (exact absurd rfl (h _ _))
theorem no_star {P : Params} : ∀ {n : Nat} {sc : Scope} {e : List (Str × V)} {σ : CS} {xs : List PySem.Expr} {r : List V × CS}, esA P n sc e σ xs = some r → ∀ x ∈ xs, ∀ v p, x ≠ .Starred v p
  | 0, _, _, _, _, _, h => by simp [esA] at h
  | n + 1, sc, e, σ, xs, r, h => by
    unfold esA at h
    split at h
    · intro x hx; cases hx
    · cases h
    · rename_i x r' hne
      simp only [Option.bind_eq_some_iff, Option.map_eq_some_iff] at h
      obtain ⟨a, h1, b, h2, h3⟩ := h
      intro y hy
      rcases List.mem_cons.mp hy with rfl | hy
      · intro v p q; exact hne v p q
      · exact no_star h2 y hy
theorem back_plain {xs : List PySem.Expr} {pos : Pos} (env : Env) (h : ∀ x ∈ xs, ∀ v p, x ≠ .Starred v p) : (backTo pos (starEach xs env)).any (·.1) = false := by
  induction xs with
  | nil => rfl
  | cons x r ih =>
    rw [star_cons env (h x (by simp))]
    show (false || (backTo pos (starEach r env)).any (·.1)) = false
    rw [ih fun y hy => h y (by simp [hy])]
    rfl

section
variable {prog : Program} {w : World} {n : Nat}

theorem SR.new_mut {D : Dm} {g h : Heap} {σ : CS} (S : SR g D σ h) : h.objs.size ∉ muts D := by
  intro q
  unfold muts at q
  rcases List.mem_append.mp q with q | q
  · unfold tch at q
    cases hc : D.cpu with
    | none => rw [hc] at q; cases q
    | some W =>
      rw [hc] at q
      have O := S.objs W hc
      obtain ⟨es, n, y1, _⟩ := O.dict
      obtain ⟨_, _, _, ⟨_, y2, _⟩, _⟩ := O.regs
      obtain ⟨_, _, _, ⟨_, y3, _⟩, _⟩ := O.mem
      have l1 := Heap.lt_size y1
      have l2 := Heap.lt_size y2
      have l3 := Heap.lt_size y3
      simp only [List.mem_cons, List.not_mem_nil, or_false] at q
      rcases q with q | q | q
      · rw [← q] at l1; exact Nat.lt_irrefl _ l1
      · rw [← q] at l2; exact Nat.lt_irrefl _ l2
      · rw [← q] at l3; exact Nat.lt_irrefl _ l3
  · obtain ⟨o, ho⟩ := Option.isSome_iff_exists.mp (S.ext _ q)
    exact Nat.lt_irrefl _ (Heap.lt_size ho)
theorem SR.new_base {D : Dm} {g h : Heap} {σ : CS} (S : SR g D σ h) : g.get? h.objs.size = none := by
  cases q : g.get? h.objs.size with
  | none => rfl
  | some o => exact absurd (Heap.lt_size (S.keep _ _ q)) (Nat.lt_irrefl _)
theorem mem_of_lookupR {x : Str} {w : Value} : ∀ {l : List (Str × Value)}, List.lookup x l = some w → ∃ p ∈ l, p.1 = x
  | [], h => by simp at h
  | p :: l, h => by
    rw [List.lookup_cons] at h
    cases e : (x == p.1) with
    | true => exact ⟨p, by simp, (beq_iff_eq.mp e).symm⟩
    | false => rw [e] at h; obtain ⟨p', hp, hq⟩ := mem_of_lookupR h; exact ⟨p', by simp [hp], hq⟩
noncomputable def codeOk (K : Frag) (o : Obj) : Bool := match o with
  | ⟨_, _, .func fd, _⟩ => codeIn K fd.code fd.qualname
  | _ => true
theorem code_every (P : Params) : (KF P).all (fun p => codeOk (KF P) p.2) = true := by kernel_rfl
theorem mem_of_lookup {a : Addr} {o : Obj} : ∀ {l : Frag}, l.lookup a = some o → (a, o) ∈ l
  | [], h => by simp at h
  | p :: l, h => by
    rw [List.lookup_cons] at h
    cases e : (a == p.1) with
    | true => rw [e] at h; cases h; rw [beq_iff_eq.mp e]; exact List.mem_cons_self
    | false => rw [e] at h; exact List.mem_cons_of_mem _ (mem_of_lookup h)
theorem code_all {P : Params} {f : Addr} {oc : Value} {od : Option Addr} {fd : FuncData} {osl : Array (Option Value)} (h : (KF P).lookup f = some ⟨oc, od, .func fd, osl⟩) : codeIn (KF P) fd.code fd.qualname = true :=
  List.all_eq_true.mp (code_every P) _ (mem_of_lookup h)

theorem ses_succ (hEv : SEv prog w n) (hEs : SEs prog w n) : SEs prog w (n + 1) := by
  intro A E D g env e σ σ' pos xs vs s Q h a K C k
  unfold esA at h
  split at h
  · cases h
    exact spliced_nil (k [] s.heap s.toks (by simp only [VRs]) C (KB.refl _ _))
  · cases h
  · rename_i x r hne
    simp only [Option.bind_eq_some_iff, Option.map_eq_some_iff] at h
    obtain ⟨⟨va, σ1⟩, h1, ⟨vb, σ2⟩, h2, h3⟩ := h
    cases h3
    have a' := a.lower (Nat.le_succ n)
    refine spliced_more (hEv h1 a' K C fun rv h' tk hv C' kb => hEs h2 a' K C' fun rvs h'' tk' hvs C'' kb' => ?_) (star_cons env fun v p q => hne v p q)
    exact k (rv :: rvs) h'' tk' (by simp only [VRs]; exact ⟨rv, rvs, rfl, VR.keeps (.of_KB kb') _ _ hv, hvs⟩) C'' (kb.trans kb')

theorem spr_succ (hEv : SEv prog w n) (hPr : SPr prog w n) : SPr prog w (n + 1) := by
  intro A E D g env e σ σ' pos ks vs l s Q h a K C k
  unfold prA at h
  split at h
  · cases h
    exact pairTrees_nil_walk (k [] [] s.heap s.toks (by simp only [List.map_nil, VRs]) (by simp only [List.map_nil, VRs]) C (KB.refl _ _))
  · rename_i kx ks' vx vs'
    simp only [Option.bind_eq_some_iff, Option.map_eq_some_iff] at h
    obtain ⟨⟨va, σ1⟩, h1, ⟨vb, σ2⟩, h2, ⟨r, σ3⟩, h3, h4⟩ := h
    cases h4
    have a' := a.lower (Nat.le_succ n)
    refine pairTrees_cons_walk (hEv h1 a' K C fun rk h' tk hk C' kb => hEv h2 a' K C' fun rv h'' tk' hv C'' kb' => hPr h3 a' K C'' fun ka va h3 tk3 hka hva C3 kb3 => ?_)
    refine k (rk :: ka) (rv :: va) h3 tk3 ?_ ?_ C3 ((kb.trans kb').trans kb3)
    · simp only [List.map_cons, VRs]; exact ⟨rk, ka, rfl, VR.keeps (.of_KB (kb'.trans kb3)) _ _ hk, hka⟩
    · simp only [List.map_cons, VRs]; exact ⟨rv, va, rfl, VR.keeps (.of_KB kb3) _ _ hv, hva⟩
  · cases h

theorem sts_succ (hEv : SEv prog w n) (hTs : STs prog w n) : STs prog w (n + 1) := by
  intro A E D g env e σ σ' x b s Q h a K C k
  have a' := a.lower (Nat.le_succ n)
  unfold tsA at h
  split at h
  · simp only [Option.bind_eq_some_iff, Option.map_eq_some_iff] at h
    obtain ⟨⟨va, σ1⟩, h1, ⟨vb, σ2⟩, h2, c, h3, h4⟩ := h
    cases h4
    refine wpAny_isTrue_Compare1 (hEv h1 a' K C fun ra h' tk hv C' kb => hEv h2 a' K C' fun rb h'' tk' hv' C'' kb' => cmpA_ok h3 (VR.keeps (.of_KB kb') _ _ hv) hv' rfl fun tk => wpAny_truthy_bool ?_) (no_marks _ h2)
    exact k h'' tk C'' (kb.trans kb')
  · simp only [Option.bind_eq_some_iff] at h
    obtain ⟨⟨b1, σ1⟩, h1, h2⟩ := h
    refine wpAny_isTrue_BoolOp (wpAny_allTrue_And_cons (hTs h1 a' K C fun h' tk C' kb => ?_))
    cases b1 with
    | true =>
      simp only [if_true] at h2 ⊢
      refine wpAny_allTrue_And_cons (hTs h2 a' K C' fun h'' tk' C'' kb' => ?_)
      cases b with
      | true => simp only [if_true]; exact wpAny_allTrue_And_nil (k h'' tk' C'' (kb.trans kb'))
      | false => simp only [Bool.false_eq_true, if_false]; exact k h'' tk' C'' (kb.trans kb')
    | false =>
      cases h2
      simp only [Bool.false_eq_true, if_false]
      exact k h' tk C' kb
  · simp only [Option.bind_eq_some_iff] at h
    obtain ⟨⟨b1, σ1⟩, h1, h2⟩ := h
    refine wpAny_isTrue_BoolOp (wpAny_allTrue_Or_cons (hTs h1 a' K C fun h' tk C' kb => ?_))
    cases b1 with
    | true =>
      cases h2
      simp only [if_true]
      exact k h' tk C' kb
    | false =>
      simp only [Bool.false_eq_true, if_false] at h2 ⊢
      refine wpAny_allTrue_Or_cons (hTs h2 a' K C' fun h'' tk' C'' kb' => ?_)
      cases b with
      | true => simp only [if_true]; exact k h'' tk' C'' (kb.trans kb')
      | false => simp only [Bool.false_eq_true, if_false]; exact wpAny_allTrue_Or_nil (k h'' tk' C'' (kb.trans kb'))
  · simp only [Option.bind_eq_some_iff, Option.map_eq_some_iff] at h
    obtain ⟨va, h1, c, h2, h3⟩ := h
    cases h3
    exact wpAny_isTrue_value (nameA_ok h1 K C fun rv hv => truthA_ok h2 hv (k s.heap s.toks C (KB.refl _ _)))
  · simp only [Option.bind_eq_some_iff, Option.map_eq_some_iff] at h
    obtain ⟨⟨va, σ1⟩, h1, c, h2, h3⟩ := h
    cases h3
    exact wpAny_isTrue_value (hEv h1 a' K C fun rv h' tk hv C' kb => truthA_ok h2 hv (k h' tk C' kb))
  · cases h

theorem sca_succ (hSs : SSs prog w n) : SCa prog w (n + 1) := by
  intro A R D g σ σ' f vs v rvs s h a G S V k
  unfold caA at h
  simp only [Option.bind_eq_some_iff] at h
  obtain ⟨fd, hf, h⟩ := h
  split at h
  · rename_i hp
    simp only [Bool.and_eq_true, beq_iff_eq] at hp
    obtain ⟨hp, hlen⟩ := hp
    obtain ⟨as, q1, q2, q3, q4, q5, q6, q7, q8, q9, q10, q11⟩ := plain_of hp
    split at h
    · rename_i body hbody
      simp only [Option.bind_eq_some_iff] at h
      obtain ⟨⟨fl, e', σ''⟩, h1, h2⟩ := h
      have X := G.In S
      obtain ⟨p, loose, mg, mb, T⟩ := G.T
      have T := T.keeps S.keep
      unfold funA at hf
      split at hf
      · rename_i oc od fd' osl ho
        cases hf
        have hl : rvs.length = vs.length := (VRs.get V).1
        have hla : as.length = rvs.length := by rw [hl, hlen, q1]
        have hcd : s.heap.CodeRec fd.code fd.qualname := by
          exact codeRec_of X (code_all ho)
        rw [q1] at h1
        refine codeAny_call_def (fd := fd) (body := body) (binds := (as.map (·.arg)).zip rvs) (by have := a.depth; unfold recursionLimit; omega) (X _ _ ho) rfl T.nolimit hcd hbody (BindsTo.of_eq (bind_plain q1 q4 hla q11)) q9 (zip_mem (P := fun x => fd.scope.names.lookup x = some .local) q10) (fun h₁ N kp => ?_) q7 q8 q6
        have K : EnvOk (callEnv fd s.heap.objs.size f) := ⟨q6, q3, q5⟩
        have kb0 : KB [] s.heap h₁ := fun b o _ e => kp b o e
        have C : Cx w D g h₁ (callEnv fd s.heap.objs.size f) ((as.map (·.arg)).zip vs) σ := by
          refine ⟨G, S.grow kb0, S.new_base, S.new_mut, fun x y c q => ?_, _, N, fun x v q => ?_⟩
          · have : (callEnv fd s.heap.objs.size f).cells = [] := q2
            rw [this] at q
            cases q
          · obtain ⟨rv, a1, a2⟩ := zip_rel _ _ _ V q11 x v q
            refine ⟨rv, ?_, VR.keeps (.of_KB kb0.of_nil) _ _ a2⟩
            unfold Holds
            have : fd.scope.names.lookup x = some .local := by
              obtain ⟨p, hp, hq⟩ := mem_of_lookupR a1
              rw [← hq]
              exact zip_mem (P := fun x => fd.scope.names.lookup x = some .local) q10 p (List.mem_reverse.mp hp)
            show (match fd.scope.names.lookup x with
              | some .local => _
              | some .cell => _
              | _ => _)
            rw [this]
            exact a1
        refine hSs (env := callEnv fd s.heap.objs.size f) h1 (a.deeper _) K C fun fl' h' tk hfl C' kb => ?_
        have kb' : KB (tch D) s.heap h' := fun b o nb e => kb b o (by
          intro q
          rcases List.mem_cons.mp q with q | q
          · exact Nat.lt_irrefl _ (by have := Heap.lt_size e; rw [q] at this; exact this)
          · exact nb q) (kp b o e)
        cases fl with
        | ret u =>
          cases h2
          obtain ⟨rv, rfl, hv⟩ := hfl
          exact k rv h' tk hv C'.sr kb'
        | next =>
          cases h2
          cases hfl
          exact k .none h' tk (by simp only [VR]) C'.sr kb'
      · cases hf
    · cases h
  · cases h
end
end Mine

namespace Mine
open PySem PySem.W PySem.Calls PyProof.Rows

section
variable {prog : Program} {w : World} {D : Dm} {g h h' : Heap} {L : Addr} {e : List (Str × V)} {σ σ' : CS}

theorem SR.new_c (S : SR g D σ h) : ∀ W, D.cpu = some W → h.objs.size ≠ W.c := fun W hW q => by
  have := Heap.lt_size (S.objs W hW).inst
  rw [← q] at this
  exact Nat.lt_irrefl _ this

theorem vrs_len {vs : List V} {rvs : List Value} (x : VRs D h vs rvs) : rvs.length = vs.length := (VRs.get x).1

theorem keys_rel : ∀ {l : List (V × V)} {li : List (Int × V)} {ka va : List Value}, keysA l = some li → VRs D h (l.map (·.1)) ka → VRs D h (l.map (·.2)) va →
    Carries (intKind prog w) (ka.zip va) ((li.map (·.1)).zip va) ∧ (∀ i v, li.lookup i = some v → ∃ rv, valueAt ((li.map (·.1)).zip va) i = some rv ∧ VR D h v rv) ∧ li.length = va.length
  | [], li, ka, va, e, x, y => by
    cases e
    simp only [List.map_nil, VRs] at x y
    subst x y
    exact ⟨trivial, fun i v q => by simp at q, rfl⟩
  | (.int k gk, v) :: l, li, ka, va, e, x, y => by
    simp only [keysA, Option.map_eq_some_iff] at e
    obtain ⟨li', e', rfl⟩ := e
    simp only [List.map_cons, VRs] at x y
    obtain ⟨rk, ka', rfl, hk, hka⟩ := x
    obtain ⟨rv, va', rfl, hv, hva⟩ := y
    simp only [VR] at hk
    obtain ⟨⟨t, rfl⟩, _⟩ := hk
    obtain ⟨a, b, c⟩ := keys_rel e' hka hva
    refine ⟨⟨intKind_is prog w k t, rfl, a⟩, fun i u q => ?_, by simp [c]⟩
    rw [List.lookup_cons] at q
    simp only [List.map_cons, List.zip_cons_cons, valueAt, List.find?_cons]
    by_cases z : i = k
    · subst z
      simp only [beq_self_eq_true] at q
      cases q
      exact ⟨rv, by simp, hv⟩
    · have z1 : (i == k) = false := by simpa using z
      have z2 : decide (k = i) = false := decide_eq_false fun q => z q.symm
      rw [z1] at q
      simp only [z2]
      exact b i u q
  | (.none, _) :: _, _, _, _, e, _, _ => by simp [keysA] at e
  | (.bool _, _) :: _, _, _, _, e, _, _ => by simp [keysA] at e
  | (.str _, _) :: _, _, _, _, e, _, _ => by simp [keysA] at e
  | (.tup _, _) :: _, _, _, _, e, _, _ => by simp [keysA] at e
  | (.lst _, _) :: _, _, _, _, e, _, _ => by simp [keysA] at e
  | (.cpu, _) :: _, _, _, _, e, _, _ => by simp [keysA] at e
  | (.regs, _) :: _, _, _, _, e, _, _ => by simp [keysA] at e
  | (.mem, _) :: _, _, _, _, e, _, _ => by simp [keysA] at e
  | (.ref _, _) :: _, _, _, _, e, _, _ => by simp [keysA] at e
  | (.bfn, _) :: _, _, _, _, e, _, _ => by simp [keysA] at e

theorem zip_fst : ∀ {li : List (Int × V)} {va : List Value}, li.length = va.length → (((li.map (·.1)).zip va).map (·.1)) = li.map (·.1) := by
  intro li va hl
  exact List.map_fst_zip (by simp; omega)

theorem keep_of_caA {P : Params} {n : Nat} {a : Addr} {vs : List V} {r : V × CS} (hc : caA P n a vs σ = some r) : keepIn (KF P) (.ref a) = true := by
  cases n with
  | zero => simp [caA] at hc
  | succ n =>
    unfold caA at hc
    simp only [Option.bind_eq_some_iff] at hc
    obtain ⟨fd, hf, _⟩ := hc
    unfold funA at hf
    split at hf
    · rename_i ho
      unfold keepIn
      simp only [ho]
    · cases hf

theorem esA_len {P : Params} : ∀ {n : Nat} {sc : Scope} {e : List (Str × V)} {σ : CS} {xs : List PySem.Expr} {r : List V × CS}, esA P n sc e σ xs = some r → r.1.length = xs.length
  | 0, _, _, _, _, _, h => by simp [esA] at h
  | n + 1, sc, e, σ, xs, r, h => by
    unfold esA at h
    split at h
    · cases h; rfl
    · cases h
    · simp only [Option.bind_eq_some_iff, Option.map_eq_some_iff] at h
      obtain ⟨a, h1, b, h2, h3⟩ := h
      cases h3
      simp only [List.length_cons, esA_len h2]
theorem new_seq {T : String} {vs : List V} {rvs : List Value} (S : SR g D σ h) (r : VRs D h vs rvs) :
    h.objs.size ∉ muts D ∧ (h.push { cls := .type T, data := .seq rvs.toArray }).get? h.objs.size = some (seqObj T rvs 0) ∧ VRs D (h.push { cls := .type T, data := .seq rvs.toArray }) vs rvs :=
  ⟨S.new_mut, Heap.get?_push_size _ rfl, VRs.keeps (.of_KB (KB.push _ _).of_nil) _ _ r⟩
end

section
variable {prog : Program} {w : World} {n : Nat}

theorem sev_succ (hEv : SEv prog w n) (hEs : SEs prog w n) (hPr : SPr prog w n) (hTs : STs prog w n) (hCa : SCa prog w n) : SEv prog w (n + 1) := by
  intro A E D g env e σ σ' x v s Q h a K C k
  have a' := a.lower (Nat.le_succ n)
  unfold evA at h
  split at h
  · cases h
    exact wpAny_Constant_int (k _ s.heap _ (vr_int ⟨Int.le_refl _, Int.le_refl _⟩) C (KB.refl _ _))
  · cases h
    exact wpAny_Constant_str (k _ s.heap _ vr_str C (KB.refl _ _))
  · simp only [Option.map_eq_some_iff] at h
    obtain ⟨u, h1, h2⟩ := h
    cases h2
    exact nameA_ok h1 K C fun rv hv => k rv s.heap s.toks hv C (KB.refl _ _)
  · simp only [Option.bind_eq_some_iff, Option.map_eq_some_iff] at h
    obtain ⟨⟨va, σ1⟩, h1, ⟨vb, σ2⟩, h2, r, h3, h4⟩ := h
    cases h4
    exact wpAny_BinOp (hEv h1 a' K C fun ra h' tk hv C' kb => hEv h2 a' K C' fun rb h'' tk' hv' C'' kb' => binA_ok h3 (VR.keeps (.of_KB kb') _ _ hv) hv' fun rv tk'' hr => k rv h'' tk'' hr C'' (kb.trans kb'))
  · simp only [Option.bind_eq_some_iff, Option.map_eq_some_iff] at h
    obtain ⟨⟨va, σ1⟩, h1, r, h3, h4⟩ := h
    cases h4
    exact wpAny_UnaryOp (hEv h1 a' K C fun ra h' tk hv C' kb => unA_ok h3 hv fun rv tk'' hr => k rv h' tk'' hr C' kb)
  · simp only [Option.bind_eq_some_iff, Option.map_eq_some_iff] at h
    obtain ⟨⟨va, σ1⟩, h1, ⟨vb, σ2⟩, h2, c, h3, h4⟩ := h
    cases h4
    exact wpAny_Compare1 (hEv h1 a' K C fun ra h' tk hv C' kb => hEv h2 a' K C' fun rb h'' tk' hv' C'' kb' => cmpA_ok h3 (VR.keeps (.of_KB kb') _ _ hv) hv' rfl fun tk => k _ h'' tk (by simp only [VR]) C'' (kb.trans kb')) (no_marks _ h2)
  · simp only [Option.bind_eq_some_iff] at h
    obtain ⟨⟨c, σ1⟩, h1, h2⟩ := h
    refine wpAny_IfExp (hTs h1 a' K C fun h' tk C' kb => ?_)
    split at h2
    · rename_i hat
      simp only [Bool.and_eq_true] at hat
      simp only [Option.bind_eq_some_iff, Option.map_eq_some_iff] at h2
      obtain ⟨⟨va, σ2⟩, h3, ⟨vb, σ3⟩, h4, h5⟩ := h2
      cases h5
      have e1 := atom_same hat.1 h3
      have e2 := atom_same hat.2 h4
      subst e1 e2
      cases c with
      | true =>
        simp only [if_true]
        exact hEv h3 a' K C' fun rv h'' tk' hv C'' kb' => k rv h'' tk' (join_t hv) C'' (kb.trans kb')
      | false =>
        simp only [Bool.false_eq_true, if_false]
        exact hEv h4 a' K C' fun rv h'' tk' hv C'' kb' => k rv h'' tk' (join_f hv) C'' (kb.trans kb')
    · cases c with
      | true =>
        simp only [if_true] at h2 ⊢
        exact hEv h2 a' K C' fun rv h'' tk' hv C'' kb' => k rv h'' tk' hv C'' (kb.trans kb')
      | false =>
        simp only [Bool.false_eq_true, if_false] at h2 ⊢
        exact hEv h2 a' K C' fun rv h'' tk' hv C'' kb' => k rv h'' tk' hv C'' (kb.trans kb')
  · simp only [Option.bind_eq_some_iff, Option.map_eq_some_iff] at h
    obtain ⟨va, h1, r, h3, h4⟩ := h
    cases h4
    exact Attribute_name (nameA_ok h1 K C fun ro ho => attrA_ok h3 ho C.gd C.sr fun rv tk hv => k rv s.heap tk hv C (KB.refl _ _))
  · split at h
    · rename_i hc
      simp only [Bool.and_eq_true, decide_eq_true_eq, beq_iff_eq, Bool.not_eq_true'] at hc
      obtain ⟨⟨⟨⟨hns, hlen⟩, hall⟩, hll⟩, hne⟩ := hc
      simp only [Option.bind_eq_some_iff] at h
      obtain ⟨⟨l, σ1⟩, h1, ⟨j, σ2⟩, h2, h3⟩ := h
      split at h3
      · rename_i i gi hj
        simp only at hj
        subst hj
        simp only [Option.bind_eq_some_iff] at h3
        obtain ⟨li, h4, h5⟩ := h3
        split at h5
        · rename_i hnd
          simp only [Option.map_eq_some_iff] at h5
          obtain ⟨u, h6, h7⟩ := h5
          cases h7
          refine Subscript_ (wpAny_Dict_walk (knd := intKind prog w) hall hll (fun q => by rw [q] at hne; cases hne) hlen (hPr h1 a' K (C.ext (KB.push _ _)) fun ka va h' tk hka hva C' kb => ?_))
          obtain ⟨c1, c2, c3⟩ := keys_rel (prog := prog) (w := w) h4 hka hva
          have hnewm := C.sr.new_mut
          have hnew : s.heap.objs.size ∉ tch D := fun q => hnewm (tch_muts q)
          have hd0 : h'.get? s.heap.objs.size = some { cls := .type "dict", data := .dict #[] } := kb _ _ hnew (Heap.get?_push_size _ rfl)
          have kb1 : KB (tch D) s.heap h' := fun b o nb q => kb b o nb (Heap.get?_push_of_some _ q)
          refine ⟨_, c1, (Heap.DictOf.new (knd := intKind prog w) s.heap).at fun o q => kb _ _ hnew q, fun h'' hd sb => ?_⟩
          rw [merged_nil_of_nodup _ (by rw [zip_fst c3]; exact hnd)] at hd
          have kb2 : KB (tch D) s.heap h'' := fun b o nb q => (sb.2 b (Nat.ne_of_lt (Heap.lt_size q))).trans (kb1 b o nb q)
          have S2 := C'.sr.still (KB.of_same sb) C.sr.new_base hnewm C.sr.new_c
          have C2 := C.mv S2 kb2
          have sk : SeqKeep D h' h'' := fun b T vs n nb q => (sb.2 b (fun z => by rw [z, hd0] at q; cases q)).trans q
          refine hEv (s := { s with heap := h'', toks := _ }) h2 a' K C2 fun ri h3 tk3 hi C3 kb3 => ?_
          simp only [VR] at hi
          obtain ⟨⟨ti, rfl⟩, _⟩ := hi
          obtain ⟨rv, d1, d2⟩ := c2 _ _ h6
          have hd3 := hd.at fun o q => kb3 _ _ hnew q
          refine tail_any hd3.typeIs PySem.slot_dict_getitem.lookup (wpAny_getItem_of (intKind_is _ _ _ _) hd3.mapOf d1 ?_) (subscripted_of hns _ _)
          exact k rv h3 _ (VR.keeps (.of_KB kb3) _ _ (VR.keeps sk _ _ d2)) C3 (kb2.trans kb3)
        · cases h5
      · cases h3
    · cases h
  · split at h
    · rename_i hns
      simp only [Option.bind_eq_some_iff, Option.map_eq_some_iff] at h
      obtain ⟨⟨va, σ1⟩, h1, ⟨vb, σ2⟩, h2, r, h3, h4⟩ := h
      cases h4
      exact Subscript_ (hEv h1 a' K C fun ra h' tk hv C' kb => hEv h2 a' K C' fun rb h'' tk' hv' C'' kb' => subA_ok hns h3 (VR.keeps (.of_KB kb') _ _ hv) hv' C''.sr fun rv tk'' hr => k rv h'' tk'' hr C'' (kb.trans kb'))
    · cases h
  · split at h
    · rename_i hlen
      simp only [Option.map_eq_some_iff] at h
      obtain ⟨⟨vs, σ1⟩, h1, h2⟩ := h
      cases h2
      refine Tuple_ (hEs h1 a' K C fun rvs h' tk hvs C' kb => wpAny_newTuple ?_ ?_)
      · obtain ⟨b1, b2, b3⟩ := new_seq (T := "tuple") C'.sr hvs
        exact k _ _ _ (by simp only [VR]; exact ⟨_, rvs, 0, rfl, b1, b2, b3⟩) (C'.ext (KB.push _ _)) (kb.trans (KB.push _ _).of_nil)
      · rw [vrs_len hvs, esA_len h1, sizeLine_eq]; omega
    · cases h
  · split at h
    · rename_i hlen
      simp only [Option.map_eq_some_iff] at h
      obtain ⟨⟨vs, σ1⟩, h1, h2⟩ := h
      cases h2
      refine List_ (hEs h1 a' K C fun rvs h' tk hvs C' kb => wpAny_newList ?_ ?_)
      · obtain ⟨b1, b2, b3⟩ := new_seq (T := "list") C'.sr hvs
        exact k _ _ _ (by simp only [VR]; exact ⟨_, rvs, 0, rfl, b1, b2, b3⟩) (C'.ext (KB.push _ _)) (kb.trans (KB.push _ _).of_nil)
      · rw [vrs_len hvs, esA_len h1, sizeLine_eq]; omega
    · cases h
  · rename_i f fp as cp
    simp only [Option.bind_eq_some_iff] at h
    obtain ⟨fv, h1, ⟨vs, σ1⟩, h2, h3⟩ := h
    split at h3
    · cases h3
    · rename_i hne
      refine wpAny_Call_NameR (nameA_ok h1 K C fun rf hf => ?_)
      cases as with
      | nil => exact absurd rfl hne
      | cons y r =>
        have ns := no_star h2
        have he := star_cons (r := r) env (ns y (by simp))
        have hp : (backTo cp (starEach r env)).any (·.1) = false := back_plain env fun z hz => ns z (List.mem_cons_of_mem _ hz)
        split at h3
        · rename_i f hfv
          simp only [VR] at hf
          subst hf
          refine callWith_K (K := KF w.params) (h₀ := g) C.gd.X (keep_of_caA h3) (hEs h2 a' K C fun rvs h' tk hvs C' kb => ⟨C'.gd.In C'.sr, wpAny_call (hCa h3 a' C'.gd C'.sr hvs fun rv h'' tk' hv S'' kb' => ?_)⟩) he hp
          exact k rv h'' tk' hv (C'.mv S'' kb') (kb.trans kb')
        · simp only [VR] at hf
          subst hf
          split at h3
          · rename_i v1 hv1
            simp only [Option.map_eq_some_iff] at h3
            obtain ⟨u, h4, h5⟩ := h3
            cases h5
            refine PyProof.Rows.callWith_builtin1 (hEs h2 a' K C fun rvs h' tk hvs C' kb => ?_) he hp
            simp only at hv1
            subst hv1
            simp only [VRs] at hvs
            obtain ⟨rv, r', rfl, hv, hr⟩ := hvs
            subst hr
            unfold lenA at h4
            split at h4
            · cases h4
              simp only [VR] at hv
              obtain ⟨W, hW, rfl⟩ := hv
              have O := C'.sr.objs W hW
              obtain ⟨z1, z2, us, hl, hI⟩ := O.mem
              have hn : us.toArray.size = 64 := by have := IntsAre.length hI; simp; omega
              refine PyProof.Rows.len_list hl (by rw [hn]; decide) ?_
              rw [hn]
              exact k _ h' _ (vr_int ⟨Int.le_refl _, Int.le_refl _⟩) C' kb
            · cases h4
          · cases h3
        · cases h3
  · cases h

theorem sss_succ (hSt : SSt prog w n) (hSs : SSs prog w n) : SSs prog w (n + 1) := by
  intro A E D g env e e' σ σ' xs fl s Q h a K C k
  have a' := a.lower (Nat.le_succ n)
  unfold ssA at h
  split at h
  · cases h
    exact wpAny_execs_nil (k .next s.heap s.toks rfl C (KB.refl _ _))
  · simp only [Option.bind_eq_some_iff] at h
    obtain ⟨⟨fl1, e1, σ1⟩, h1, h2⟩ := h
    refine wpAny_execs_cons (hSt h1 a' K C fun f h' tk hf C' kb => ?_)
    cases fl1 with
    | next =>
      cases hf
      exact hSs h2 a' K C' fun f' h'' tk' hf' C'' kb' => k f' h'' tk' hf' C'' (kb.trans kb')
    | ret v =>
      cases h2
      obtain ⟨rv, rfl, hv⟩ := hf
      exact k _ h' tk ⟨rv, rfl, hv⟩ C' kb

theorem KB.L {as : List Addr} {h h' : Heap} {L : Addr} (x : KB as h h') : KB (L :: as) h h' := x.mono fun _ q => List.mem_cons_of_mem _ q

theorem stg_succ (hEv : SEv prog w n) (hTg : STg prog w n) : STg prog w (n + 1) := by
  intro A E D g env e e' σ σ' ts vs rvs s Q h a K C V k
  have a' := a.lower (Nat.le_succ n)
  unfold tgA at h
  split at h
  · cases h
    simp only [VRs] at V
    subst V
    exact wpAny_pure (k s.heap s.toks C (KB.refl _ _))
  · rename_i x px r v vs
    split at h
    · rename_i hl
      simp only [VRs] at V
      obtain ⟨rv, r', rfl, hv, hr⟩ := V
      refine wpAny_assignInOrder_more (ts := (assignEach r env).map (·.2)) (assign_Name (storeA_ok (beq_iff_eq.mp hl) K C hv fun h' tk C' kb _ => ?_))
      obtain ⟨m, N, _⟩ := C.ns
      refine hTg h a' K C' (VRs.keeps (.of_KBL N kb) _ _ hr) fun h'' tk' C'' kb' => k h'' tk' C'' (kb.trans kb')
    · cases h
  · rename_i o i ps r v vs
    simp only [Option.bind_eq_some_iff] at h
    obtain ⟨⟨va, σ1⟩, h1, ⟨vb, σ2⟩, h2, σ3, h3, h4⟩ := h
    simp only [VRs] at V
    obtain ⟨rv, r', rfl, hv, hr⟩ := V
    refine wpAny_assignInOrder_more (ts := (assignEach r env).map (·.2)) ?_
    show wpAny _ _ (assign (.Subscript o i ps) env rv) _ _ _
    refine wpAny_bind (wpAny_holding (hEv h1 a' K C fun ro h' tk ho C' kb => wpAny_bind (wpAny_holding (hEv h2 a' K C' fun ri h'' tk' hi C'' kb' => wpAny_bind (wpAny_standAt (wpAny_bind (wpAny_holding
      (setA_ok h3 (VR.keeps (.of_KB kb') _ _ ho) hi (VR.keeps (.of_KB (kb.trans kb')) _ _ hv) C''.sr fun h3 tk3 S3 kb3 => ?_))))))))
    have C3 := C''.mv S3 kb3
    have kb4 := (kb.trans kb').trans kb3
    refine wpAny_release ?_
    exact hTg h4 a' K C3 (VRs.keeps (.of_KB kb4) _ _ hr) fun h5 tk5 C5 kb5 => k h5 tk5 C5 ((KB.L kb4).trans kb5)
  · cases h

theorem VRs.append {D : Dm} {h : Heap} : ∀ {vs us : List V} {rvs rus : List Value}, VRs D h vs rvs → VRs D h us rus → VRs D h (vs ++ us) (rvs ++ rus)
  | [], us, rvs, rus, x, y => by simp only [VRs] at x; subst x; exact y
  | v :: vs, us, rvs, rus, x, y => by
    simp only [VRs] at x
    obtain ⟨rv, r, rfl, a, b⟩ := x
    simp only [List.cons_append, VRs]
    exact ⟨rv, r ++ rus, rfl, a, VRs.append b y⟩
theorem VRs.reverse {D : Dm} {h : Heap} : ∀ {vs : List V} {rvs : List Value}, VRs D h vs rvs → VRs D h vs.reverse rvs.reverse
  | [], rvs, x => by simp only [VRs] at x; subst x; simp only [List.reverse_nil, VRs]
  | v :: vs, rvs, x => by
    simp only [VRs] at x
    obtain ⟨rv, r, rfl, a, b⟩ := x
    rw [List.reverse_cons, List.reverse_cons]
    exact VRs.append (VRs.reverse b) (by simp only [VRs]; exact ⟨rv, [], rfl, a, rfl⟩)

theorem binds_ok {A : Around} {E : Value → Shared → Prop} {D : Dm} {g : Heap} {env : Env} {σ : CS} (K : EnvOk env) : ∀ (ps : List (Str × V)) {e : List (Str × V)} {rvs : List Value} {s : Shared} {Q : Unit → Shared → Prop},
    (∀ p ∈ ps, env.scope.names.lookup p.1 = some .local) → VRs D s.heap (ps.map (·.2)) rvs → Cx w D g s.heap env e σ →
    (∀ h' tk, Cx w D g h' env (ps.foldl (fun e p => putA p.1 p.2 e) e) σ → KB (env.locals :: tch D) s.heap h' → Q () { s with heap := h', toks := tk }) →
    wpAny (model prog w) A (assignInOrder ((ps.map (·.1)).map fun n => bindName env n) rvs) Q E s
  | [], e, rvs, s, Q, hl, V, C, k => by
    simp only [List.map_nil, VRs] at V
    subst V
    exact wpAny_pure (k s.heap s.toks C (KB.refl _ _))
  | p :: ps, e, rvs, s, Q, hl, V, C, k => by
    simp only [List.map_cons, VRs] at V
    obtain ⟨rv, r, rfl, hv, hr⟩ := V
    refine wpAny_assignInOrder_more (bindName_ (storeA_ok (hl p (by simp)) K C hv fun h' tk C' kb _ => ?_))
    obtain ⟨m, N, _⟩ := C.ns
    exact binds_ok K ps (fun q hq => hl q (by simp [hq])) (VRs.keeps (.of_KBL N kb) _ _ hr) C' fun h'' tk' C'' kb' => k h'' tk' C'' (kb.trans kb')

theorem tg_len {P : Params} : ∀ {n : Nat} {sc : Scope} {e : List (Str × V)} {σ : CS} {ts : List PySem.Expr} {vs : List V} {r : List (Str × V) × CS} (env : Env), tgA P n sc e σ ts vs = some r → (assignEach ts env).findIdx? (·.1) = none ∧ (assignEach ts env).length = vs.length
  | 0, _, _, _, _, _, _, _, h => by simp [tgA] at h
  | n + 1, sc, e, σ, ts, vs, r, env, h => by
    unfold tgA at h
    split at h
    · exact ⟨rfl, rfl⟩
    · split at h
      · have := tg_len env h
        exact ⟨by show List.findIdx? _ ((false, _) :: _) = none; rw [List.findIdx?_cons]; simp [this.1], by show ((false, _) :: _).length = _; simp [this.2]⟩
      · cases h
    · simp only [Option.bind_eq_some_iff] at h
      obtain ⟨_, _, _, _, _, _, h4⟩ := h
      have := tg_len env h4
      exact ⟨by show List.findIdx? _ ((false, _) :: _) = none; rw [List.findIdx?_cons]; simp [this.1], by show ((false, _) :: _).length = _; simp [this.2]⟩
    · cases h

theorem sst_succ (hEv : SEv prog w n) (hTs : STs prog w n) (hSs : SSs prog w n) (hTg : STg prog w n) : SSt prog w (n + 1) := by
  intro A E D g env e e' σ σ' x fl s Q h a K C k
  have a' := a.lower (Nat.le_succ n)
  unfold stA at h
  split at h
  · simp only [Option.map_eq_some_iff] at h
    obtain ⟨⟨va, σ1⟩, h1, h2⟩ := h
    cases h2
    exact wpAny_Return_some (hEv h1 a' K C fun rv h' tk hv C' kb => k _ h' tk ⟨rv, rfl, hv⟩ C' kb.L)
  · split at h
    · rename_i hc
      simp only [Option.map_eq_some_iff] at h
      obtain ⟨⟨va, σ1⟩, h1, h2⟩ := h
      cases h2
      exact wpAny_Expr_any (hEv h1 a' K C fun rv h' tk hv C' kb => k _ h' tk rfl C' kb.L) (not_interactive K) (notComp_swaps hc _ _)
    · cases h
  · simp only [Option.bind_eq_some_iff] at h
    obtain ⟨⟨c, σ1⟩, h1, h2⟩ := h
    refine wpAny_If (hTs h1 a' K C fun h' tk C' kb => ?_)
    cases c with
    | true =>
      simp only [if_true] at h2 ⊢
      exact hSs h2 a' K C' fun f h'' tk' hf C'' kb' => k f h'' tk' hf C'' (kb.L.trans kb')
    | false =>
      simp only [Bool.false_eq_true, if_false] at h2 ⊢
      exact hSs h2 a' K C' fun f h'' tk' hf C'' kb' => k f h'' tk' hf C'' (kb.L.trans kb')
  · split at h
    · rename_i hc
      simp only [Bool.and_eq_true, beq_iff_eq] at hc
      simp only [Option.map_eq_some_iff] at h
      obtain ⟨⟨va, σ1⟩, h1, h2⟩ := h
      cases h2
      exact wpAny_Assign_Name (hEv h1 a' K C fun rv h' tk hv C' kb => storeA_ok hc.2 K C' hv fun h'' tk' C'' kb' _ => k _ h'' tk' rfl C'' (kb.L.trans kb')) (notComp_swaps hc.1 _ _)
    · cases h
  · split at h
    · rename_i hc
      simp only [Option.bind_eq_some_iff, Option.map_eq_some_iff] at h
      obtain ⟨⟨va, σ1⟩, h1, ⟨vb, σ2⟩, h2, ⟨vc, σ3⟩, h3, σ4, h4, h5⟩ := h
      cases h5
      refine wpAny_Assign_Subscript (hEv h1 a' K C fun ra h' tk hv C' kb => hEv h2 a' K C' fun rb h'' tk' hv' C'' kb' => hEv h3 a' K C'' fun rc h3 tk3 hv3 C3 kb3 => ?_) (notComp_swaps hc _ _)
      exact setA_ok h4 (VR.keeps (.of_KB kb3) _ _ hv') hv3 (VR.keeps (.of_KB (kb'.trans kb3)) _ _ hv) C3.sr fun h4 tk4 S4 kb4 => k _ h4 tk4 rfl (C3.mv S4 kb4) (((kb.trans kb').trans kb3).trans kb4).L
    · cases h
  · rename_i ts kk tp v ap
    split at h
    · rename_i hc
      simp only [Option.bind_eq_some_iff] at h
      obtain ⟨⟨va, σ1⟩, h1, h2⟩ := h
      split at h2
      · rename_i vs hvs
        simp only at hvs
        subst hvs
        split at h2
        · rename_i hlen
          have hlen := beq_iff_eq.mp hlen
          split at h2
          · rename_i names hsw
            split at h2
            · rename_i hc2
              cases h2
              simp only [Bool.and_eq_true, beq_iff_eq, List.all_eq_true] at hc2
              refine Assign_Tuple_swapped (names := names) (hEv h1 a' K C fun rv h' tk hv C' kb => ?_) (notComp_sole hc _ _) (swap_ok hsw)
              simp only [VR] at hv
              obtain ⟨t, rvs, m, rfl, nt, ht, hr⟩ := hv
              have e1 : names.length = rvs.toArray.size := by rw [List.size_toArray, vrs_len hr]; exact hc2.1
              rw [e1]
              refine wpAny_unpackItems_tuple a.hand ⟨_, ht, rfl, m, rfl⟩ fun h'' hx => ?_
              have kb' : KB [] h' h'' := KB.of_ext hx
              have C'' := C'.ext kb'
              have hr' := VRs.keeps (.of_KB kb'.of_nil) _ _ hr
              have e2 : ((names.zip vs).reverse.map (·.1)) = names.reverse := by rw [List.map_reverse, List.map_fst_zip (by omega)]
              have e3 : ((names.zip vs).reverse.map (·.2)) = vs.reverse := by rw [List.map_reverse, List.map_snd_zip (by omega)]
              have := binds_ok (prog := prog) (A := A) (E := E) (s := { s with heap := h'', toks := tk }) (rvs := rvs.reverse) (Q := fun _ => Q .next) K (names.zip vs).reverse (e := e) (σ := σ1) (D := D) (g := g)
                (fun p hp => hc2.2 _ (List.of_mem_zip (List.mem_reverse.mp hp)).1) (by rw [e3]; exact VRs.reverse hr') C'' fun h3 tk3 C3 kb3 => ?_
              · rw [e2] at this
                exact this
              · rw [List.foldl_reverse] at C3
                exact k .next h3 tk3 rfl C3 ((kb.trans kb'.of_nil).L.trans kb3)
            · cases h2
          · rename_i hsw
            simp only [Option.map_eq_some_iff] at h2
            obtain ⟨⟨e1, σ2⟩, h3, h4⟩ := h2
            cases h4
            refine Assign_Tuple (hEv h1 a' K C fun rv h' tk hv C' kb => ?_) (notComp_sole hc _ _) (swap_ok hsw)
            simp only [VR] at hv
            obtain ⟨t, rvs, m, rfl, nt, ht, hr⟩ := hv
            have tl := tg_len env h3
            refine wpAny_assign_Tuple a.hand (items := rvs.toArray) ⟨_, ht, rfl, m, rfl⟩ (by rw [List.size_toArray, vrs_len hr]; exact tl.2) tl.1 fun h'' hx => ?_
            have kb' : KB [] h' h'' := KB.of_ext hx
            exact hTg h3 a' K (C'.ext kb') (VRs.keeps (.of_KB kb'.of_nil) _ _ hr) fun h3 tk3 C3 kb3 => k .next h3 tk3 rfl C3 ((kb.trans kb'.of_nil).L.trans kb3)
          · cases h2
        · cases h2
      · cases h2
    · cases h
  · split at h
    · rename_i hl
      have hl := beq_iff_eq.mp hl
      simp only [Option.bind_eq_some_iff, Option.map_eq_some_iff] at h
      obtain ⟨old, h1, ⟨va, σ1⟩, h2, r, h3, h4⟩ := h
      cases h4
      split at h3
      · obtain ⟨m, N, hm⟩ := C.ns
        obtain ⟨ro, y1, y2⟩ := hm _ _ h1
        unfold Holds at y1
        rw [hl] at y1
        refine wpAny_AugAssign_Name (wpAny_loadName_local K.kind hl N y1 (hEv h2 a' K C fun rv h' tk hv C' kb => ?_))
        have y3 := VR.keeps (.of_KB kb) _ _ y2
        dsimp only at h3
        unfold binA at h3
        split at h3
        · dsimp only at h3
          cases h3
          simp only [VR] at y3 hv
          obtain ⟨⟨t, rfl⟩, r1⟩ := y3
          obtain ⟨⟨u, rfl⟩, r2⟩ := hv
          exact PyProof.Rows.ixor_int (storeA_ok (s := { s with heap := h', toks := tk + 1 }) hl K C' (vr_int (InR.one r1 r2 (r1.xor0 r2))) fun h'' tk' C'' kb' _ => k _ h'' tk' rfl C'' (kb.L.trans kb'))
        · cases h3
        · cases h3
      · cases h3
    · cases h
  · simp only [Option.bind_eq_some_iff] at h
    obtain ⟨ov, h1, old, h2, ⟨va, σ1⟩, h3, h4⟩ := h
    split at h4
    · rename_i i j gj hva
      simp only at hva
      subst hva
      split at h4
      · rename_i hst
        cases h4
        have hst := beq_iff_eq.mp hst
        subst hst
        refine wpAny_AugAssign_AttributeAny (nameA_ok h1 K C fun ro ho => attrA_ok h2 ho C.gd C.sr fun rv tk hv => hEv h3 a' K C fun rj h' tk' hj C' kb => ?_)
        simp only [VR] at ho hv hj
        obtain ⟨W, hW, rfl⟩ := ho
        obtain ⟨⟨t, rfl⟩, _⟩ := hv
        obtain ⟨⟨u, rfl⟩, _⟩ := hj
        exact PyProof.Rows.iadd_int (setSt_ok (s := { s with heap := h', toks := tk' + 1 }) hW C'.gd C'.sr fun h'' tk'' S'' kb' => k _ h'' tk'' rfl (C'.mv S'' kb') (kb.trans kb').L)
      · cases h4
    · cases h4
  · cases h

theorem sound (prog : Program) (w : World) : ∀ n, SEv prog w n ∧ SEs prog w n ∧ SPr prog w n ∧ STs prog w n ∧ SCa prog w n ∧ SSt prog w n ∧ STg prog w n ∧ SSs prog w n
  | 0 => by
    refine ⟨?_, ?_, ?_, ?_, ?_, ?_, ?_, ?_⟩
    · intro A E D g env e σ σ' x v s Q h; simp [evA] at h
    · intro A E D g env e σ σ' pos xs vs s Q h; simp [esA] at h
    · intro A E D g env e σ σ' pos ks vs l s Q h; simp [prA] at h
    · intro A E D g env e σ σ' x b s Q h; simp [tsA] at h
    · intro A R D g σ σ' f vs v rvs s h; simp [caA] at h
    · intro A E D g env e e' σ σ' x fl s Q h; simp [stA] at h
    · intro A E D g env e e' σ σ' ts vs rvs s Q h; simp [tgA] at h
    · intro A E D g env e e' σ σ' xs fl s Q h; simp [ssA] at h
  | n + 1 => by
    obtain ⟨a, b, c, d, e, f, g, h⟩ := sound prog w n
    exact ⟨sev_succ a b c d e, ses_succ a b, spr_succ a c, sts_succ a d, sca_succ h, sst_succ a d h g, stg_succ a g, sss_succ f h⟩
end
end Mine

namespace Mine
open PySem PySem.W PySem.Calls PyProof.Rows

/-- an order of the law: octet, what it reads, what it writes -/
structure Ord where
  oct : Int
  rd : Str
  wr : Str

noncomputable def has (x : Str) (c : Nat) : Bool := x.cps.toList.any (fun d => Nat.beq d c)
/-- the letters B C D E H L F A -/
noncomputable def letters : List Nat := [66, 67, 68, 69, 72, 76, 70, 65]
noncomputable def maskL (x : Str) : List Nat → List Int → List Int
  | c :: cs, r :: R => cond (has x c) r 0 :: maskL x cs R
  | _, _ => []
noncomputable def masked (x : Str) (R : List Int) : List Int := maskL x letters R
noncomputable def overL (x : Str) : List Nat → List Int → List Int → List Int
  | c :: cs, R', r :: R => cond (has x c) (R'.headD 0) r :: overL x cs R'.tail R
  | _, _, R => R
noncomputable def over (x : Str) (R' R : List Int) : List Int := overL x letters R' R

noncomputable section
noncomputable def runP (P : Params) (oct : Int) (a : Addr) (σ : CS) : Option (V × CS) := caA P 60 344 [.cpu, .mem, .ref a, .int oct (some (oct, oct))] σ

noncomputable def step (P : Params) (o : Ord) (σ : CS) : CS := match runP P o.oct 0 ⟨masked o.rd σ.R, cond (has o.rd 77 || has o.wr 77) σ.M [], 0⟩ with
  | some (_, τ) => ⟨over o.wr τ.R σ.R, cond (has o.wr 77) τ.M σ.M, σ.st + τ.st⟩
  | none => σ

noncomputable def Foot (o : Ord) : Prop := ∀ (P : Params) (a : Addr) (r0 r1 r2 r3 r4 r5 r6 r7 : Int) (M : List Int) (st : Int),
  runP P o.oct a ⟨[r0, r1, r2, r3, r4, r5, r6, r7], M, st⟩ = some (.none, step P o ⟨[r0, r1, r2, r3, r4, r5, r6, r7], M, st⟩)
end
end Mine

namespace Mine
open PySem PySem.W PySem.Calls PyProof.Rows
noncomputable def ords0 : List Ord := [⟨64, "B", "B"⟩, ⟨65, "C", "B"⟩, ⟨66, "D", "B"⟩, ⟨67, "E", "B"⟩, ⟨68, "H", "B"⟩, ⟨69, "L", "B"⟩, ⟨70, "HLM", "B"⟩, ⟨71, "A", "B"⟩, ⟨72, "B", "C"⟩, ⟨73, "C", "C"⟩, ⟨74, "D", "C"⟩, ⟨75, "E", "C"⟩]
noncomputable def ords1 : List Ord := [⟨76, "H", "C"⟩, ⟨77, "L", "C"⟩, ⟨78, "HLM", "C"⟩, ⟨79, "A", "C"⟩, ⟨80, "B", "D"⟩, ⟨81, "C", "D"⟩, ⟨82, "D", "D"⟩, ⟨83, "E", "D"⟩, ⟨84, "H", "D"⟩, ⟨85, "L", "D"⟩, ⟨86, "HLM", "D"⟩, ⟨87, "A", "D"⟩]
noncomputable def ords2 : List Ord := [⟨88, "B", "E"⟩, ⟨89, "C", "E"⟩, ⟨90, "D", "E"⟩, ⟨91, "E", "E"⟩, ⟨92, "H", "E"⟩, ⟨93, "L", "E"⟩, ⟨94, "HLM", "E"⟩, ⟨95, "A", "E"⟩, ⟨96, "B", "H"⟩, ⟨97, "C", "H"⟩, ⟨98, "D", "H"⟩, ⟨99, "E", "H"⟩]
noncomputable def ords3 : List Ord := [⟨100, "H", "H"⟩, ⟨101, "L", "H"⟩, ⟨102, "HLM", "H"⟩, ⟨103, "A", "H"⟩, ⟨104, "B", "L"⟩, ⟨105, "C", "L"⟩, ⟨106, "D", "L"⟩, ⟨107, "E", "L"⟩, ⟨108, "H", "L"⟩, ⟨109, "L", "L"⟩, ⟨110, "HLM", "L"⟩, ⟨111, "A", "L"⟩]
noncomputable def ords4 : List Ord := [⟨112, "BHL", "M"⟩, ⟨113, "CHL", "M"⟩, ⟨114, "DHL", "M"⟩, ⟨115, "EHL", "M"⟩, ⟨116, "HHL", "M"⟩, ⟨117, "LHL", "M"⟩, ⟨119, "AHL", "M"⟩, ⟨120, "B", "A"⟩, ⟨121, "C", "A"⟩, ⟨122, "D", "A"⟩, ⟨123, "E", "A"⟩, ⟨124, "H", "A"⟩]
noncomputable def ords5 : List Ord := [⟨125, "L", "A"⟩, ⟨126, "HLM", "A"⟩, ⟨127, "A", "A"⟩, ⟨128, "AFB", "AF"⟩, ⟨129, "AFC", "AF"⟩, ⟨130, "AFD", "AF"⟩, ⟨131, "AFE", "AF"⟩, ⟨132, "AFH", "AF"⟩, ⟨133, "AFL", "AF"⟩, ⟨134, "AFHLM", "AF"⟩, ⟨135, "AFA", "AF"⟩, ⟨136, "AFB", "AF"⟩]
noncomputable def ords6 : List Ord := [⟨137, "AFC", "AF"⟩, ⟨138, "AFD", "AF"⟩, ⟨139, "AFE", "AF"⟩, ⟨140, "AFH", "AF"⟩, ⟨141, "AFL", "AF"⟩, ⟨142, "AFHLM", "AF"⟩, ⟨143, "AFA", "AF"⟩, ⟨144, "AFB", "AF"⟩, ⟨145, "AFC", "AF"⟩, ⟨146, "AFD", "AF"⟩, ⟨147, "AFE", "AF"⟩, ⟨148, "AFH", "AF"⟩]
noncomputable def ords7 : List Ord := [⟨149, "AFL", "AF"⟩, ⟨150, "AFHLM", "AF"⟩, ⟨151, "AFA", "AF"⟩, ⟨152, "AFB", "AF"⟩, ⟨153, "AFC", "AF"⟩, ⟨154, "AFD", "AF"⟩, ⟨155, "AFE", "AF"⟩, ⟨156, "AFH", "AF"⟩, ⟨157, "AFL", "AF"⟩, ⟨158, "AFHLM", "AF"⟩, ⟨159, "AFA", "AF"⟩, ⟨160, "AFB", "AF"⟩]
noncomputable def ords8 : List Ord := [⟨161, "AFC", "AF"⟩, ⟨162, "AFD", "AF"⟩, ⟨163, "AFE", "AF"⟩, ⟨164, "AFH", "AF"⟩, ⟨165, "AFL", "AF"⟩, ⟨166, "AFHLM", "AF"⟩, ⟨167, "AFA", "AF"⟩, ⟨168, "AFB", "AF"⟩, ⟨169, "AFC", "AF"⟩, ⟨170, "AFD", "AF"⟩, ⟨171, "AFE", "AF"⟩, ⟨172, "AFH", "AF"⟩]
noncomputable def ords9 : List Ord := [⟨173, "AFL", "AF"⟩, ⟨174, "AFHLM", "AF"⟩, ⟨175, "AFA", "AF"⟩, ⟨176, "AFB", "AF"⟩, ⟨177, "AFC", "AF"⟩, ⟨178, "AFD", "AF"⟩, ⟨179, "AFE", "AF"⟩, ⟨180, "AFH", "AF"⟩, ⟨181, "AFL", "AF"⟩, ⟨182, "AFHLM", "AF"⟩, ⟨183, "AFA", "AF"⟩, ⟨184, "AFB", "F"⟩]
noncomputable def ords10 : List Ord := [⟨185, "AFC", "F"⟩, ⟨186, "AFD", "F"⟩, ⟨187, "AFE", "F"⟩, ⟨188, "AFH", "F"⟩, ⟨189, "AFL", "F"⟩, ⟨190, "AFHLM", "F"⟩, ⟨191, "AFA", "F"⟩, ⟨3, "BC", "BC"⟩, ⟨11, "BC", "BC"⟩, ⟨19, "DE", "DE"⟩, ⟨27, "DE", "DE"⟩, ⟨35, "HL", "HL"⟩]
noncomputable def ords11 : List Ord := [⟨43, "HL", "HL"⟩, ⟨4, "FB", "FB"⟩, ⟨5, "FB", "FB"⟩, ⟨12, "FC", "FC"⟩, ⟨13, "FC", "FC"⟩, ⟨20, "FD", "FD"⟩, ⟨21, "FD", "FD"⟩, ⟨28, "FE", "FE"⟩, ⟨29, "FE", "FE"⟩, ⟨36, "FH", "FH"⟩, ⟨37, "FH", "FH"⟩, ⟨44, "FL", "FL"⟩]
noncomputable def ords12 : List Ord := [⟨45, "FL", "FL"⟩, ⟨52, "FHLM", "FM"⟩, ⟨53, "FHLM", "FM"⟩, ⟨60, "FA", "FA"⟩, ⟨61, "FA", "FA"⟩, ⟨9, "HLFBC", "HLF"⟩, ⟨25, "HLFDE", "HLF"⟩, ⟨41, "HLFHL", "HLF"⟩, ⟨2, "BCA", "M"⟩, ⟨10, "BCM", "A"⟩, ⟨18, "DEA", "M"⟩, ⟨26, "DEM", "A"⟩]
noncomputable def ords13 : List Ord := [⟨7, "AF", "AF"⟩, ⟨15, "AF", "AF"⟩, ⟨23, "AF", "AF"⟩, ⟨31, "AF", "AF"⟩, ⟨47, "AF", "AF"⟩, ⟨55, "AF", "F"⟩, ⟨63, "AF", "F"⟩, ⟨235, "DEHL", "DEHL"⟩]
noncomputable def ords : List Ord := ords0 ++ ords1 ++ ords2 ++ ords3 ++ ords4 ++ ords5 ++ ords6 ++ ords7 ++ ords8 ++ ords9 ++ ords10 ++ ords11 ++ ords12 ++ ords13
theorem foot_0 : ∀ o ∈ ords0, Foot o := by
  refine List.forall_mem_cons.mpr ⟨?_, List.forall_mem_cons.mpr ⟨?_, List.forall_mem_cons.mpr ⟨?_, List.forall_mem_cons.mpr ⟨?_, List.forall_mem_cons.mpr ⟨?_, List.forall_mem_cons.mpr ⟨?_, List.forall_mem_cons.mpr ⟨?_, List.forall_mem_cons.mpr ⟨?_, List.forall_mem_cons.mpr ⟨?_, List.forall_mem_cons.mpr ⟨?_, List.forall_mem_cons.mpr ⟨?_, List.forall_mem_cons.mpr ⟨?_, List.forall_mem_nil _⟩⟩⟩⟩⟩⟩⟩⟩⟩⟩⟩⟩ <;> (intro P a r0 r1 r2 r3 r4 r5 r6 r7 M st; kernel_rfl)
theorem foot_1 : ∀ o ∈ ords1, Foot o := by
  refine List.forall_mem_cons.mpr ⟨?_, List.forall_mem_cons.mpr ⟨?_, List.forall_mem_cons.mpr ⟨?_, List.forall_mem_cons.mpr ⟨?_, List.forall_mem_cons.mpr ⟨?_, List.forall_mem_cons.mpr ⟨?_, List.forall_mem_cons.mpr ⟨?_, List.forall_mem_cons.mpr ⟨?_, List.forall_mem_cons.mpr ⟨?_, List.forall_mem_cons.mpr ⟨?_, List.forall_mem_cons.mpr ⟨?_, List.forall_mem_cons.mpr ⟨?_, List.forall_mem_nil _⟩⟩⟩⟩⟩⟩⟩⟩⟩⟩⟩⟩ <;> (intro P a r0 r1 r2 r3 r4 r5 r6 r7 M st; kernel_rfl)
theorem foot_2 : ∀ o ∈ ords2, Foot o := by
  refine List.forall_mem_cons.mpr ⟨?_, List.forall_mem_cons.mpr ⟨?_, List.forall_mem_cons.mpr ⟨?_, List.forall_mem_cons.mpr ⟨?_, List.forall_mem_cons.mpr ⟨?_, List.forall_mem_cons.mpr ⟨?_, List.forall_mem_cons.mpr ⟨?_, List.forall_mem_cons.mpr ⟨?_, List.forall_mem_cons.mpr ⟨?_, List.forall_mem_cons.mpr ⟨?_, List.forall_mem_cons.mpr ⟨?_, List.forall_mem_cons.mpr ⟨?_, List.forall_mem_nil _⟩⟩⟩⟩⟩⟩⟩⟩⟩⟩⟩⟩ <;> (intro P a r0 r1 r2 r3 r4 r5 r6 r7 M st; kernel_rfl)
theorem foot_3 : ∀ o ∈ ords3, Foot o := by
  refine List.forall_mem_cons.mpr ⟨?_, List.forall_mem_cons.mpr ⟨?_, List.forall_mem_cons.mpr ⟨?_, List.forall_mem_cons.mpr ⟨?_, List.forall_mem_cons.mpr ⟨?_, List.forall_mem_cons.mpr ⟨?_, List.forall_mem_cons.mpr ⟨?_, List.forall_mem_cons.mpr ⟨?_, List.forall_mem_cons.mpr ⟨?_, List.forall_mem_cons.mpr ⟨?_, List.forall_mem_cons.mpr ⟨?_, List.forall_mem_cons.mpr ⟨?_, List.forall_mem_nil _⟩⟩⟩⟩⟩⟩⟩⟩⟩⟩⟩⟩ <;> (intro P a r0 r1 r2 r3 r4 r5 r6 r7 M st; kernel_rfl)
theorem foot_4 : ∀ o ∈ ords4, Foot o := by
  refine List.forall_mem_cons.mpr ⟨?_, List.forall_mem_cons.mpr ⟨?_, List.forall_mem_cons.mpr ⟨?_, List.forall_mem_cons.mpr ⟨?_, List.forall_mem_cons.mpr ⟨?_, List.forall_mem_cons.mpr ⟨?_, List.forall_mem_cons.mpr ⟨?_, List.forall_mem_cons.mpr ⟨?_, List.forall_mem_cons.mpr ⟨?_, List.forall_mem_cons.mpr ⟨?_, List.forall_mem_cons.mpr ⟨?_, List.forall_mem_cons.mpr ⟨?_, List.forall_mem_nil _⟩⟩⟩⟩⟩⟩⟩⟩⟩⟩⟩⟩ <;> (intro P a r0 r1 r2 r3 r4 r5 r6 r7 M st; kernel_rfl)
theorem foot_5 : ∀ o ∈ ords5, Foot o := by
  refine List.forall_mem_cons.mpr ⟨?_, List.forall_mem_cons.mpr ⟨?_, List.forall_mem_cons.mpr ⟨?_, List.forall_mem_cons.mpr ⟨?_, List.forall_mem_cons.mpr ⟨?_, List.forall_mem_cons.mpr ⟨?_, List.forall_mem_cons.mpr ⟨?_, List.forall_mem_cons.mpr ⟨?_, List.forall_mem_cons.mpr ⟨?_, List.forall_mem_cons.mpr ⟨?_, List.forall_mem_cons.mpr ⟨?_, List.forall_mem_cons.mpr ⟨?_, List.forall_mem_nil _⟩⟩⟩⟩⟩⟩⟩⟩⟩⟩⟩⟩ <;> (intro P a r0 r1 r2 r3 r4 r5 r6 r7 M st; kernel_rfl)
theorem foot_6 : ∀ o ∈ ords6, Foot o := by
  refine List.forall_mem_cons.mpr ⟨?_, List.forall_mem_cons.mpr ⟨?_, List.forall_mem_cons.mpr ⟨?_, List.forall_mem_cons.mpr ⟨?_, List.forall_mem_cons.mpr ⟨?_, List.forall_mem_cons.mpr ⟨?_, List.forall_mem_cons.mpr ⟨?_, List.forall_mem_cons.mpr ⟨?_, List.forall_mem_cons.mpr ⟨?_, List.forall_mem_cons.mpr ⟨?_, List.forall_mem_cons.mpr ⟨?_, List.forall_mem_cons.mpr ⟨?_, List.forall_mem_nil _⟩⟩⟩⟩⟩⟩⟩⟩⟩⟩⟩⟩ <;> (intro P a r0 r1 r2 r3 r4 r5 r6 r7 M st; kernel_rfl)
theorem foot_7 : ∀ o ∈ ords7, Foot o := by
  refine List.forall_mem_cons.mpr ⟨?_, List.forall_mem_cons.mpr ⟨?_, List.forall_mem_cons.mpr ⟨?_, List.forall_mem_cons.mpr ⟨?_, List.forall_mem_cons.mpr ⟨?_, List.forall_mem_cons.mpr ⟨?_, List.forall_mem_cons.mpr ⟨?_, List.forall_mem_cons.mpr ⟨?_, List.forall_mem_cons.mpr ⟨?_, List.forall_mem_cons.mpr ⟨?_, List.forall_mem_cons.mpr ⟨?_, List.forall_mem_cons.mpr ⟨?_, List.forall_mem_nil _⟩⟩⟩⟩⟩⟩⟩⟩⟩⟩⟩⟩ <;> (intro P a r0 r1 r2 r3 r4 r5 r6 r7 M st; kernel_rfl)
theorem foot_8 : ∀ o ∈ ords8, Foot o := by
  refine List.forall_mem_cons.mpr ⟨?_, List.forall_mem_cons.mpr ⟨?_, List.forall_mem_cons.mpr ⟨?_, List.forall_mem_cons.mpr ⟨?_, List.forall_mem_cons.mpr ⟨?_, List.forall_mem_cons.mpr ⟨?_, List.forall_mem_cons.mpr ⟨?_, List.forall_mem_cons.mpr ⟨?_, List.forall_mem_cons.mpr ⟨?_, List.forall_mem_cons.mpr ⟨?_, List.forall_mem_cons.mpr ⟨?_, List.forall_mem_cons.mpr ⟨?_, List.forall_mem_nil _⟩⟩⟩⟩⟩⟩⟩⟩⟩⟩⟩⟩ <;> (intro P a r0 r1 r2 r3 r4 r5 r6 r7 M st; kernel_rfl)
theorem foot_9 : ∀ o ∈ ords9, Foot o := by
  refine List.forall_mem_cons.mpr ⟨?_, List.forall_mem_cons.mpr ⟨?_, List.forall_mem_cons.mpr ⟨?_, List.forall_mem_cons.mpr ⟨?_, List.forall_mem_cons.mpr ⟨?_, List.forall_mem_cons.mpr ⟨?_, List.forall_mem_cons.mpr ⟨?_, List.forall_mem_cons.mpr ⟨?_, List.forall_mem_cons.mpr ⟨?_, List.forall_mem_cons.mpr ⟨?_, List.forall_mem_cons.mpr ⟨?_, List.forall_mem_cons.mpr ⟨?_, List.forall_mem_nil _⟩⟩⟩⟩⟩⟩⟩⟩⟩⟩⟩⟩ <;> (intro P a r0 r1 r2 r3 r4 r5 r6 r7 M st; kernel_rfl)
theorem foot_10 : ∀ o ∈ ords10, Foot o := by
  refine List.forall_mem_cons.mpr ⟨?_, List.forall_mem_cons.mpr ⟨?_, List.forall_mem_cons.mpr ⟨?_, List.forall_mem_cons.mpr ⟨?_, List.forall_mem_cons.mpr ⟨?_, List.forall_mem_cons.mpr ⟨?_, List.forall_mem_cons.mpr ⟨?_, List.forall_mem_cons.mpr ⟨?_, List.forall_mem_cons.mpr ⟨?_, List.forall_mem_cons.mpr ⟨?_, List.forall_mem_cons.mpr ⟨?_, List.forall_mem_cons.mpr ⟨?_, List.forall_mem_nil _⟩⟩⟩⟩⟩⟩⟩⟩⟩⟩⟩⟩ <;> (intro P a r0 r1 r2 r3 r4 r5 r6 r7 M st; kernel_rfl)
theorem foot_11 : ∀ o ∈ ords11, Foot o := by
  refine List.forall_mem_cons.mpr ⟨?_, List.forall_mem_cons.mpr ⟨?_, List.forall_mem_cons.mpr ⟨?_, List.forall_mem_cons.mpr ⟨?_, List.forall_mem_cons.mpr ⟨?_, List.forall_mem_cons.mpr ⟨?_, List.forall_mem_cons.mpr ⟨?_, List.forall_mem_cons.mpr ⟨?_, List.forall_mem_cons.mpr ⟨?_, List.forall_mem_cons.mpr ⟨?_, List.forall_mem_cons.mpr ⟨?_, List.forall_mem_cons.mpr ⟨?_, List.forall_mem_nil _⟩⟩⟩⟩⟩⟩⟩⟩⟩⟩⟩⟩ <;> (intro P a r0 r1 r2 r3 r4 r5 r6 r7 M st; kernel_rfl)
theorem foot_12 : ∀ o ∈ ords12, Foot o := by
  refine List.forall_mem_cons.mpr ⟨?_, List.forall_mem_cons.mpr ⟨?_, List.forall_mem_cons.mpr ⟨?_, List.forall_mem_cons.mpr ⟨?_, List.forall_mem_cons.mpr ⟨?_, List.forall_mem_cons.mpr ⟨?_, List.forall_mem_cons.mpr ⟨?_, List.forall_mem_cons.mpr ⟨?_, List.forall_mem_cons.mpr ⟨?_, List.forall_mem_cons.mpr ⟨?_, List.forall_mem_cons.mpr ⟨?_, List.forall_mem_cons.mpr ⟨?_, List.forall_mem_nil _⟩⟩⟩⟩⟩⟩⟩⟩⟩⟩⟩⟩ <;> (intro P a r0 r1 r2 r3 r4 r5 r6 r7 M st; kernel_rfl)
theorem foot_13 : ∀ o ∈ ords13, Foot o := by
  refine List.forall_mem_cons.mpr ⟨?_, List.forall_mem_cons.mpr ⟨?_, List.forall_mem_cons.mpr ⟨?_, List.forall_mem_cons.mpr ⟨?_, List.forall_mem_cons.mpr ⟨?_, List.forall_mem_cons.mpr ⟨?_, List.forall_mem_cons.mpr ⟨?_, List.forall_mem_cons.mpr ⟨?_, List.forall_mem_nil _⟩⟩⟩⟩⟩⟩⟩⟩ <;> (intro P a r0 r1 r2 r3 r4 r5 r6 r7 M st; kernel_rfl)
theorem foots : ∀ o ∈ ords, Foot o := by
  intro o h
  simp only [ords, List.mem_append] at h
  rcases h with (((((((((((((h | h) | h) | h) | h) | h) | h) | h) | h) | h) | h) | h) | h) | h)
  · exact foot_0 o h
  · exact foot_1 o h
  · exact foot_2 o h
  · exact foot_3 o h
  · exact foot_4 o h
  · exact foot_5 o h
  · exact foot_6 o h
  · exact foot_7 o h
  · exact foot_8 o h
  · exact foot_9 o h
  · exact foot_10 o h
  · exact foot_11 o h
  · exact foot_12 o h
  · exact foot_13 o h
end Mine

namespace Mine
open PySem PySem.W PySem.Calls PyProof.Rows

theorem getD_off {R : List Int} {i : Nat} (h : R.length ≤ i) : R.getD i 0 = 0 := by simp [List.getD_eq_getElem?_getD, h]
theorem overL_len (x : Str) : ∀ (cs : List Nat) (R' R : List Int), (overL x cs R' R).length = R.length
  | [], _, _ => by simp [overL]
  | _ :: _, _, [] => by simp [overL]
  | c :: cs, R', r :: R => by simp [overL, overL_len x cs]
theorem overL_get (x : Str) : ∀ (cs : List Nat) (R' R : List Int) (i c : Nat), cs[i]? = some c → i < R.length → (overL x cs R' R).getD i 0 = cond (has x c) (R'.getD i 0) (R.getD i 0)
  | [], _, _, _, _, h, _ => by simp at h
  | _ :: _, _, [], _, _, _, h => by simp at h
  | c :: cs, R', r :: R, 0, _, h, _ => by
    simp at h
    subst h
    cases R' <;> simp [overL]
  | c :: cs, R', r :: R, i + 1, d, h, hi => by
    have := overL_get x cs R'.tail R i d (by simpa using h) (by simpa using hi)
    simp only [overL, List.getD_cons_succ, this]
    cases R' <;> simp
theorem overL_off (x : Str) : ∀ (cs : List Nat) (R' R : List Int) (i : Nat), cs.length ≤ i → (overL x cs R' R).getD i 0 = R.getD i 0
  | [], _, _, _, _ => by simp [overL]
  | _ :: _, _, [], _, _ => by simp [overL]
  | c :: cs, R', r :: R, 0, h => by simp at h
  | c :: cs, R', r :: R, i + 1, h => by
    simp only [overL, List.getD_cons_succ]
    exact overL_off x cs R'.tail R i (by simpa using h)
theorem maskL_eq (x : Str) : ∀ (cs : List Nat) (R R' : List Int), R.length = R'.length → (∀ i c, cs[i]? = some c → has x c = true → R.getD i 0 = R'.getD i 0) → maskL x cs R = maskL x cs R'
  | [], _, _, _, _ => by simp [maskL]
  | _ :: _, [], [], _, _ => rfl
  | _ :: _, [], _ :: _, h, _ => by simp at h
  | _ :: _, _ :: _, [], h, _ => by simp at h
  | c :: cs, r :: R, r' :: R', h, k => by
    have a := maskL_eq x cs R R' (by simpa using h) fun i d hd hx => by simpa using k (i + 1) d (by simpa using hd) hx
    have b := k 0 c rfl
    simp only [maskL, a]
    cases z : has x c with
    | false => rfl
    | true => have := b z; simp at this; simp [this]
theorem ext_getD {R R' : List Int} (h : R.length = R'.length) (k : ∀ i, R.getD i 0 = R'.getD i 0) : R = R' := by
  refine List.ext_getElem h fun i h1 h2 => ?_
  have := k i
  simpa [List.getD_eq_getElem?_getD, h1, h2] using this

/-- the state agrees on the letters of x -/
structure Agree (x : Nat → Bool) (σ σ' : CS) : Prop where
  len : σ.R.length = σ'.R.length
  reg : ∀ i c, letters[i]? = some c → x c = true → σ.R.getD i 0 = σ'.R.getD i 0
  mem : x 77 = true → σ.M = σ'.M
theorem Agree.refl (x : Nat → Bool) (σ : CS) : Agree x σ σ := ⟨rfl, fun _ _ _ _ => rfl, fun _ => rfl⟩

section
variable {P : Params}
/-- what the order's run on the masked state gives -/
noncomputable def inner (P : Params) (o : Ord) (σ : CS) : Option (V × CS) := runP P o.oct 0 ⟨masked o.rd σ.R, cond (has o.rd 77 || has o.wr 77) σ.M [], 0⟩
theorem step_eq (o : Ord) (σ : CS) : step P o σ = match inner P o σ with
  | some (_, τ) => ⟨over o.wr τ.R σ.R, cond (has o.wr 77) τ.M σ.M, σ.st + τ.st⟩
  | none => σ := rfl
theorem inner_eq {o : Ord} {σ σ' : CS} (h : Agree (fun c => has o.rd c) σ σ') (hm : has o.wr 77 = true → σ.M = σ'.M) : inner P o σ = inner P o σ' := by
  unfold inner masked
  rw [maskL_eq o.rd letters σ.R σ'.R h.len h.reg]
  cases z : has o.rd 77 with
  | true => rw [h.mem z]
  | false =>
    cases y : has o.wr 77 with
    | true => rw [hm y]
    | false => rfl
theorem step_len (o : Ord) (σ : CS) : (step P o σ).R.length = σ.R.length := by
  rw [step_eq]
  split
  · exact overL_len _ _ _ _
  · rfl
theorem step_off {o : Ord} {σ : CS} {i c : Nat} (hc : letters[i]? = some c) (h : has o.wr c = false) : (step P o σ).R.getD i 0 = σ.R.getD i 0 := by
  rw [step_eq]
  split
  · by_cases hi : i < σ.R.length
    · show (overL _ _ _ _).getD i 0 = _
      rw [overL_get _ _ _ _ i c hc hi, h]; rfl
    · show (overL _ _ _ _).getD i 0 = _
      rw [getD_off (by rw [overL_len]; omega), getD_off (by omega)]
  · rfl
theorem step_offM {o : Ord} {σ : CS} (h : has o.wr 77 = false) : (step P o σ).M = σ.M := by
  rw [step_eq]
  split
  · rw [h]; rfl
  · rfl
/-- what is written hangs on what is read -/
theorem step_on {o : Ord} {σ σ' : CS} (e : inner P o σ = inner P o σ') (hl : σ.R.length = σ'.R.length) (hi : (inner P o σ).isSome = true) {i c : Nat} (hc : letters[i]? = some c) (h : has o.wr c = true) :
    (step P o σ).R.getD i 0 = (step P o σ').R.getD i 0 := by
  rw [step_eq, step_eq, ← e]
  cases z : inner P o σ with
  | none => rw [z] at hi; cases hi
  | some p =>
    obtain ⟨v, τ⟩ := p
    show (overL _ _ _ _).getD i 0 = (overL _ _ _ _).getD i 0
    by_cases hi : i < σ.R.length
    · rw [overL_get _ _ _ _ i c hc hi, overL_get _ _ _ _ i c hc (by omega), h]; rfl
    · rw [getD_off (by rw [overL_len]; omega), getD_off (by rw [overL_len]; omega)]
theorem step_onM {o : Ord} {σ σ' : CS} (e : inner P o σ = inner P o σ') (hi : (inner P o σ).isSome = true) (h : has o.wr 77 = true) : (step P o σ).M = (step P o σ').M := by
  rw [step_eq, step_eq, ← e]
  cases z : inner P o σ with
  | none => rw [z] at hi; cases hi
  | some p => simp only [h, cond]

/-- neither writes what the other one reads or writes -/
structure Apart (o o' : Ord) : Prop where
  a : ∀ c, has o.wr c = true → has o'.rd c = false ∧ has o'.wr c = false
  b : ∀ c, has o'.wr c = true → has o.rd c = false

theorem Apart.inner {o o' : Ord} (h : Apart o o') (σ : CS) : inner P o' (step P o σ) = inner P o' σ := by
  refine inner_eq ⟨step_len o σ, fun i c hc hx => ?_, fun hx => ?_⟩ fun hx => ?_
  · refine step_off hc ?_
    cases z : has o.wr c with
    | false => rfl
    | true => have := (h.a c z).1; rw [this] at hx; cases hx
  · refine step_offM ?_
    cases z : has o.wr 77 with
    | false => rfl
    | true => have := (h.a 77 z).1; rw [this] at hx; cases hx
  · refine step_offM ?_
    cases z : has o.wr 77 with
    | false => rfl
    | true => have := (h.a 77 z).2; rw [this] at hx; cases hx
theorem Apart.symm {o o' : Ord} (h : Apart o o') : Apart o' o := by
  refine ⟨fun c hc => ⟨h.b c hc, ?_⟩, fun c hc => (h.a c hc).1⟩
  cases z : has o.wr c with
  | false => rfl
  | true => have := (h.a c z).2; rw [hc] at this; cases this

theorem step_swap {o o' : Ord} (h : Apart o o') (σ : CS) (hl : σ.R.length = 8) : step P o' (step P o σ) = step P o (step P o' σ) := by
  have e1 := h.inner (P := P) σ
  have e2 := h.symm.inner (P := P) σ
  have len : (step P o' (step P o σ)).R.length = (step P o (step P o' σ)).R.length := by rw [step_len, step_len, step_len, step_len]
  have key : (step P o' (step P o σ)).R = (step P o (step P o' σ)).R := by
    refine ext_getD len fun i => ?_
    by_cases hi : i < 8
    · obtain ⟨c, hc⟩ : ∃ c, letters[i]? = some c := by
        have : i < letters.length := hi
        exact ⟨letters[i], by simp [this]⟩
      cases z : has o.wr c with
      | true =>
        rw [step_off hc (h.a c z).2]
        have s1 : has o'.wr c = false := (h.a c z).2
        by_cases hs : (inner P o σ).isSome = true
        · exact step_on (σ := σ) (σ' := step P o' σ) e2.symm (by rw [step_len]) hs hc z
        · have n1 : inner P o σ = none := by simpa using hs
          have n2 : inner P o (step P o' σ) = none := by rw [e2]; exact n1
          rw [step_eq o σ, step_eq o (step P o' σ), n1, n2]
          exact (step_off hc s1).symm
      | false =>
        rw [step_off (o := o) hc z]
        cases y : has o'.wr c with
        | true =>
          by_cases hs : (inner P o' σ).isSome = true
          · exact step_on (σ := step P o σ) (σ' := σ) e1 (by rw [step_len]) (by rw [e1]; exact hs) hc y
          · have n1 : inner P o' σ = none := by simpa using hs
            have n2 : inner P o' (step P o σ) = none := by rw [e1]; exact n1
            rw [step_eq o' σ, step_eq o' (step P o σ), n1, n2]
            exact step_off hc z
        | false => rw [step_off hc y, step_off hc y, step_off hc z]
    · rw [getD_off (by rw [step_len, step_len]; omega), getD_off (by rw [step_len, step_len]; omega)]
  have keyM : (step P o' (step P o σ)).M = (step P o (step P o' σ)).M := by
    cases z : has o.wr 77 with
    | true =>
      rw [step_offM (h.a 77 z).2]
      by_cases hs : (inner P o σ).isSome = true
      · exact step_onM (σ := σ) (σ' := step P o' σ) e2.symm hs z
      · have n1 : inner P o σ = none := by simpa using hs
        have n2 : inner P o (step P o' σ) = none := by rw [e2]; exact n1
        rw [step_eq o σ, step_eq o (step P o' σ), n1, n2]
        exact (step_offM (h.a 77 z).2).symm
    | false =>
      rw [step_offM (o := o) z]
      cases y : has o'.wr 77 with
      | true =>
        by_cases hs : (inner P o' σ).isSome = true
        · exact step_onM (σ := step P o σ) (σ' := σ) e1 (by rw [e1]; exact hs) y
        · have n1 : inner P o' σ = none := by simpa using hs
          have n2 : inner P o' (step P o σ) = none := by rw [e1]; exact n1
          rw [step_eq o' σ, step_eq o' (step P o σ), n1, n2]
          exact step_offM z
      | false => rw [step_offM y, step_offM y, step_offM z]
  have st : ∀ (o : Ord) (σ : CS), (step P o σ).st = σ.st + (match inner P o σ with | some (_, τ) => τ.st | none => 0) := by
    intro o σ
    rw [step_eq]
    split
    · rfl
    · simp
  have keyS : (step P o' (step P o σ)).st = (step P o (step P o' σ)).st := by
    rw [st, st, st, st, e1, e2]
    omega
  cases q : step P o' (step P o σ) with
  | mk a b c =>
    cases q' : step P o (step P o' σ) with
    | mk a' b' c' =>
      rw [q, q'] at key keyM keyS
      simp only at key keyM keyS
      rw [key, keyM, keyS]

/-! orders left out -/
/-- behind the list, x is wanted: the orders that are needed, and what is wanted ahead of them -/
noncomputable def need : List Ord → Str → List Ord × Str
  | [], x => ([], x)
  | o :: r, x => let p := need r x
    if o.wr.cps.toList.any (fun c => has p.2 c) then (o :: p.1, ⟨((p.2.cps.toList.filter fun c => !has o.wr c || c == 77) ++ o.rd.cps.toList).toArray⟩) else p
noncomputable def runs (P : Params) (os : List Ord) (σ : CS) : CS := os.foldl (fun σ o => step P o σ) σ
theorem has_mem {x : Str} {c : Nat} : has x c = true ↔ c ∈ x.cps.toList := by
  unfold has
  rw [List.any_eq_true]
  constructor
  · rintro ⟨d, hd, q⟩; rw [← Nat.eq_of_beq_eq_true q]; exact hd
  · intro h; exact ⟨c, h, Nat.beq_refl c⟩
theorem need_M : ∀ (os : List Ord) (x : Str), has x 77 = true → has (need os x).2 77 = true
  | [], x, h => h
  | o :: r, x, h => by
    have ih := need_M r x h
    unfold need
    dsimp only
    split
    · rw [has_mem] at ih ⊢
      simp only [List.mem_append, List.mem_filter]
      exact .inl ⟨by simpa using ih, by simp⟩
    · exact ih
theorem need_ok : ∀ (os : List Ord) (x : Str), has x 77 = true → (∀ o ∈ os, ∀ σ : CS, σ.R.length = 8 → (inner P o σ).isSome = true) → ∀ (σ σ' : CS), σ.R.length = 8 → Agree (fun c => has (need os x).2 c) σ σ' →
    Agree (fun c => has x c) (runs P os σ) (runs P (need os x).1 σ')
  | [], x, hM, _, σ, σ', _, h => h
  | o :: r, x, hM, hs, σ, σ', hl, h => by
    have nM := need_M r x hM
    have hM' := need_M (o :: r) x hM
    have some1 := hs o (by simp) σ hl
    unfold need at h hM' ⊢
    dsimp only at h hM' ⊢
    split at h
    · rename_i hany
      rw [if_pos hany] at hM' ⊢
      dsimp only at h hM' ⊢
      refine need_ok r x hM (fun o ho => hs o (by simp [ho])) (step P o σ) (step P o σ') (by rw [step_len]; exact hl) ?_
      have e : inner P o σ = inner P o σ' := by
        refine inner_eq ⟨h.len, fun i c hc hx => h.reg i c hc ?_, fun hx => h.mem hM'⟩ fun _ => h.mem hM'
        rw [has_mem] at hx ⊢
        simp only [List.mem_append]
        exact .inr (by simpa using hx)
      refine ⟨by rw [step_len, step_len]; exact h.len, fun i c hc hx => ?_, fun hx => ?_⟩
      · cases z : has o.wr c with
        | true => exact step_on e h.len some1 hc z
        | false =>
          rw [step_off hc z, step_off hc z]
          refine h.reg i c hc ?_
          rw [has_mem] at hx ⊢
          simp only [List.mem_append, List.mem_filter]
          exact .inl ⟨by simpa using hx, by simp [z]⟩
      · cases z : has o.wr 77 with
        | true => exact step_onM e some1 z
        | false => rw [step_offM z, step_offM z]; exact h.mem hM'
    · rename_i hany
      rw [if_neg hany] at hM' ⊢
      refine need_ok r x hM (fun o ho => hs o (by simp [ho])) (step P o σ) σ' (by rw [step_len]; exact hl) ?_
      have off : ∀ c, has (need r x).2 c = true → has o.wr c = false := by
        intro c hc
        cases z : has o.wr c with
        | false => rfl
        | true => exact absurd (List.any_eq_true.mpr ⟨c, has_mem.mp z, hc⟩) hany
      refine ⟨by rw [step_len]; exact h.len, fun i c hc hx => ?_, fun hx => ?_⟩
      · rw [step_off hc (off c hx)]; exact h.reg i c hc hx
      · rw [step_offM (off 77 hx)]; exact h.mem hx
end
end Mine

namespace Mine
open PySem PySem.W PySem.Calls PyProof.Rows

section
variable {prog : Program} {w : World} {A : Around} {E : Value → Shared → Prop} {s : Shared} {D : Dm} {g : Heap} {σ : CS} {env : Env} {e : List (Str × V)}

/-! a list unpacked -/
theorem draw_list {it t : Addr} {items : Array Value} (hne : t ≠ it) : ∀ (n i : Nat) (s : Shared) (Q : List Value → Shared → Prop), s.heap.IsListIter it t i → s.heap.IsList t items → i + n ≤ items.size →
    (∀ h', h'.IsListIter it t (i + n) → Heap.SameBut it s.heap h' → Q ((items.toList.drop i).take n) { s with heap := h' }) → wpAny (model prog w) A (draw (.ref it) n) Q E s
  | 0, i, s, Q, hit, _, _, hQ => wpAny_pure (by simpa using hQ s.heap hit (Heap.SameBut.refl ..))
  | n + 1, i, s, Q, hit, ht, hle, hQ => by
    have hlt : i < items.size := by omega
    show wpAny _ _ (pyNext (.ref it) >>= _) Q E s
    refine wpAny_bind (wpAny_pyNext_list_item hit ht (x := items[i]) (by simp [hlt]) fun h₁ hit₁ hs₁ => ?_)
    refine wpAny_bind (wpAny_holding (draw_list hne n (i + 1) _ _ hit₁ (ht.extBut hs₁.extBut hne) (by omega) fun h₂ hit₂ hs₂ => wpAny_pure ?_))
    have hd : items.toList.drop i = items[i] :: items.toList.drop (i + 1) := by simp [List.drop_eq_getElem_cons, hlt]
    have := hQ h₂ (by rw [show i + (n + 1) = i + 1 + n by omega]; exact hit₂) (hs₁.trans hs₂)
    rw [hd, List.take_succ_cons] at this
    exact this
theorem unpack_list {t : Addr} {items : Array Value} {targets : List (Bool × (Value → Sem Unit))} {Q : Unit → Shared → Prop} (hh : A.handled = none) (ht : s.heap.IsList t items)
    (hn : targets.length = items.size) (hstar : targets.findIdx? (·.1) = none)
    (h : ∀ h', KB [] s.heap h' → wpAny (model prog w) A (assignInOrder (targets.map (·.2)) items.toList) Q E { s with heap := h' }) :
    wpAny (model prog w) A (unpack (.ref t) targets) Q E s := by
  have hlt : t ≠ s.heap.objs.size := by obtain ⟨o, ho, _⟩ := ht; exact Nat.ne_of_lt (Heap.lt_size ho)
  unfold unpack
  rw [hn, hstar]
  refine wpAny_bind (wpAny_holding ?_)
  unfold unpackItems notIterableAtAll
  refine wpAny_bind (wpAny_bind (wpAny_specialOf ht.typeIs slot_list_iter.lookup (wpAny_pure ?_)))
  simp only [Bool.false_eq_true, if_false]
  refine wpAny_bind (wpAny_holding (wpAny_pyIter_list ht ?_))
  refine wpAny_bind (wpAny_holding (draw_list hlt items.size 0 _ _ ⟨_, Heap.get?_push_size _ rfl, rfl, rfl⟩ (ht.push _) (by omega) fun h₁ hit₁ hs₁ => ?_))
  have hall : List.take items.size (List.drop 0 items.toList) = items.toList := by
    rw [List.drop_zero]; exact List.take_of_length_le (by simp)
  rw [hall, if_neg (by simp)]
  have ht₁ : h₁.IsList t items := (ht.push _).extBut hs₁.extBut hlt
  refine wpAny_bind (wpAny_holding (wpAny_pyNext_list_end hh hit₁ ht₁ (by simp) fun h₂ he₂ => ?_))
  simp only [Option.isSome_none, Bool.false_eq_true, if_false]
  refine wpAny_pure (h h₂ fun b o _ e => ?_)
  have hb : b ≠ s.heap.objs.size := Nat.ne_of_lt (Heap.lt_size e)
  exact he₂ b o hb (hs₁.extBut b o hb (Heap.get?_push_of_some _ e))

/-! a call of one of the top's defs, with cells or without -/
noncomputable def okFd (fd : FuncData) : Bool := match fd with
  | { params := ⟨[], as, Option.none, [], [], Option.none, []⟩, closure := [], globals := 3, defaults := .none, kwdefaults := .none, scope := sc, builtins := 0, .. } =>
    sc.kind == .function && !sc.isCoroutine && !sc.isGenerator &&
    as.all (fun a => sc.names.lookup a.arg == some .local || (sc.names.lookup a.arg == some .cell && ((cellsFrom 0 sc.names []).lookup a.arg).isSome)) && decide ((as.map (·.arg)).Nodup)
  | _ => false
theorem ok_of {fd : FuncData} (h : okFd fd = true) : ∃ as, fd.params = ⟨[], as, none, [], [], none, []⟩ ∧ fd.closure = [] ∧ fd.globals = mainGlobals ∧ fd.defaults = .none ∧ fd.builtins = builtinsNs ∧
    fd.scope.kind = .function ∧ fd.scope.isCoroutine = false ∧ fd.scope.isGenerator = false ∧ (∀ a ∈ as, fd.scope.names.lookup a.arg = some .local ∨ (fd.scope.names.lookup a.arg = some .cell ∧ ((cellsFrom 0 fd.scope.names []).lookup a.arg).isSome = true)) ∧ (as.map (·.arg)).Nodup := by
  unfold okFd at h
  split at h
  · simp only [Bool.and_eq_true, beq_iff_eq, Bool.not_eq_true', List.all_eq_true, Bool.or_eq_true, decide_eq_true_eq] at h
    obtain ⟨⟨⟨⟨h1, h2⟩, h3⟩, h5⟩, h6⟩ := h
    exact ⟨_, rfl, rfl, rfl, rfl, rfl, h1, h2, h3, h5, h6⟩
  · cases h
theorem cells_isSome {x : Str} : ∀ (names : List (Str × NameKind)) (n m : Nat) (a b : List (Str × Addr)), ((a.lookup x).isSome = true → (b.lookup x).isSome = true) → ((cellsFrom n names a).lookup x).isSome = true → ((cellsFrom m names b).lookup x).isSome = true
  | [], n, m, a, b, h, q => h q
  | (y, k) :: r, n, m, a, b, h, q => by
    unfold cellsFrom at q ⊢
    split
    · rename_i hk
      rw [if_pos hk] at q
      refine cells_isSome r _ _ _ _ (fun z => ?_) q
      rw [List.lookup_cons] at z ⊢
      cases e : (x == y) with
      | true => rfl
      | false => rw [e] at z; exact h z
    · rename_i hk
      rw [if_neg hk] at q
      exact cells_isSome r _ _ _ _ h q

theorem bindL_zip {kindOf : Str → Option NameKind} : ∀ (l : List (Str × Value)) (m : Str → Option Value) (x : Str) (v : Value), (l.map (·.1)).Nodup → (x, v) ∈ l → kindOf x = some .local → bindL kindOf l m x = some v
  | [], _, _, _, _, h, _ => nomatch h
  | (y, u) :: r, m, x, v, hn, h, hk => by
    have hn' := List.nodup_cons.mp hn
    have keepr : ∀ (r : List (Str × Value)) (m : Str → Option Value), x ∉ r.map (·.1) → bindL kindOf r m x = m x := by
      intro r
      induction r with
      | nil => intro m _; rfl
      | cons p r ih =>
        intro m hx
        obtain ⟨z, t⟩ := p
        simp only [List.map_cons, List.mem_cons, not_or] at hx
        unfold bindL
        split
        · rw [ih _ hx.2]; exact if_neg hx.1
        · exact ih _ hx.2
    unfold bindL
    rcases List.mem_cons.mp h with h | h
    · cases h
      rw [if_pos hk, keepr r _ hn'.1]
      exact if_pos rfl
    · split
      · exact bindL_zip r _ x v hn'.2 h hk
      · exact bindL_zip r _ x v hn'.2 h hk
theorem bindC_zip {kindOf : Str → Option NameKind} : ∀ (l : List (Str × Value)) (m : Str → Option Value) (x : Str) (v : Value), (l.map (·.1)).Nodup → (x, v) ∈ l → kindOf x = some .cell → bindC kindOf l m x = some v
  | [], _, _, _, _, h, _ => nomatch h
  | (y, u) :: r, m, x, v, hn, h, hk => by
    have hn' := List.nodup_cons.mp hn
    have keepr : ∀ (r : List (Str × Value)) (m : Str → Option Value), x ∉ r.map (·.1) → bindC kindOf r m x = m x := by
      intro r
      induction r with
      | nil => intro m _; rfl
      | cons p r ih =>
        intro m hx
        obtain ⟨z, t⟩ := p
        simp only [List.map_cons, List.mem_cons, not_or] at hx
        unfold bindC
        split
        · exact ih _ hx.2
        · rw [ih _ hx.2]; exact if_neg hx.1
    unfold bindC
    rcases List.mem_cons.mp h with h | h
    · cases h
      rw [if_neg (by rw [hk]; decide), keepr r _ hn'.1]
      exact if_pos rfl
    · split
      · exact bindC_zip r _ x v hn'.2 h hk
      · exact bindC_zip r _ x v hn'.2 h hk

/-- the heap that a called def must leave as it is -/
noncomputable def below (D : Dm) (h : Heap) : Heap := hideAll h (muts D)
theorem below_KB {h h' : Heap} (k : ∀ b o, (below D h).get? b = some o → h'.get? b = some o) : KB (muts D) h h' := fun b o n q => k b o (hideAll_get _ q n)
theorem below_le {h : Heap} {b : Addr} {o : Obj} (x : (below D h).get? b = some o) : h.get? b = some o := of_hideAll _ x
theorem SR.sub (S : SR g D σ s.heap) : SR (below D s.heap) D σ s.heap := ⟨fun b o q => below_le q, fun b hb => hideAll_none _ hb, S.objs, S.ext⟩
theorem Gd.sub (G : Gd w g) (S : SR g D σ s.heap) : Gd w (below D s.heap) := by
  have up : ∀ b o, g.get? b = some o → (below D s.heap).get? b = some o := fun b o q => hideAll_get _ (S.keep b o q) fun z => by rw [S.off b z] at q; cases q
  obtain ⟨p, loose, mg, mb, T⟩ := G.T
  exact ⟨G.X.keeps up, p, loose, mg, mb, T.keeps up⟩

/-- what stands of a frame's cells -/
noncomputable def CellsR (D : Dm) (g h : Heap) (env : Env) : Prop := ∀ x c, env.cells.lookup x = some c → (∃ v, h.IsCell c v) ∧ c ∉ muts D ∧ g.get? c = none
theorem CellsR.mvm {h h' : Heap} (x : CellsR D g h env) (k : KB (muts D) h h') : CellsR D g h' env := fun y c hc => by
  obtain ⟨⟨v, a⟩, b, d⟩ := x y c hc
  exact ⟨⟨v, IsCell.kb a k b⟩, b, d⟩

theorem CellsR.mv {h h' : Heap} (x : CellsR D g h env) (k : KB (tch D) h h') : CellsR D g h' env := x.mvm k.m
theorem zip_mem_rel {D : Dm} {h : Heap} : ∀ (ns : List Str) (vs : List V) (rvs : List Value), VRs D h vs rvs → ∀ x v, (ns.zip vs).lookup x = some v → ∃ rv, (x, rv) ∈ ns.zip rvs ∧ VR D h v rv
  | [], _, _, _, x, v, q => by simp at q
  | n :: ns, [], _, _, x, v, q => by simp at q
  | n :: ns, u :: us, rvs, r, x, v, q => by
    simp only [VRs] at r
    obtain ⟨rv, r', rfl, a, b⟩ := r
    rw [List.zip_cons_cons, List.lookup_cons] at q
    cases z : (x == n) with
    | true =>
      rw [z] at q
      cases q
      exact ⟨rv, by rw [beq_iff_eq.mp z]; simp, a⟩
    | false =>
      rw [z] at q
      obtain ⟨rv', c, d⟩ := zip_mem_rel ns us r' b x v q
      exact ⟨rv', by simp [c], d⟩

theorem enter {R : Result → Shared → Prop} {n : Nat} {f : Addr} {fd : FuncData} {body : List Stmt} {vs : List V} {rvs : List Value} {names : List Str} (hf : funA w.params f = some fd) (hok : okFd fd = true) (hb : fd.body = .stmts body)
    (hna : fd.params.args.map (·.arg) = names) (hlen : rvs.length = names.length) (a : AOk A (n + 1)) (G : Gd w g) (S : SR g D σ s.heap) (V : VRs D s.heap vs rvs)
    (h : ∀ env h₁ tk, env.scope = fd.scope → EnvOk env → AOk (A.deeper env) n → Cx w D (below D s.heap) h₁ env (names.zip vs) σ → KB [] s.heap h₁ → CellsR D (below D s.heap) h₁ env → (∀ x, fd.scope.names.lookup x = some .cell → (env.cells.lookup x).isSome = true) →
      wpAny (model prog w) (A.deeper env) (execs body env) (fun fl s' => R (.ok (.ret (match fl with | .ret v => v | _ => .none))) s') (fun _ _ => False) { s with heap := h₁, toks := tk }) :
    codeAny (model prog w) A (.call (.ref f) ⟨rvs, []⟩) R s := by
  obtain ⟨as, q1, q2, q3, q4, q5, q6, q7, q8, q10, q11⟩ := ok_of hok
  have X := G.In S
  obtain ⟨p, loose, mg, mb, T⟩ := G.T
  have T := T.keeps S.keep
  unfold funA at hf
  split at hf
  · rename_i oc od fd' osl ho
    cases hf
    rw [q1] at hna
    have hna : as.map (·.arg) = names := hna
    have hla : as.length = rvs.length := by rw [hlen, ← hna]; simp
    have hcd : s.heap.CodeRec fd.code fd.qualname := codeRec_of X (code_all ho)
    have hkind : ∀ x ∈ (as.map (·.arg)).zip rvs, fd.scope.names.lookup x.1 = some .local ∨ (fd.scope.names.lookup x.1 = some .cell ∧ ((cellsFrom (s.heap.objs.size + 1) fd.scope.names []).lookup x.1).isSome = true) := by
      refine zip_mem (P := fun x => fd.scope.names.lookup x = some .local ∨ (fd.scope.names.lookup x = some .cell ∧ ((cellsFrom (s.heap.objs.size + 1) fd.scope.names []).lookup x).isSome = true)) fun a ha => ?_
      exact (q10 a ha).imp id fun z => ⟨z.1, cells_isSome _ _ _ _ _ id z.2⟩
    refine codeAny_call_cells (fd := fd) (body := body) (by have := a.depth; unfold recursionLimit; omega) (X _ _ ho) rfl T.nolimit hcd hb (bind_plain q1 q4 hla q11) q2 hkind (fun s₁ I => ?_) q7 q8 q6
    obtain ⟨h₁, tk, rfl⟩ := I.toInCall.same
    have kb0 : KB [] s.heap h₁ := fun b o _ z => I.toInCall.keep b o z
    have K : EnvOk (callEnvC fd s.heap.objs.size f) := ⟨q6, q3, q5⟩
    have nb : ∀ c, s.heap.objs.size ≤ c → (below D s.heap).get? c = none ∧ c ∉ muts D := by
      intro c hc
      constructor
      · cases q : (below D s.heap).get? c with
        | none => rfl
        | some o => exact absurd (Heap.lt_size (below_le q)) (Nat.not_lt.mpr hc)
      · intro q
        unfold muts at q
        rcases List.mem_append.mp q with q | q
        · unfold tch at q
          cases hcp : D.cpu with
          | none => rw [hcp] at q; cases q
          | some W =>
            rw [hcp] at q
            have O := S.objs W hcp
            obtain ⟨es, m, y1, _⟩ := O.dict
            obtain ⟨_, _, _, ⟨_, y2, _⟩, _⟩ := O.regs
            obtain ⟨_, _, _, ⟨_, y3, _⟩, _⟩ := O.mem
            have l1 := Heap.lt_size y1
            have l2 := Heap.lt_size y2
            have l3 := Heap.lt_size y3
            simp only [List.mem_cons, List.not_mem_nil, or_false] at q
            rcases q with q | q | q
            · rw [q] at hc; exact absurd l1 (Nat.not_lt.mpr hc)
            · rw [q] at hc; exact absurd l2 (Nat.not_lt.mpr hc)
            · rw [q] at hc; exact absurd l3 (Nat.not_lt.mpr hc)
        · obtain ⟨o, ho⟩ := Option.isSome_iff_exists.mp (S.ext _ q)
          exact absurd (Heap.lt_size ho) (Nat.not_lt.mpr hc)
    have cR : CellsR D (below D s.heap) h₁ (callEnvC fd s.heap.objs.size f) := fun x c hc => by
      have ab := I.above x c (PySem.mem_of_lookup hc)
      have ab' : s.heap.objs.size ≤ c := Nat.le_of_lt ab
      exact ⟨⟨_, I.cell x c hc⟩, (nb c ab').2, (nb c ab').1⟩
    have C : Cx w D (below D s.heap) h₁ (callEnvC fd s.heap.objs.size f) (names.zip vs) σ := by
      refine ⟨G.sub S, S.sub.grow kb0, (nb _ (Nat.le_refl _)).1, (nb _ (Nat.le_refl _)).2, fun x y c h1 h2 => ?_, _, I.toInCall.ns, fun x v q => ?_⟩
      · exact name_of_addr I.apart (PySem.mem_of_lookup h1) (PySem.mem_of_lookup h2)
      · obtain ⟨rv, m1, m2⟩ := zip_mem_rel _ _ _ V x v q
        refine ⟨rv, ?_, VR.keeps (.of_KB kb0.of_nil) _ _ m2⟩
        have m1' : (x, rv) ∈ (as.map (·.arg)).zip rvs := by rw [hna]; exact m1
        have nd : (((as.map (·.arg)).zip rvs).map (·.1)).Nodup := by rw [List.map_fst_zip (by simp [hla])]; exact q11
        unfold Holds
        show (match fd.scope.names.lookup x with
          | some .local => _
          | some .cell => _
          | _ => False)
        rcases hkind _ m1' with z | ⟨z, z'⟩
        · rw [show fd.scope.names.lookup x = some .local from z]
          exact bindL_zip _ _ x rv nd m1' z
        · rw [show fd.scope.names.lookup x = some .cell from z]
          obtain ⟨c, hc⟩ := Option.isSome_iff_exists.mp z'
          have ic := I.cell x c hc
          rw [bindC_zip _ _ x rv nd m1' z] at ic
          exact ⟨c, hc, ic, (cR x c hc).2.1⟩
    refine wpAny_mono (h (callEnvC fd s.heap.objs.size f) h₁ tk rfl K (a.deeper _) C kb0 cR fun x hx => ?_) (fun _ _ z => z) fun _ _ z => z.elim
    have : ∀ (names : List (Str × NameKind)) (m : Nat) (acc : List (Str × Addr)), (names.lookup x = some .cell ∨ (acc.lookup x).isSome = true) → ((cellsFrom m names acc).lookup x).isSome = true := cellsFrom_some
    exact this _ _ _ (.inl hx)
  · cases hf
end
end Mine

namespace Mine
open PySem PySem.W PySem.Calls PyProof.Rows

section
variable {prog : Program} {w : World} {A : Around} {E : Value → Shared → Prop} {s : Shared} {D : Dm} {g : Heap} {σ σ' : CS} {env : Env} {e : List (Str × V)}

theorem ev {n : Nat} {x : PySem.Expr} {v : V} {Q : Value → Shared → Prop} (h : evA w.params n env.scope e σ x = some (v, σ')) (a : AOk A n) (K : EnvOk env) (C : Cx w D g s.heap env e σ)
    (k : ∀ rv h' tk, VR D h' v rv → Cx w D g h' env e σ' → KB (tch D) s.heap h' → Q rv { s with heap := h', toks := tk }) : wpAny (model prog w) A (eval x env) Q E s := (sound prog w n).1 h a K C k

/-- a built-in's name -/
theorem nameB_ok {id : Str} {pos : Pos} {v : Value} {Q : Value → Shared → Prop} (hl : env.scope.names.lookup id = some .globalImplicit) (hm : nsIn (KF w.params) mainGlobals id = some none) (hb : bootBuiltins id = some v) (hn : id ≠ "__name__")
    (hd : (id == ("__debug__" : Str)) = false) (K : EnvOk env) (C : Cx w D g s.heap env e σ) (k : Q v s) : wpAny (model prog w) A (eval (.Name id pos) env) Q E s := by
  obtain ⟨p, loose, mg, mb, T⟩ := C.gd.T
  have T := T.keeps C.sr.keep
  have X := C.gd.In C.sr
  have hg : s.heap.Ns env.globals mg := by rw [K.glob]; exact T.g
  have hbb : s.heap.Ns env.builtins mb := by rw [K.blt]; exact T.b
  exact Name_function_global K.kind hl (loadGlobal_builtin hg (mg_none_of X T.g hm) hbb ((T.builtins _ hn).trans hb) k) hd
theorem b_len : bootBuiltins "len" = some (.builtin "len") := by boot_by_name
theorem b_abs : bootBuiltins "abs" = some (.builtin "abs") := by boot_by_name
theorem b_int : bootBuiltins "int" = some (.type "int") := by boot_by_name
theorem b_range : bootBuiltins "range" = some (.type "range") := by boot_by_name
theorem b_list : bootBuiltins "list" = some (.type "list") := by boot_by_name
theorem b_max : bootBuiltins "max" = some (.builtin "max") := by boot_by_name
theorem b_enum : bootBuiltins "enumerate" = some (.type "enumerate") := by boot_by_name
theorem m_len (P : Params) : nsIn (KF P) mainGlobals "len" = some none := by kernel_rfl
theorem m_abs (P : Params) : nsIn (KF P) mainGlobals "abs" = some none := by kernel_rfl
theorem m_int (P : Params) : nsIn (KF P) mainGlobals "int" = some none := by kernel_rfl
theorem m_range (P : Params) : nsIn (KF P) mainGlobals "range" = some none := by kernel_rfl
theorem m_list (P : Params) : nsIn (KF P) mainGlobals "list" = some none := by kernel_rfl
theorem m_max (P : Params) : nsIn (KF P) mainGlobals "max" = some none := by kernel_rfl
theorem m_enum (P : Params) : nsIn (KF P) mainGlobals "enumerate" = some none := by kernel_rfl

/-- the list that the draws come from -/
structure Feed (h : Heap) (fA cA : Addr) (cells : List Int) (N : Int) : Prop where
  at_ : ∃ turn tk, h.IsList fA #[.ref cA, .int turn tk] ∧ 0 ≤ turn ∧ turn ≤ N
  cells : ∃ vs, h.IsList cA (List.toArray vs) ∧ IntsAre vs cells
  ne : cA ≠ fA
theorem isList_kb {as : List Addr} {h h' : Heap} {a : Addr} {items : Array Value} (x : h.IsList a items) (k : KB as h h') (n : a ∉ as) : h'.IsList a items := by
  obtain ⟨o, ho, r⟩ := x
  exact ⟨o, k _ _ n ho, r⟩
theorem Feed.kb {as : List Addr} {h h' : Heap} {fA cA : Addr} {cells : List Int} {N : Int} (F : Feed h fA cA cells N) (k : KB as h h') (n1 : fA ∉ as) (n2 : cA ∉ as) : Feed h' fA cA cells N := by
  obtain ⟨⟨turn, tk, a, b⟩, ⟨vs, c, d⟩, ne⟩ := F
  exact ⟨⟨turn, tk, isList_kb a k n1, b⟩, ⟨vs, isList_kb c k n2, d⟩, ne⟩

theorem list_ne_ns {h : Heap} {c L : Addr} {items : Array Value} {m : Str → Option Value} (x : h.IsList c items) (N : h.Ns L m) : c ≠ L := by
  rintro rfl
  obtain ⟨o, a, _, n, b⟩ := x
  obtain ⟨o', es, ep, a', b', _⟩ := N
  rw [a] at a'
  cases a'
  rw [b] at b'
  cases b'
theorem Cx.ne_list {h : Heap} (C : Cx w D g h env e σ) {c : Addr} {items : Array Value} (x : h.IsList c items) : c ≠ env.locals := by
  obtain ⟨m, N, _⟩ := C.ns
  exact list_ne_ns x N

/-- a mutable object changed -/
theorem SR.touch {h h' : Heap} {a : Addr} (S : SR g D σ h) (hc : D.cpu = none) (ha : a ∈ D.ext) (sb : Heap.SameBut a h h') (hs : (h'.get? a).isSome = true) : SR g D σ h' ∧ KB (muts D) h h' := by
  refine ⟨⟨fun b o q => (sb.2 b ?_).trans (S.keep b o q), S.off, fun W hW => ?_, fun b hb => ?_⟩, (KB.of_same sb).mono fun b q => by simp at q; rw [q]; exact muts_ext ha⟩
  · rintro rfl
    rw [S.off b (muts_ext ha)] at q
    cases q
  · rw [hc] at hW; cases hW
  · by_cases q : b = a
    · rw [q]; exact hs
    · rw [sb.2 b q]; exact S.ext b hb
theorem isList_some {h : Heap} {a : Addr} {items : Array Value} (x : h.IsList a items) : (h.get? a).isSome = true := by
  obtain ⟨o, ho, _⟩ := x
  rw [ho]; rfl
theorem tch_nil (hc : D.cpu = none) : tch D = [] := by unfold tch; rw [hc]

/-- len of a list that a name holds -/
theorem lenCall_ok {x : Str} {p1 p2 p3 : Pos} {a : Addr} {items : Array Value} {Q : Value → Shared → Prop} (hl : env.scope.names.lookup ("len" : Str) = some .globalImplicit) (hx : nameA w.params env.scope e x = some (.ref a)) (K : EnvOk env) (C : Cx w D g s.heap env e σ)
    (ha : s.heap.IsList a items) (hs : items.size ≤ 1000000) (k : ∀ t tk, Q (.int items.size t) { s with toks := tk }) : wpAny (model prog w) A (eval (.Call (.Name "len" p1) [.Name x p2] [] p3) env) Q E s := by
  refine wpAny_Call_NameR (nameB_ok hl (m_len _) b_len (by decide) (by decide) K C (PyProof.Rows.callWith_builtin1 (spliced_more (nameA_ok hx K C fun rv hv => spliced_none ?_)) rfl rfl))
  simp only [VR] at hv
  subst hv
  exact PyProof.Rows.len_list ha (by omega) (k _ _)

theorem ints_get {vs : List Value} {xs : List Int} (I : IntsAre vs xs) {k : Nat} (hk : k < xs.length) : ∃ t, vs[k]? = some (.int (xs.getD k 0) t) := by
  induction I generalizing k with
  | nil => exact absurd hk (Nat.not_lt_zero _)
  | cons i t _ ih =>
    cases k with
    | zero => exact ⟨t, rfl⟩
    | succ k =>
      obtain ⟨u, hu⟩ := ih (by simpa using hk)
      exact ⟨u, by simpa using hu⟩

theorem next_ok {R : Result → Shared → Prop} {n : Nat} {fA cA : Addr} {cells : List Int} {N many : Int} {tm : Tok} (a : AOk A (n + 20)) (G : Gd w g) (hc : D.cpu = none) (hf : fA ∈ D.ext) (hcA : cA ∉ muts D) (S : SR g D σ s.heap)
    (F : Feed s.heap fA cA cells N) (hN : N ≤ 1000) (hlen : cells.length ≤ 1000) (hm : 0 < many)
    (k : ∀ v t h' tk, 0 ≤ v → v < many → Feed h' fA cA cells (N + 1) → SR g D σ h' → KB (muts D) s.heap h' → R (.ok (.ret (.int v t))) { s with heap := h', toks := tk }) :
    codeAny (model prog w) A (.call (.ref 435) ⟨[.ref fA, .int many tm], []⟩) R s := by
  refine enter (n := n + 19) (vs := [.ref fA, .int many (some (many, many))]) (f := 435) rfl (by kernel_rfl) rfl rfl rfl a G S (by simp only [VRs, VR]; exact ⟨_, _, rfl, rfl, _, _, rfl, ⟨⟨_, rfl⟩, Int.le_refl _, Int.le_refl _⟩, rfl⟩) ?_
  intro env h₁ tk hsc K a' C kb0 cR hcl
  have tn := tch_nil hc
  have fm : fA ∈ muts D := muts_ext hf
  have F1 := F.kb kb0 (fun z => nomatch z) (fun z => nomatch z)
  obtain ⟨⟨turn, tt, hl, b0, b1⟩, ⟨vs, hlc, hI⟩, ne⟩ := F1
  -- cells, turn = feed
  refine wpAny_execs_cons (Assign_Tuple (nameA_ok (v := .ref fA) (by rw [hsc]; rfl) K C fun rv hv => ?_) rfl rfl)
  simp only [VR] at hv
  subst hv
  refine wpAny_bind (wpAny_standAt (unpack_list a'.hand hl rfl rfl fun h2 kb2 => ?_))
  have C2 := C.ext kb2
  have hl2 := isList_kb hl kb2 (fun z => nomatch z)
  have hlc2 := isList_kb hlc kb2 (fun z => nomatch z)
  refine wpAny_assignInOrder_more (assign_Name (storeA_ok (v := .ref cA) (by rw [hsc]; rfl) K C2 (by simp only [VR]) fun h3 tk3 C3 kb3 _ => ?_))
  have nl2 := C2.ne_list hl2
  have nlc2 := C2.ne_list hlc2
  rw [tn] at kb3
  have hl3 := isList_kb hl2 kb3 (by simpa using nl2)
  have hlc3 := isList_kb hlc2 kb3 (by simpa using nlc2)
  refine wpAny_assignInOrder_more (assign_Name (storeA_ok (v := .int turn (some (0, 1000))) (by rw [hsc]; rfl) K C3 (vr_int ⟨b0, by omega⟩) fun h4 tk4 C4 kb4 _ => wpAny_pure ?_))
  rw [tn] at kb4
  have hl4 := isList_kb hl3 kb4 (by simpa using nl2)
  have hlc4 := isList_kb hlc3 kb4 (by simpa using nlc2)
  -- feed[1] = turn + 1
  show wpAny _ _ (execs _ _) _ _ _
  refine wpAny_execs_cons (wpAny_Assign_Subscript (ev (n := 10) (v := .int (turn + 1) (some (1, 1001))) (σ' := σ) (by rw [hsc]; rfl) (a'.lower (by omega)) K C4 fun rv h5 tk5 hv5 C5 kb5 => nameA_ok (v := .ref fA) (by rw [hsc]; rfl) K C5 fun ro ho => wpAny_Constant_int ?_))
  rw [tn] at kb5
  simp only [VR] at ho hv5
  subst ho
  obtain ⟨⟨t5, rfl⟩, _⟩ := hv5
  have hl5 := isList_kb hl4 kb5 (fun z => nomatch z)
  have hlc5 := isList_kb hlc4 kb5 (fun z => nomatch z)
  refine wpAny_setItem_list hl5 (by decide) (by decide) (show (1 : Int) < 2 by decide) fun h6 hl6 sb6 => ?_
  obtain ⟨S6, kb6⟩ := C5.sr.touch hc hf sb6 (isList_some hl6)
  have C6 := C5.mvm S6 kb6
  have hlc6 : h6.IsList cA vs.toArray := isList_kb hlc5 (KB.of_same sb6) (by simpa using ne)
  have fin : ∀ h', SR (below D s.heap) D σ h' → h'.IsList fA #[.ref cA, .int (turn + 1) t5] → h'.IsList cA vs.toArray → Feed h' fA cA cells (N + 1) ∧ SR g D σ h' ∧ KB (muts D) s.heap h' := by
    intro h' S' l1 l2
    refine ⟨⟨⟨turn + 1, t5, l1, by omega, by omega⟩, ⟨vs, l2, hI⟩, ne⟩, ⟨fun b o q => S'.keep b o (hideAll_get _ (S.keep b o q) fun z => by rw [S.off b z] at q; cases q), S.off, S'.objs, S'.ext⟩, below_KB S'.keep⟩
  have hl6' : h6.IsList fA #[.ref cA, .int (turn + 1) t5] := hl6
  have hlen2 : vs.toArray.size = cells.length := by have := IntsAre.length hI; simp; omega
  -- if turn < len(cells)
  show wpAny _ _ (execs _ _) _ _ _
  refine wpAny_execs_cons (wpAny_If (wpAny_isTrue_Compare1 (nameA_ok (v := .int turn (some (0, 1000))) (by rw [hsc]; rfl) K C6 fun rt ht => lenCall_ok (by rw [hsc]; rfl) (by rw [hsc]; rfl) K C6 hlc6 (by omega) fun t7 tk7 => ?_) rfl))
  simp only [VR] at ht
  obtain ⟨⟨u, rfl⟩, _⟩ := ht
  refine PyProof.Rows.lt_int (wpAny_truthy_bool ?_)
  by_cases hlt : turn < (vs.toArray.size : Int)
  · rw [decide_eq_true hlt]
    simp only [if_true]
    -- return abs(int(cells[turn])) % many
    have hkn : turn.toNat < cells.length := by omega
    obtain ⟨t8, hx⟩ := ints_get hI hkn
    refine wpAny_execs_cons (wpAny_Return_some (wpAny_BinOp (wpAny_Call_NameR (nameB_ok (s := { s with heap := h6, toks := tk7 }) (by rw [hsc]; rfl) (m_abs _) b_abs (by decide) (by decide) K C6 (PyProof.Rows.callWith_builtin1 (spliced_more ?_) rfl rfl)))))
    refine wpAny_Call_NameR (nameB_ok (s := { s with heap := h6, toks := tk7 }) (by rw [hsc]; rfl) (m_int _) b_int (by decide) (by decide) K C6 (PyProof.Rows.callWith_type1 (spliced_more ?_) rfl rfl))
    refine Subscript_ (nameA_ok (s := { s with heap := h6, toks := tk7 }) (v := .ref cA) (by rw [hsc]; rfl) K C6 fun rc hcv => nameA_ok (s := { s with heap := h6, toks := tk7 }) (v := .int turn (some (0, 1000))) (by rw [hsc]; rfl) K C6 fun ri hi => ?_)
    simp only [VR] at hcv hi
    subst hcv
    obtain ⟨⟨u2, rfl⟩, _⟩ := hi
    refine tail_any hlc6.typeIs slot_list_getitem.lookup (wpAny_getItem_list hlc6 b0 (by omega) (by simpa using hx) ?_) rfl
    refine spliced_none (call_int_int (spliced_none (PyProof.Rows.call_abs_int fun u3 tk9 => ?_)))
    refine nameA_ok (s := { s with heap := h6, toks := tk9 }) (v := .int many (some (many, many))) (by rw [hsc]; rfl) K C6 fun rm hmv => ?_
    simp only [VR] at hmv
    obtain ⟨⟨u4, rfl⟩, _⟩ := hmv
    refine PyProof.Rows.mod_int' (by omega) ?_
    obtain ⟨f1, f2, f3⟩ := fin h6 C6.sr hl6' hlc6
    exact k _ _ h6 _ (Int.fmod_nonneg_of_pos _ hm) (Int.fmod_lt_of_pos _ hm) f1 f2 f3
  · rw [decide_eq_false hlt]
    simp only [Bool.false_eq_true, if_false]
    refine wpAny_execs_nil ?_
    show wpAny _ _ (execs _ _) _ _ _
    refine wpAny_execs_cons (wpAny_Return_some (wpAny_BinOp (wpAny_BinOp (ev (s := { s with heap := h6, toks := tk7 }) (n := 12) (v := .int (45 * turn + (turn * turn).fdiv 3 + 6) none) (σ' := σ) (by rw [hsc]; rfl) (a'.lower (by omega)) K C6 fun rv h8 tk8 hv8 C8 kb8 => ?_))))
    rw [tn] at kb8
    have hl8 := isList_kb hl6' kb8 (fun z => nomatch z)
    have hlc8 := isList_kb hlc6 kb8 (fun z => nomatch z)
    refine lenCall_ok (s := { s with heap := h8, toks := tk8 }) (by rw [hsc]; rfl) (by rw [hsc]; rfl) K C8 hlc8 (by omega) fun t9 tk9 => ?_
    simp only [VR] at hv8
    obtain ⟨⟨u5, rfl⟩, _⟩ := hv8
    refine PyProof.Rows.add_int (nameA_ok (s := { s with heap := h8, toks := _ }) (v := .int many (some (many, many))) (by rw [hsc]; rfl) K C8 fun rm hmv => ?_)
    simp only [VR] at hmv
    obtain ⟨⟨u4, rfl⟩, _⟩ := hmv
    refine PyProof.Rows.mod_int' (by omega) ?_
    obtain ⟨f1, f2, f3⟩ := fin h8 C8.sr hl8 hlc8
    exact k _ _ h8 _ (Int.fmod_nonneg_of_pos _ hm) (Int.fmod_lt_of_pos _ hm) f1 f2 f3
end
end Mine

namespace Mine
open PySem PySem.W PySem.Calls PyProof.Rows
noncomputable section
/-- the rest of _law_order behind its draws -/
noncomputable def ordV (P : Params) (a : Addr) (f o u : Int) : Option V := match funA P 449 with
  | some fd => match fd.body with
    | .stmts b => match ssA P 60 fd.scope [("form", .int f (some (f, f))), ("one", .int o (some (o, o))), ("other", .int u (some (u, u))), ("_law_pairs", .lst [.str "BC", .str "DE", .str "HL"]), ("feed", .ref a)] ⟨[], [], 0⟩ (b.drop 2) with
      | some (.ret v, _, _) => some v
      | _ => none
    | _ => none
  | none => none
noncomputable def chkV (v : Option V) (x : Ord) : Bool := match v with
  | some (.tup [.int c _, .str p, .str q]) => c == x.oct && p == x.rd && q == x.wr
  | _ => false
end
noncomputable def idxs : List Nat := [0, 1, 2, 3, 4, 5, 6, 7, 8, 9, 10, 11, 12, 13, 14, 15, 16, 17, 18, 19, 20, 21, 22, 23, 24, 25, 26, 27, 28, 29, 30, 31, 32, 33, 34, 35, 36, 37, 38, 39, 40, 41, 42, 43, 44, 45, 46, 47, 48, 49, 50, 51, 52, 53, 48, 54, 55, 56, 57, 58, 59, 60, 61, 62, 0, 1, 2, 3, 4, 5, 6, 7, 8, 9, 10, 11, 12, 13, 14, 15, 16, 17, 18, 19, 20, 21, 22, 23, 24, 25, 26, 27, 28, 29, 30, 31, 32, 33, 34, 35, 36, 37, 38, 39, 40, 41, 42, 43, 44, 45, 46, 47, 48, 49, 50, 51, 52, 53, 48, 54, 55, 56, 57, 58, 59, 60, 61, 62, 63, 64, 65, 66, 67, 68, 69, 70, 71, 72, 73, 74, 75, 76, 77, 78, 79, 80, 81, 82, 83, 84, 85, 86, 87, 88, 89, 90, 91, 92, 93, 94, 95, 96, 97, 98, 99, 100, 101, 102, 103, 104, 105, 106, 107, 108, 109, 110, 111, 112, 113, 114, 115, 116, 117, 118, 119, 120, 121, 122, 123, 124, 125, 126, 127, 128, 127, 128, 127, 128, 127, 128, 129, 130, 129, 130, 129, 130, 129, 130, 131, 132, 131, 132, 131, 132, 131, 132, 127, 128, 127, 128, 127, 128, 127, 128, 129, 130, 129, 130, 129, 130, 129, 130, 131, 132, 131, 132, 131, 132, 131, 132, 127, 128, 127, 128, 127, 128, 127, 128, 129, 130, 129, 130, 129, 130, 129, 130, 133, 134, 133, 134, 133, 134, 133, 134, 135, 136, 135, 136, 135, 136, 135, 136, 137, 138, 137, 138, 137, 138, 137, 138, 139, 140, 139, 140, 139, 140, 139, 140, 141, 142, 141, 142, 141, 142, 141, 142, 143, 144, 143, 144, 143, 144, 143, 144, 145, 146, 145, 146, 145, 146, 145, 146, 147, 148, 147, 148, 147, 148, 147, 148, 149, 149, 149, 149, 149, 149, 149, 149, 150, 150, 150, 150, 150, 150, 150, 150, 151, 151, 151, 151, 151, 151, 151, 151, 149, 149, 149, 149, 149, 149, 149, 149, 150, 150, 150, 150, 150, 150, 150, 150, 151, 151, 151, 151, 151, 151, 151, 151, 149, 149, 149, 149, 149, 149, 149, 149, 150, 150, 150, 150, 150, 150, 150, 150, 152, 153, 152, 153, 152, 153, 152, 153, 154, 155, 154, 155, 154, 155, 154, 155, 152, 153, 152, 153, 152, 153, 152, 153, 154, 155, 154, 155, 154, 155, 154, 155, 152, 153, 152, 153, 152, 153, 152, 153, 154, 155, 154, 155, 154, 155, 154, 155, 152, 153, 152, 153, 152, 153, 152, 153, 154, 155, 154, 155, 154, 155, 154, 155, 156, 156, 156, 156, 156, 156, 156, 156, 157, 157, 157, 157, 157, 157, 157, 157, 158, 158, 158, 158, 158, 158, 158, 158, 159, 159, 159, 159, 159, 159, 159, 159, 160, 160, 160, 160, 160, 160, 160, 160, 161, 161, 161, 161, 161, 161, 161, 161, 162, 162, 162, 162, 162, 162, 162, 162, 160, 160, 160, 160, 160, 160, 160, 160, 163, 163, 163, 163, 163, 163, 163, 163, 163, 163, 163, 163, 163, 163, 163, 163, 163, 163, 163, 163, 163, 163, 163, 163, 163, 163, 163, 163, 163, 163, 163, 163, 163, 163, 163, 163, 163, 163, 163, 163, 163, 163, 163, 163, 163, 163, 163, 163, 163, 163, 163, 163, 163, 163, 163, 163, 163, 163, 163, 163, 163, 163, 163, 163]
noncomputable def ordAt (i : Nat) : Ord := ords.getD (idxs.getD i 0) ⟨0, "", ""⟩
theorem ord_0 (P : Params) (a : Addr) : (List.range 64).all (fun i => chkV (ordV P a 0 ((i / 8 : Nat) : Int) ((i % 8 : Nat) : Int)) (ordAt (0 + i))) = true := by kernel_rfl
theorem ord_1 (P : Params) (a : Addr) : (List.range 64).all (fun i => chkV (ordV P a 1 ((i / 8 : Nat) : Int) ((i % 8 : Nat) : Int)) (ordAt (64 + i))) = true := by kernel_rfl
theorem ord_2 (P : Params) (a : Addr) : (List.range 64).all (fun i => chkV (ordV P a 2 ((i / 8 : Nat) : Int) ((i % 8 : Nat) : Int)) (ordAt (128 + i))) = true := by kernel_rfl
theorem ord_3 (P : Params) (a : Addr) : (List.range 64).all (fun i => chkV (ordV P a 3 ((i / 8 : Nat) : Int) ((i % 8 : Nat) : Int)) (ordAt (192 + i))) = true := by kernel_rfl
theorem ord_4 (P : Params) (a : Addr) : (List.range 64).all (fun i => chkV (ordV P a 4 ((i / 8 : Nat) : Int) ((i % 8 : Nat) : Int)) (ordAt (256 + i))) = true := by kernel_rfl
theorem ord_5 (P : Params) (a : Addr) : (List.range 64).all (fun i => chkV (ordV P a 5 ((i / 8 : Nat) : Int) ((i % 8 : Nat) : Int)) (ordAt (320 + i))) = true := by kernel_rfl
theorem ord_6 (P : Params) (a : Addr) : (List.range 64).all (fun i => chkV (ordV P a 6 ((i / 8 : Nat) : Int) ((i % 8 : Nat) : Int)) (ordAt (384 + i))) = true := by kernel_rfl
theorem ord_7 (P : Params) (a : Addr) : (List.range 64).all (fun i => chkV (ordV P a 7 ((i / 8 : Nat) : Int) ((i % 8 : Nat) : Int)) (ordAt (448 + i))) = true := by kernel_rfl
theorem ord_8 (P : Params) (a : Addr) : (List.range 64).all (fun i => chkV (ordV P a 8 ((i / 8 : Nat) : Int) ((i % 8 : Nat) : Int)) (ordAt (512 + i))) = true := by kernel_rfl
end Mine

namespace Mine
open PySem PySem.W PySem.Calls PyProof.Rows

section
variable {prog : Program} {w : World} {A : Around} {E : Value → Shared → Prop} {s : Shared} {D : Dm} {g : Heap} {σ σ' : CS} {env : Env} {e : List (Str × V)}

theorem SR.any {h : Heap} (S : SR g D σ h) (hc : D.cpu = none) (σ' : CS) : SR g D σ' h := ⟨S.keep, S.off, fun W hW => by (rw [hc] at hW; cases hW), S.ext⟩
theorem Cx.any {h : Heap} (C : Cx w D g h env e σ) (hc : D.cpu = none) (σ' : CS) : Cx w D g h env e σ' := ⟨C.gd, C.sr.any hc σ', C.off, C.nm, C.inj, C.ns⟩

theorem nextCall_ok {n : Nat} {fA cA : Addr} {cells : List Int} {N c : Int} {p1 p2 p3 p4 : Pos} {kk : Nat} {Q : Value → Shared → Prop} (a : AOk A (n + 20)) (hc : D.cpu = none) (hf : fA ∈ D.ext) (hcA : cA ∉ muts D)
    (h1 : nameA w.params env.scope e "_law_next" = some (.ref 435)) (h2 : nameA w.params env.scope e "feed" = some (.ref fA)) (K : EnvOk env) (C : Cx w D g s.heap env e σ)
    (F : Feed s.heap fA cA cells N) (hN : N ≤ 1000) (hlen : cells.length ≤ 1000) (hm : 0 < c)
    (k : ∀ v t h' tk, 0 ≤ v → v < c → Feed h' fA cA cells (N + 1) → Cx w D g h' env e σ → KB (muts D) s.heap h' → Q (.int v t) { s with heap := h', toks := tk }) :
    wpAny (model prog w) A (eval (.Call (.Name "_law_next" p1) [.Name "feed" p2, .Constant (.int c) kk p3] [] p4) env) Q E s := by
  refine wpAny_Call_NameR (nameA_ok h1 K C fun rf hrf => ?_)
  simp only [VR] at hrf
  subst hrf
  refine callWith_K (K := KF w.params) (h₀ := g) C.gd.X (show keepIn (KF w.params) (.ref 435) = true by kernel_rfl) (spliced_more (nameA_ok h2 K C fun ro ho => spliced_more (wpAny_Constant_int (spliced_none ?_)))) rfl rfl
  simp only [VR] at ho
  subst ho
  exact ⟨C.gd.In C.sr, wpAny_call (next_ok (n := n) (s := { s with toks := s.toks + 1 }) a C.gd hc hf hcA C.sr F hN hlen hm fun v t h' tk b1 b2 F' S' kb => k v t h' tk b1 b2 F' (C.mvm S' kb) kb)⟩

/-- the value of an order -/
noncomputable def ordVal (x : Ord) : V := .tup [.int x.oct none, .str x.rd, .str x.wr]

theorem ordV_eq {P : Params} {a : Addr} {f o u : Int} {fd : FuncData} {b : List Stmt} (hf : funA P 449 = some fd) (hb : fd.body = .stmts b) :
    ordV P a f o u = (match ssA P 60 fd.scope [("form", .int f (some (f, f))), ("one", .int o (some (o, o))), ("other", .int u (some (u, u))), ("_law_pairs", .lst [.str "BC", .str "DE", .str "HL"]), ("feed", .ref a)] ⟨[], [], 0⟩ (b.drop 2) with
      | some (.ret v, _, _) => some v
      | _ => none) := by
  unfold ordV
  rw [hf]
  (simp only [hb]) <;> rfl
theorem chkV_of {v : Option V} {x : Ord} (h : chkV v x = true) : ∃ g, v = some (.tup [.int x.oct g, .str x.rd, .str x.wr]) := by
  unfold chkV at h
  split at h
  · simp only [Bool.and_eq_true, beq_iff_eq] at h
    obtain ⟨⟨h1, h2⟩, h3⟩ := h
    subst h1 h2 h3
    exact ⟨_, rfl⟩
  · cases h
theorem ord_all (P : Params) (a : Addr) {f o u : Int} (f0 : 0 ≤ f) (f1 : f < 9) (o0 : 0 ≤ o) (o1 : o < 8) (u0 : 0 ≤ u) (u1 : u < 8) : ∃ i g, i < 576 ∧ ordV P a f o u = some (.tup [.int (ordAt i).oct g, .str (ordAt i).rd, .str (ordAt i).wr]) := by
  have key : ∀ (m : Nat), f = (m : Int) → (List.range 64).all (fun i => chkV (ordV P a (m : Int) ((i / 8 : Nat) : Int) ((i % 8 : Nat) : Int)) (ordAt (64 * m + i))) = true → m < 9 → ∃ i g, i < 576 ∧ ordV P a f o u = some (.tup [.int (ordAt i).oct g, .str (ordAt i).rd, .str (ordAt i).wr]) := by
    intro m hm h hm9
    have q := List.all_eq_true.mp h (o.toNat * 8 + u.toNat) (List.mem_range.mpr (by omega))
    have e1 : ((o.toNat * 8 + u.toNat) / 8 : Nat) = o.toNat := by omega
    have e2 : ((o.toNat * 8 + u.toNat) % 8 : Nat) = u.toNat := by omega
    rw [e1, e2, Int.toNat_of_nonneg o0, Int.toNat_of_nonneg u0, ← hm] at q
    obtain ⟨g, hg⟩ := chkV_of q
    exact ⟨_, g, by omega, hg⟩
  have hcases : f = 0 ∨ f = 1 ∨ f = 2 ∨ f = 3 ∨ f = 4 ∨ f = 5 ∨ f = 6 ∨ f = 7 ∨ f = 8 := by omega
  rcases hcases with h | h | h | h | h | h | h | h | h
  · exact key 0 h (ord_0 P a) (by decide)
  · exact key 1 h (ord_1 P a) (by decide)
  · exact key 2 h (ord_2 P a) (by decide)
  · exact key 3 h (ord_3 P a) (by decide)
  · exact key 4 h (ord_4 P a) (by decide)
  · exact key 5 h (ord_5 P a) (by decide)
  · exact key 6 h (ord_6 P a) (by decide)
  · exact key 7 h (ord_7 P a) (by decide)
  · exact key 8 h (ord_8 P a) (by decide)
theorem idxs_lt : ∀ i < 576, idxs.getD i 0 < ords.length := by
  have h : (List.range 576).all (fun i => decide (idxs.getD i 0 < ords.length)) = true := by kernel_rfl
  intro i hi
  exact of_decide_eq_true (List.all_eq_true.mp h i (List.mem_range.mpr hi))
theorem ordAt_mem {i : Nat} (h : i < 576) : ordAt i ∈ ords := by
  unfold ordAt
  have := idxs_lt i h
  rw [List.getD_eq_getElem?_getD, List.getElem?_eq_getElem this]
  exact List.getElem_mem this

theorem order_ok {R : Result → Shared → Prop} {n : Nat} {fA cA : Addr} {cells : List Int} {N : Int} (a : AOk A (n + 100)) (G : Gd w g) (hc : D.cpu = none) (hf : fA ∈ D.ext) (hcA : cA ∉ muts D) (S : SR g D σ s.heap)
    (F : Feed s.heap fA cA cells N) (hN : N ≤ 900) (hlen : cells.length ≤ 1000)
    (k : ∀ x rv h' tk, x ∈ ords → VR D h' (ordVal x) rv → Feed h' fA cA cells (N + 3) → SR g D σ h' → KB (muts D) s.heap h' → R (.ok (.ret rv)) { s with heap := h', toks := tk }) :
    codeAny (model prog w) A (.call (.ref 449) ⟨[.ref fA], []⟩) R s := by
  refine enter (n := n + 99) (vs := [.ref fA]) (f := 449) rfl (by kernel_rfl) rfl rfl rfl a G S (by simp only [VRs, VR]; exact ⟨_, _, rfl, rfl, rfl⟩) ?_
  intro env h₁ tk hsc K a' C kb0 cR hcl
  have tn := tch_nil hc
  have F1 := F.kb kb0 (fun z => nomatch z) (fun z => nomatch z)
  have fl : fA ≠ env.locals := fun q => C.nm (q ▸ muts_ext hf)
  -- _law_pairs
  refine wpAny_execs_cons ((sound prog w 10).2.2.2.2.2.1 (e' := [("_law_pairs", .lst [.str "BC", .str "DE", .str "HL"]), ("feed", .ref fA)]) (σ' := σ) (fl := .next) (by rw [hsc]; rfl) (a'.lower (by omega)) K C fun f h2 tk2 hfl C2 kb2 => ?_)
  cases hfl
  rw [tn] at kb2
  have cl : cA ≠ env.locals := by
    obtain ⟨vs, hl, _⟩ := F1.cells
    exact C.ne_list hl
  have F2 := F1.kb kb2 (by simpa using fl) (by simpa using cl)
  -- form, one, other
  show wpAny _ _ (execs _ _) _ _ _
  have nm : ∀ x v, nameA w.params env.scope [("_law_pairs", .lst [.str "BC", .str "DE", .str "HL"]), ("feed", .ref fA)] x = some v → nameA w.params env.scope [("_law_pairs", .lst [.str "BC", .str "DE", .str "HL"]), ("feed", .ref fA)] x = some v := fun _ _ h => h
  have n1 : nameA w.params env.scope [("_law_pairs", .lst [.str "BC", .str "DE", .str "HL"]), ("feed", .ref fA)] "_law_next" = some (.ref 435) := by rw [hsc]; rfl
  have n2 : nameA w.params env.scope [("_law_pairs", .lst [.str "BC", .str "DE", .str "HL"]), ("feed", .ref fA)] "feed" = some (.ref fA) := by rw [hsc]; rfl
  refine wpAny_execs_cons (Assign_Tuple_swapped (names := ["form", "one", "other"]) (Tuple_ (spliced_more (nextCall_ok (n := n + 79) a' hc hf hcA n1 n2 K C2 F2 (by omega) hlen (by decide) fun f t1 h3 tk3 f0 f1 F3 C3 kb3 =>
    spliced_more (nextCall_ok (s := { s with heap := h3, toks := tk3 }) (n := n + 79) a' hc hf hcA n1 n2 K C3 F3 (by omega) hlen (by decide) fun o t2 h4 tk4 o0 o1 F4 C4 kb4 =>
    spliced_more (nextCall_ok (s := { s with heap := h4, toks := tk4 }) (n := n + 79) a' hc hf hcA n1 n2 K C4 F4 (by omega) hlen (by decide) fun u t3 h5 tk5 u0 u1 F5 C5 kb5 => spliced_none (wpAny_newTuple ?_ (by rw [sizeLine_eq]; exact Nat.le_of_ble_eq_true rfl))))))) rfl (swap_ok (by rw [hsc]; rfl)))
  have C6 := C5.ext (KB.push h5 { cls := .type "tuple", data := .seq #[.int f t1, .int o t2, .int u t3] })
  have F6 := F5.kb (KB.push h5 { cls := .type "tuple", data := .seq #[.int f t1, .int o t2, .int u t3] }) (fun z => nomatch z) (fun z => nomatch z)
  refine wpAny_unpackItems_tuple a'.hand (items := #[.int f t1, .int o t2, .int u t3]) ⟨_, Heap.get?_push_size _ rfl, rfl, _, rfl⟩ fun h7 hx => ?_
  have kb7 := KB.of_ext hx
  have C7 := C6.ext kb7
  have F7 := F6.kb kb7 (fun z => nomatch z) (fun z => nomatch z)
  refine binds_ok (s := { s with heap := h7, toks := tk5 }) K [("other", .int u (some (u, u))), ("one", .int o (some (o, o))), ("form", .int f (some (f, f)))] (by rw [hsc]; intro p hp; simp only [List.mem_cons, List.not_mem_nil, or_false] at hp; rcases hp with rfl | rfl | rfl <;> rfl)
    (by simp only [List.map_cons, List.map_nil, VRs]; exact ⟨_, _, rfl, vr_int ⟨Int.le_refl _, Int.le_refl _⟩, _, _, rfl, vr_int ⟨Int.le_refl _, Int.le_refl _⟩, _, _, rfl, vr_int ⟨Int.le_refl _, Int.le_refl _⟩, rfl⟩) C7 fun h8 tk8 C8 kb8 => ?_
  rw [tn] at kb8
  have F8 := F7.kb kb8 (by simpa using fl) (by simpa using cl)
  -- the rest, by the evaluator
  obtain ⟨i, gi, hi, hV⟩ := ord_all w.params fA f0 f1 o0 o1 u0 u1
  rw [ordV_eq rfl rfl] at hV
  show wpAny _ _ (execs _ _) _ _ _
  split at hV
  · rename_i v e9 σ9 hq
    cases hV
    refine (sound prog w 60).2.2.2.2.2.2.2 (s := { s with heap := h8, toks := tk8 }) (by rw [hsc]; exact hq) (a'.lower (by omega)) K (C8.any hc _) fun fl9 h9 tk9 hfl9 C9 kb9 => ?_
    obtain ⟨rv, rfl, hv⟩ := hfl9
    rw [tn] at kb9
    have F9 := F8.kb kb9 (by simpa using fl) (by simpa using cl)
    have F10 : Feed h9 fA cA cells (N + 3) := by
      obtain ⟨⟨tu, tt, b1, b2, b3⟩, b4, b5⟩ := F9
      exact ⟨⟨tu, tt, b1, b2, by omega⟩, b4, b5⟩
    refine k (ordAt i) rv h9 tk9 (ordAt_mem hi) ?_ F10 ?_ (below_KB C9.sr.keep)
    · unfold ordVal
      simp only [VR, VRs] at hv ⊢
      obtain ⟨ad, rvs, m, q1, q2, q3, r1, l1, q4, ⟨q5, _⟩, q6⟩ := hv
      exact ⟨ad, rvs, m, q1, q2, q3, r1, l1, q4, ⟨q5, trivial⟩, q6⟩
    · have S' := C9.sr
      exact ⟨fun b o q => S'.keep b o (hideAll_get _ (S.keep b o q) fun z => by rw [S.off b z] at q; cases q), S.off, fun W hW => by (rw [hc] at hW; cases hW), S'.ext⟩
  · cases hV
end
end Mine

namespace Mine
open PySem PySem.W PySem.Calls PyProof.Rows

section
variable {prog : Program} {w : World} {A : Around} {E : Value → Shared → Prop} {s : Shared} {D : Dm} {g : Heap} {σ σ' : CS} {env : Env} {e : List (Str × V)}

/-- a comprehension's loop, with what its turns keep true -/
structure Turns (prog : Program) (w : World) (A : Around) (D : Dm) (env : Env) (scope : Scope) (cl : List (Str × Addr)) (x : Str) (ifs : List PySem.Expr) (elt : PySem.Expr) (wr : List Addr) (n : Nat) (P : Nat → Value → Prop) (St : Nat → Heap → Prop)
    (J : Nat → List Value → Heap → Prop) (N : Nat) : Prop where
  stab : ∀ i j ys h h' cA Dl m zs, N ≤ cA → N ≤ Dl → h.Ns cA m → h.PlainList Dl zs → St j h → J i ys h → (∀ b o, b ≠ cA → b ∉ wr → b ≠ Dl → h.get? b = some o → h'.get? b = some o) → J i ys h'
  stab0 : ∀ ys h h', J 0 ys h → (∀ b o, h.get? b = some o → h'.get? b = some o) → J 0 ys h'
  body : ∀ cA i v ys (s₃ : Shared) m₃ E', N ≤ cA → i < n → P i v → J i ys s₃.heap → s₃.heap.Ns cA m₃ → m₃ x = some v →
    wpAny (model prog w) A (forIn ifs true fun c r => if r = true then do let ok ← isTrue c (compEnvC scope cl cA env) (eval c (compEnvC scope cl cA env)); pure (ForInStep.yield ok) else pure (ForInStep.yield r))
      (fun ok s₄ => if ok = true then wpAny (model prog w) A (eval elt (compEnvC scope cl cA env)) (fun y s₅ => ∃ h₅ tk, s₅ = { s₃ with heap := h₅, toks := tk } ∧ KB (muts D) s₃.heap h₅ ∧ J (i + 1) (ys ++ [y]) h₅) E' s₄
        else ∃ h₅ tk, s₄ = { s₃ with heap := h₅, toks := tk } ∧ KB (muts D) s₃.heap h₅ ∧ J (i + 1) ys h₅) E' s₃

theorem loop_ok {R : Result → Shared → Prop} {elt iter : PySem.Expr} {x : Str} {px : Pos} {ifs : List PySem.Expr} {scope : Scope} {cl : List (Str × Addr)} {pos : Pos} {I Dl cA : Addr} {fp wr : List Addr} {n N : Nat} {P : Nat → Value → Prop} {St : Nat → Heap → Prop}
    {J : Nat → List Value → Heap → Prop} {m : Str → Option Value} (W : Walks prog w A I fp wr n P St) (T : Turns prog w A D env scope cl x ifs elt wr n P St J N)
    (hx : scope.names.lookup x = some .local) (hkind : scope.kind = .function)
    (hDC : Dl ≠ cA) (hDf : Dl ∉ fp) (hCf : cA ∉ fp) (hN1 : N ≤ cA) (hN2 : N ≤ Dl) (mD : Dl ∉ muts D) (mC : cA ∉ muts D) (mf : ∀ b ∈ fp, b ∉ muts D)
    (hst : St 0 s.heap) (hJ : J 0 [] s.heap) (hacc : s.heap.PlainList Dl #[]) (hn : s.heap.Ns cA m) (hsz : n ≤ sizeLine)
    (hR : ∀ h' tk m' ys, h'.Ns cA m' → h'.PlainList Dl ys → J n ys.toList h' → ys.size ≤ n → R (.ok .next) { s with heap := h', toks := tk }) :
    codeAny (model prog w) A (.compLoop (.ListComp elt [⟨.Name x px, iter, ifs, 0⟩] scope pos) 0 (.ref I) (.ref Dl) (compEnvC scope cl cA env)) R s := by
  have hCw : cA ∉ wr := fun h => hCf (W.sub _ h)
  have hDw : Dl ∉ wr := fun h => hDf (W.sub _ h)
  refine codeAny_compLoop_tests
    (fun k s' => ∃ h' tk m' ys i, s' = { s with heap := h', toks := tk } ∧ St i h' ∧ h'.PlainList Dl ys ∧ h'.Ns cA m' ∧ J i ys.toList h' ∧ ys.size ≤ i ∧ i ≤ n ∧ k = n + 1 - i) ?_ (n + 1)
    ⟨s.heap, s.toks, m, #[], 0, rfl, hst, hacc, hn, by simpa using hJ, Nat.zero_le _, Nat.zero_le _, rfl⟩
  rintro k s' ⟨H, tk, m', ys, i, rfl, hst', hacc', hn', hJ', hys, hi, rfl⟩
  by_cases hlt : i < n
  · refine W.item i _ _ _ hlt hst' fun v h₁ tk₁ hPv hst₁ hk₁ => ?_
    have hn₁ : h₁.Ns cA m' := hn'.at' fun o e => hk₁ _ o hCw e
    have hacc₁ : h₁.PlainList Dl ys := hacc'.at fun o e => hk₁ _ o hDw e
    have hJ₁ : J i ys.toList h₁ := T.stab _ _ _ _ _ _ _ _ _ hN1 hN2 hn' hacc' hst' hJ' fun b o _ q _ => hk₁ b o q
    refine wpAny_assign_Name (wpAny_storeName_local (env := compEnvC scope cl cA env) (lookup_relabel_local hx) hn₁ (fun h₂ hn₂ hs₂ => ?_) (by simp [compEnvC, relabel, hkind]))
    have hst₂ : St (i + 1) h₂ := W.frame _ _ _ hst₁ fun b hb o e => hs₂.extBut b o (fun h => hCf (by have q : b = cA := h; rw [q] at hb; exact hb)) e
    have hacc₂ : h₂.PlainList Dl ys := hacc₁.at fun o e => hs₂.extBut _ o hDC e
    have hJ₂ : J i ys.toList h₂ := T.stab _ _ _ _ _ _ _ _ _ hN1 hN2 hn₁ hacc₁ hst₁ hJ₁ fun b o q _ _ => hs₂.extBut b o q
    refine wpAny_mono (T.body cA i v ys.toList _ _ _ hN1 hlt hPv hJ₂ hn₂ (by simp)) (fun ok s₄ h₄ => ?_) fun _ _ e => e
    have back : ∀ h₅, KB (muts D) h₂ h₅ → St (i + 1) h₅ ∧ h₅.PlainList Dl ys ∧ h₅.Ns cA _ := fun h₅ kb => ⟨W.frame _ _ _ hst₂ fun b hb o e => kb b o (mf b hb) e, hacc₂.at fun o e => kb _ o mD e, hn₂.at' fun o e => kb _ o mC e⟩
    split at h₄
    · rename_i hok
      subst hok
      simp only [if_true]
      refine wpAny_mono h₄ (fun y s₅ h₅ => ?_) fun _ _ e => e
      obtain ⟨h₅, tk₅, rfl, kb, hJ₅⟩ := h₅
      obtain ⟨b1, b2, b3⟩ := back h₅ kb
      refine wpAny_list_append_plain (hsz := Nat.le_trans hys (Nat.le_trans hi hsz)) b2 fun h₆ hl₆ hs₆ => ?_
      refine ⟨n + 1 - (i + 1), by omega, h₆, tk₅, _, ys.push y, i + 1, rfl, W.frame _ _ _ b1 fun b hb o e => hs₆.extBut b o (fun h => hDf (h ▸ hb)) e, hl₆, b3.sameBut hs₆ (Ne.symm hDC), ?_, by simp; exact hys, hlt, rfl⟩
      rw [Array.toList_push]
      exact T.stab _ _ _ _ _ _ _ _ _ hN1 hN2 b3 b2 b1 hJ₅ fun b o _ _ q => hs₆.extBut b o q
    · rename_i hok
      have : ok = false := by cases ok; rfl; exact absurd rfl hok
      subst this
      simp only [Bool.false_eq_true, if_false]
      obtain ⟨h₅, tk₅, rfl, kb, hJ₅⟩ := h₄
      obtain ⟨b1, b2, b3⟩ := back h₅ kb
      exact ⟨n + 1 - (i + 1), by omega, h₅, tk₅, _, ys, i + 1, rfl, b1, b2, b3, hJ₅, Nat.le_succ_of_le hys, hlt, rfl⟩
  · have hin : i = n := by omega
    subst hin
    refine W.done _ _ _ hst' fun h₁ tk₁ hk₁ => ?_
    exact hR h₁ tk₁ m' ys (hn'.at' fun o e => hk₁ _ o hCw e) (hacc'.at fun o e => hk₁ _ o hDw e) (T.stab _ _ _ _ _ _ _ _ _ hN1 hN2 hn' hacc' hst' hJ' fun b o _ q _ => hk₁ b o q) hys

/-- what stands cannot be new -/
theorem muts_lt {h : Heap} (S : SR g D σ h) : ∀ b ∈ muts D, b < h.objs.size := by
  intro b q
  unfold muts at q
  rcases List.mem_append.mp q with q | q
  · unfold tch at q
    cases hcp : D.cpu with
    | none => rw [hcp] at q; cases q
    | some W =>
      rw [hcp] at q
      have O := S.objs W hcp
      obtain ⟨es, m, y1, _⟩ := O.dict
      obtain ⟨_, _, _, ⟨_, y2, _⟩, _⟩ := O.regs
      obtain ⟨_, _, _, ⟨_, y3, _⟩, _⟩ := O.mem
      simp only [List.mem_cons, List.not_mem_nil, or_false] at q
      rcases q with q | q | q
      · rw [q]; exact Heap.lt_size y1
      · rw [q]; exact Heap.lt_size y2
      · rw [q]; exact Heap.lt_size y3
  · obtain ⟨o, ho⟩ := Option.isSome_iff_exists.mp (S.ext _ q)
    exact Heap.lt_size ho
theorem SR.new {h : Heap} (S : SR g D σ h) {c : Addr} (hc : h.objs.size ≤ c) : c ∉ muts D ∧ g.get? c = none ∧ ∀ W, D.cpu = some W → c ≠ W.c := by
  refine ⟨fun q => absurd (muts_lt S c q) (Nat.not_lt.mpr hc), ?_, fun W hW q => ?_⟩
  · cases q : g.get? c with
    | none => rfl
    | some o => exact absurd (Heap.lt_size (S.keep _ _ q)) (Nat.not_lt.mpr hc)
  · have := Heap.lt_size (S.objs W hW).inst
    exact absurd this (Nat.not_lt.mpr (q ▸ hc))

/-- the whole comprehension: iterable done, its result at Dl -/
theorem comp_ok {elt iter : PySem.Expr} {x : Str} {px : Pos} {ifs : List PySem.Expr} {scope : Scope} {cl : List (Str × Addr)} {pos p2 : Pos} {use : Option (Value → Sem Unit)} {Q : Value → Shared → Prop}
    (hclos : closureFor scope env = pure cl) (hcell : ∀ y ∈ scope.names, y.2 ≠ .cell) (hkind : scope.kind = .function)
    (hnames : ∀ y ∈ scope.names, y.2 = .local → scope.names.lookup y.1 = some .local) (hx : scope.names.lookup x = some .local)
    (h : wpAny (model prog w) A (eval iter env) (fun xv s₁ => wpAny (model prog w) A (pyIter xv) (fun it s₂ => ∃ I fp wr n P St J, it = .ref I ∧ Walks prog w A I fp wr n P St ∧ n ≤ sizeLine ∧ St 0 s₂.heap ∧ (∀ b ∈ fp, b < s₂.heap.objs.size) ∧
      (∀ b ∈ fp, b ∉ muts D) ∧ (∀ b ∈ muts D, b < s₂.heap.objs.size) ∧ Turns prog w A D env scope cl x ifs elt wr n P St J s₂.heap.objs.size ∧ J 0 [] s₂.heap ∧
      (∀ Dl cA h' tk ys m', s₂.heap.objs.size ≤ Dl → s₂.heap.objs.size ≤ cA → cA ≠ Dl → h'.PlainList Dl ys → h'.Ns cA m' → J n ys.toList h' → ys.size ≤ n →
        compPost (model prog w) A E use Q (.ref Dl) cA (.ok .next) { s₂ with heap := h', toks := tk })) E s₁) E s)
    (hs : ∀ x, foldedSetIterable iter env x = pure x := by intro _; rfl) :
    wpAny (model prog w) A (comprehension (.ListComp elt [⟨.Name x px, iter, ifs, 0⟩] scope pos) scope env p2 (newList []) false (eval iter env) use) Q E s := by
  refine wpAny_comprehension_free rfl hs hclos hkind hnames (wpAny_mono h (fun xv s₁ h₁ => wpAny_mono h₁ (fun it s₂ h₂ => ?_) fun _ _ e => e) fun _ _ e => e)
  obtain ⟨I, fp, wr, n, P, St, J, rfl, W, hsz, hst, hfp, mf, hmu, T, hJ, hQ⟩ := h₂
  refine wpAny_newObj_type (wpAny_newFunctionEnv hcell (by intro y hy; simp at hy) (fun h₁ hns₁ hsb₁ => ?_) hkind)
  dsimp only at hns₁ hsb₁ ⊢
  generalize hH2 : s₂.heap.push { cls := .type "list", dict := none, data := .seq ([] : List Value).toArray } = H2 at hns₁ hsb₁ ⊢
  have hC : H2.objs.size = s₂.heap.objs.size + 1 := by rw [← hH2, Heap.size_push]
  have hDC : s₂.heap.objs.size ≠ H2.objs.size := by rw [hC]; exact Nat.ne_of_lt (Nat.lt_succ_self _)
  have hCle : s₂.heap.objs.size ≤ H2.objs.size := by rw [hC]; exact Nat.le_succ _
  have below : ∀ b, b < s₂.heap.objs.size → b ≠ H2.objs.size ∧ b ≠ s₂.heap.objs.size := fun b hb => ⟨by rw [hC]; exact Nat.ne_of_lt (Nat.lt_succ_of_lt hb), Nat.ne_of_lt hb⟩
  have hDf : s₂.heap.objs.size ∉ fp := fun hm => Nat.lt_irrefl _ (hfp _ hm)
  have hCf : H2.objs.size ∉ fp := fun hm => by have := hfp _ hm; rw [hC] at this; exact Nat.lt_irrefl _ (Nat.lt_of_succ_lt this)
  have old : ∀ b o, s₂.heap.get? b = some o → h₁.get? b = some o := fun b o e => hsb₁.extBut b o (below b (Heap.lt_size e)).1 (Heap.get?_push_of_some _ (hH2 ▸ Heap.get?_push_of_some _ e))
  have hacc : h₁.PlainList s₂.heap.objs.size #[] := ⟨_, hsb₁.extBut _ _ hDC (Heap.get?_push_of_some _ (hH2 ▸ Heap.get?_push_size _ rfl))⟩
  have hst₁ : St 0 h₁ := W.frame _ _ _ hst fun b _ o e => old b o e
  have up : ∀ ys, J 0 ys s₂.heap → J 0 ys h₁ := fun ys j => by
    -- a frame and a list that stand nowhere yet: by way of the new ones
    exact T.stab0 ys _ _ j old
  have loop : ∀ s₃ : Shared, s₃ = { s₂ with heap := h₁, toks := s₂.toks + ([] : List (Str × Value)).length } →
      codeAny (model prog w) A (.compLoop (.ListComp elt [⟨.Name x px, iter, ifs, 0⟩] scope pos) 0 (.ref I) (.ref s₂.heap.objs.size) (compEnvC scope cl H2.objs.size env))
        (compPost (model prog w) A E use Q (.ref s₂.heap.objs.size) H2.objs.size) s₃ := by
    rintro s₃ rfl
    refine loop_ok W T hx hkind hDC hDf hCf hCle (Nat.le_refl _) (fun q => Nat.lt_irrefl _ (hmu _ q)) (fun q => absurd (hmu _ q) (Nat.not_lt.mpr hCle)) mf hst₁ (up _ hJ) hacc hns₁ hsz fun h' tk m' ys n1 n2 n3 n4 => ?_
    exact hQ _ _ h' tk ys m' (Nat.le_refl _) hCle (Ne.symm hDC) n2 n1 n3 n4
  exact codeAny_compStart_list (loop _ rfl) (W.self 0 _ _ _ hst₁ (loop _ rfl))
end
end Mine

namespace Mine
open PySem PySem.W PySem.Calls PyProof.Rows

section
variable {prog : Program} {w : World} {A : Around} {E : Value → Shared → Prop} {s : Shared} {D : Dm} {g : Heap} {σ σ' : CS} {env : Env} {e : List (Str × V)}

/-- a comprehension's frame, with one name from outside -/
theorem Cx.comp1 {h : Heap} {scope : Scope} {cA c : Addr} {m : Str → Option Value} {x y : Str} {v u : V} {rv : Value} (C : Cx w D g h env e σ) (hc : env.cells.lookup y = some c) (new : cA ∉ muts D ∧ g.get? cA = none) (N : h.Ns cA m)
    (hm : m x = some rv) (hv : VR D h v rv) (hx : scope.names.lookup x = some .local) (hxy : x ≠ y) (hu : e.lookup y = some u) (hy : env.scope.names.lookup y = some .cell) (hyr : (relabel scope env).names.lookup y = some .cell) :
    Cx w D g h (compEnvC scope [(y, c)] cA env) [(x, v), (y, u)] σ := by
  obtain ⟨m0, _, he⟩ := C.ns
  refine ⟨C.gd, C.sr, new.2, new.1, fun a b d h1 h2 => ?_, m, N, fun z t q => ?_⟩
  · have q1 := PySem.mem_of_lookup h1
    have q2 := PySem.mem_of_lookup h2
    simp only [compEnvC, List.mem_singleton, Prod.mk.injEq] at q1 q2
    rw [q1.1, q2.1]
  · simp only [List.lookup_cons] at q
    cases hz : (z == x) with
    | true =>
      rw [hz] at q
      cases q
      rw [beq_iff_eq] at hz
      subst hz
      refine ⟨rv, ?_, hv⟩
      unfold Holds
      show (match (relabel scope env).names.lookup z with | some .local => _ | some .cell => _ | _ => False)
      rw [show (relabel scope env).names.lookup z = some .local from lookup_relabel_local hx]
      exact hm
    | false =>
      rw [hz] at q
      cases hz2 : (z == y) with
      | true =>
        rw [hz2] at q
        simp only [Option.some.injEq] at q
        subst q
        rw [beq_iff_eq] at hz2
        subst hz2
        obtain ⟨rv', a, b⟩ := he _ _ hu
        refine ⟨rv', ?_, b⟩
        unfold Holds at a ⊢
        rw [hy] at a
        obtain ⟨c', a1, a2, a3⟩ := a
        rw [hc] at a1
        cases a1
        show (match (relabel scope env).names.lookup z with | some .local => _ | some .cell => _ | _ => False)
        rw [hyr]
        exact ⟨c, by simp [compEnvC], a2, a3⟩
      | false =>
        rw [hz2] at q
        cases q
theorem EnvOk.comp {scope : Scope} {cl : List (Str × Addr)} {cA : Addr} (K : EnvOk env) (hk : scope.kind = .function) : EnvOk (compEnvC scope cl cA env) := ⟨hk, K.glob, K.blt⟩

noncomputable def oneStr (c : Nat) : V := .str ⟨#[c]⟩
theorem ones_any {h h' : Heap} : ∀ (cs : List Nat) (rvs : List Value), VRs D h (cs.map oneStr) rvs → VRs D h' (cs.map oneStr) rvs
  | [], _, x => by simpa only [List.map_nil, VRs] using x
  | c :: cs, _, x => by
    simp only [List.map_cons, VRs] at x ⊢
    obtain ⟨rv, r, e1, a, b⟩ := x
    refine ⟨rv, r, e1, ?_, ones_any cs r b⟩
    unfold oneStr at a ⊢
    simpa only [VR] using a
theorem vrs_snoc {h : Heap} {vs : List V} {rvs : List Value} {v : V} {rv : Value} (a : VRs D h vs rvs) (b : VR D h v rv) : VRs D h (vs ++ [v]) (rvs ++ [rv]) :=
  VRs.append a (by simp only [VRs]; exact ⟨_, _, rfl, b, rfl⟩)
theorem cells_take {S : Str} {i c : Nat} (h : S.cps[i]? = some c) (p : Nat → Bool) : (S.cps.toList.take (i + 1)).filter p = (S.cps.toList.take i).filter p ++ (if p c then [c] else []) :=
  take_succ_filter p S.cps.toList i c (by simpa using h)

theorem forIn_one {T : PySem.Expr} {Q : Bool → Shared → Prop} (f : PySem.Expr → Sem Bool) (h : wpAny (model prog w) A (f T) Q E s) :
    wpAny (model prog w) A (forIn [T] true fun c r => if r = true then do let ok ← f c; pure (ForInStep.yield ok) else pure (ForInStep.yield r)) Q E s := by
  simp only [List.forIn_cons, List.forIn_nil, if_true]
  refine wpAny_bind (wpAny_bind (wpAny_mono h (fun ok s' q => wpAny_pure (wpAny_pure q)) fun _ _ z => z))

/-- the letters of a str that pass a test -/
theorem filter_ok {iter T : PySem.Expr} {x y : Str} {px px2 : Pos} {scope : Scope} {pos : Pos} {c : Addr} {u : V} {S : Str} {p : Nat → Bool} {Q : Value → Shared → Prop} (C : Cx w D g s.heap env e σ) (K : EnvOk env) (hh : A.handled = none)
    (hclos : closureFor scope env = pure [(y, c)]) (hcell : ∀ y ∈ scope.names, y.2 ≠ .cell) (hkind : scope.kind = .function)
    (hnames : ∀ y ∈ scope.names, y.2 = .local → scope.names.lookup y.1 = some .local) (hx : scope.names.lookup x = some .local) (hxy : x ≠ y)
    (hc : env.cells.lookup y = some c) (hu : e.lookup y = some u) (hy : env.scope.names.lookup y = some .cell) (hyr : (relabel scope env).names.lookup y = some .cell) (hlen : S.length ≤ 1000)
    (hnb : (x == ("__debug__" : Str)) = false)
    (hit : wpAny (model prog w) A (eval iter env) (fun xv s₁ => ∃ t h1 tk, xv = .str S t ∧ s₁ = { s with heap := h1, toks := tk } ∧ KB [] s.heap h1) E s)
    (test : ∀ cA cc (s₃ : Shared) E', cc ∈ S.cps.toList → EnvOk (compEnvC scope [(y, c)] cA env) → Cx w D g s₃.heap (compEnvC scope [(y, c)] cA env) [(x, oneStr cc), (y, u)] σ →
      wpAny (model prog w) A (isTrue T (compEnvC scope [(y, c)] cA env) (eval T (compEnvC scope [(y, c)] cA env))) (fun ok s₄ => ok = p cc ∧ ∃ h4 tk, s₄ = { s₃ with heap := h4, toks := tk } ∧ KB [] s₃.heap h4) E' s₃)
    (k : ∀ rv h' tk, VR D h' (.lst ((S.cps.toList.filter p).map oneStr)) rv → Cx w D g h' env e σ → KB [] s.heap h' → Q rv { s with heap := h', toks := tk })
    (hs : ∀ x, foldedSetIterable iter env x = pure x := by intro _; rfl) :
    wpAny (model prog w) A (eval (.ListComp (.Name x px2) [⟨.Name x px, iter, [T], 0⟩] scope pos) env) Q E s := by
  rw [eval_ListComp]
  refine comp_ok (D := D) hclos hcell hkind hnames hx (wpAny_mono hit (fun xv s₁ h₁ => ?_) fun _ _ z => z) hs
  obtain ⟨t, h1, tk1, rfl, rfl, kb1⟩ := h₁
  have C1 := C.ext kb1
  refine wpAny_pyIter_str fun o St hW hst => ?_
  have kbp := KB.push h1 o
  have C2 := C1.ext kbp
  have hsz2 : (h1.push o).objs.size = h1.objs.size + 1 := Heap.size_push _ _
  have lt1 : ∀ b o', s.heap.get? b = some o' → b < h1.objs.size := fun b o' q => Heap.lt_size (kb1 b o' (fun z => nomatch z) q)
  have fin : ∀ {h h' : Heap} {cA Dl : Addr}, (h1.push o).objs.size ≤ cA → (h1.push o).objs.size ≤ Dl → KB [] s.heap h → (∀ b o', b ≠ cA → b ∉ [h1.objs.size] → b ≠ Dl → h.get? b = some o' → h'.get? b = some o') → KB [] s.heap h' := by
    intro h h' cA Dl n1 n2 kb q b o' _ hb
    have l := lt1 b o' hb
    have l' : b < (h1.push o).objs.size := by rw [hsz2]; exact Nat.lt_succ_of_lt l
    exact q b o' (Nat.ne_of_lt (Nat.lt_of_lt_of_le l' n1)) (by simpa using Nat.ne_of_lt l) (Nat.ne_of_lt (Nat.lt_of_lt_of_le l' n2)) (kb b o' (fun z => nomatch z) hb)
  refine ⟨h1.objs.size, [h1.objs.size], [h1.objs.size], S.cps.size, SignAt S, St, fun i ys h => KB [] s.heap h ∧ SR g D σ h ∧ VRs D h (((S.cps.toList.take i).filter p).map oneStr) ys, rfl, hW A hh, ?_, hst, ?_, ?_, muts_lt C2.sr, ?_, ?_, ?_⟩
  · exact Nat.le_trans hlen (by rw [sizeLine_eq]; exact Nat.le_of_ble_eq_true rfl)
  · intro b hb
    simp only [List.mem_singleton] at hb
    rw [hb, hsz2]
    exact Nat.lt_succ_self _
  · intro b hb
    simp only [List.mem_singleton] at hb
    rw [hb]
    exact C1.sr.new_mut
  · refine ⟨?_, ?_, ?_⟩
    · rintro i j ys h h' cA Dl m zs n1 n2 hN hl _ ⟨kb, S', v⟩ q
      have kb' := fin n1 n2 kb q
      exact ⟨kb', C.sr.grow kb', ones_any _ _ v⟩
    · rintro ys h h' ⟨kb, S', v⟩ q
      have kb' : KB [] s.heap h' := fun b o' z hb => q _ _ (kb b o' z hb)
      exact ⟨kb', C.sr.grow kb', ones_any _ _ v⟩
    · rintro cA i v ys s₃ m₃ E' n1 hi ⟨cc, tt, hcc, rfl⟩ ⟨kb, S', v⟩ N hm
      have C3 : Cx w D g s₃.heap env e σ := C.ext kb
      have new := C2.sr.new n1
      have Cc := C3.comp1 (scope := scope) hc ⟨new.1, new.2.1⟩ N hm (v := oneStr cc) (by unfold oneStr; simp only [VR]; exact ⟨_, rfl⟩) hx hxy hu hy hyr
      have hmem : cc ∈ S.cps.toList := by
        have := Array.mem_of_getElem? hcc
        exact Array.mem_toList_iff.mpr this
      refine forIn_one _ (wpAny_mono (test cA cc s₃ E' hmem (K.comp hkind) Cc) (fun ok s₄ h₄ => ?_) fun _ _ z => z)
      obtain ⟨rfl, h4, tk4, rfl, kb4⟩ := h₄
      have kb5 : KB [] s.heap h4 := kb.trans kb4
      cases hp : p cc with
      | true =>
        simp only [if_true]
        refine nameA_ok (v := oneStr cc) ?_ (K.comp hkind) (Cc.ext kb4) fun rv hv => ?_
        · unfold nameA
          rw [if_neg (by rw [hnb]; decide)]
          show (match (relabel scope env).names.lookup x with | some .local => _ | some .cell => _ | some .globalImplicit => _ | _ => none) = _
          rw [show (relabel scope env).names.lookup x = some .local from lookup_relabel_local hx]
          simp
        · refine ⟨h4, tk4, rfl, kb4.of_nil, kb5, C.sr.grow kb5, ?_⟩
          rw [cells_take hcc, hp, if_pos rfl, List.map_append]
          exact vrs_snoc (ones_any _ _ v) hv
      | false =>
        simp only [Bool.false_eq_true, if_false]
        refine ⟨h4, tk4, rfl, kb4.of_nil, kb5, C.sr.grow kb5, ?_⟩
        rw [cells_take hcc, hp]
        simpa using ones_any _ _ v
  · exact ⟨kb1.trans kbp, C2.sr, by simp [VRs]⟩
  · rintro Dl cA h' tk ys m' n1 n2 ne hl N ⟨kb, S', v⟩ _
    refine ⟨m', N, fun h'' sb => ?_⟩
    have kb' : KB [] s.heap h'' := fun b o' _ hb => sb.extBut b o' (Nat.ne_of_lt (Nat.lt_of_lt_of_le (by show b < (h1.push o).objs.size; rw [hsz2]; exact Nat.lt_succ_of_lt (lt1 b o' hb)) n2)) (kb b o' (fun z => nomatch z) hb)
    refine k _ h'' tk ?_ (C.ext kb') kb'
    obtain ⟨n, hn⟩ := hl
    rw [show S.cps.toList.take S.cps.size = S.cps.toList from List.take_of_length_le (by simp)] at v
    simp only [VR]
    refine ⟨Dl, ys.toList, n, rfl, (C2.sr.new n1).1, ?_, ones_any _ _ v⟩
    exact sb.extBut _ _ (Ne.symm ne) hn
end
end Mine

namespace Mine
open PySem PySem.W PySem.Calls PyProof.Rows

section
variable {prog : Program} {w : World} {A : Around} {E : Value → Shared → Prop} {s : Shared} {D : Dm} {g : Heap} {σ σ' : CS} {env : Env} {e : List (Str × V)}

theorem closure1 {scope : Scope} {y : Str} {c : Addr} (h : (scope.names.filter (fun p => p.2 == .free)) = [(y, .free)]) (hc : env.cells.lookup y = some c) : closureFor scope env = pure [(y, c)] := by
  have key : ∀ (ns : List (Str × NameKind)) (acc : List (Str × Addr)), (ns.filter (fun p => p.2 == .free)) = [] →
      (forIn ns acc fun (p : Str × NameKind) (cs : List (Str × Addr)) => (if (p.2 == .free) = true then do let c ← cellOf env p.1; pure (ForInStep.yield ((p.1, c) :: cs)) else pure (ForInStep.yield cs) : Sem _)) = pure acc := by
    intro ns
    induction ns with
    | nil => intro acc _; rfl
    | cons p ns ih =>
      intro acc q
      rw [List.filter_cons] at q
      split at q
      · cases q
      · rename_i hp
        rw [List.forIn_cons, if_neg hp]
        exact ih acc q
  have key2 : ∀ (ns : List (Str × NameKind)), (ns.filter (fun p => p.2 == .free)) = [(y, .free)] →
      (forIn ns ([] : List (Str × Addr)) fun (p : Str × NameKind) (cs : List (Str × Addr)) => (if (p.2 == .free) = true then do let c ← cellOf env p.1; pure (ForInStep.yield ((p.1, c) :: cs)) else pure (ForInStep.yield cs) : Sem _)) = pure [(y, c)] := by
    intro ns
    induction ns with
    | nil => intro q; cases q
    | cons p ns ih =>
      intro q
      rw [List.filter_cons] at q
      split at q
      · rename_i hp
        have e1 := (List.cons.inj q).1
        have e2 := (List.cons.inj q).2
        subst e1
        rw [List.forIn_cons, if_pos hp]
        have : cellOf env y = pure c := by unfold cellOf; rw [hc]
        show (do let c ← cellOf env y; _) >>= _ = _
        rw [this]
        exact key ns [(y, c)] e2
      · rename_i hp
        rw [List.forIn_cons, if_neg hp]
        exact ih q
  have := key2 scope.names h
  unfold closureFor
  exact congrArg (· >>= fun r => pure r) this
end
end Mine

namespace Mine
open PySem PySem.W PySem.Calls PyProof.Rows

noncomputable def meetL (x y : Ord) : List Nat := (x.wr.cps.toList.filter (fun c => decide (c ∈ (y.rd ++ y.wr).cps.toList))) ++ (y.wr.cps.toList.filter (fun c => decide (c ∈ x.rd.cps.toList)))
noncomputable def meetB (x y : Ord) : Bool := !(meetL x y).isEmpty
theorem has_iff {x : Str} {c : Nat} : has x c = true ↔ c ∈ x.cps.toList := by
  unfold has
  rw [List.any_eq_true]
  constructor
  · rintro ⟨d, h1, h2⟩
    rw [Nat.beq_eq] at h2
    exact h2 ▸ h1
  · intro h
    exact ⟨c, h, by simp⟩
theorem app_cps (x y : Str) : (x ++ y).cps.toList = x.cps.toList ++ y.cps.toList := by
  show (x.cps ++ y.cps).toList = _
  simp
theorem apart_of {x y : Ord} (h : meetB x y = false) : Apart x y := by
  unfold meetB meetL at h
  have h : (x.wr.cps.toList.filter (fun c => decide (c ∈ (y.rd ++ y.wr).cps.toList))) ++ (y.wr.cps.toList.filter (fun c => decide (c ∈ x.rd.cps.toList))) = [] := by simpa using h
  rw [List.append_eq_nil_iff] at h
  obtain ⟨h1, h2⟩ := h
  rw [List.filter_eq_nil_iff] at h1 h2
  refine ⟨fun c hc => ?_, fun c hc => Bool.eq_false_iff.mpr fun q => ?_⟩
  · have q := h1 c (has_iff.mp hc)
    rw [decide_eq_true_eq, app_cps, List.mem_append, not_or] at q
    exact ⟨Bool.eq_false_iff.mpr fun z => q.1 (has_iff.mp z), Bool.eq_false_iff.mpr fun z => q.2 (has_iff.mp z)⟩
  · exact h2 c (has_iff.mp hc) (decide_eq_true (has_iff.mp q))
theorem ords_short : ∀ x ∈ ords, x.rd.length ≤ 20 ∧ x.wr.length ≤ 20 := by
  have h : ords.all (fun x => decide (x.rd.length ≤ 20) && decide (x.wr.length ≤ 20)) = true := by kernel_rfl
  intro x hx
  have q := List.all_eq_true.mp h x hx
  rw [Bool.and_eq_true] at q
  exact ⟨of_decide_eq_true q.1, of_decide_eq_true q.2⟩

section
variable {prog : Program} {w : World} {A : Around} {E : Value → Shared → Prop} {s : Shared} {D : Dm} {g : Heap} {σ σ' : CS} {env : Env} {e : List (Str × V)}

theorem lst_empty {rv re : Value} {vs : List V} {Q : Value → Shared → Prop} (hu : A.units + 64 < cLine) (h1 : VR D s.heap (.lst vs) rv) (h2 : VR D s.heap (.lst []) re) (k : Q (.bool (!vs.isEmpty)) s) : wpAny (model prog w) A (compareOp .NotEq rv re) Q E s := by
  simp only [VR] at h1 h2
  obtain ⟨a, rvs, n, rfl, _, e1, v1⟩ := h1
  obtain ⟨b, rvs2, n2, rfl, _, e2, v2⟩ := h2
  simp only [VRs] at v2
  subst v2
  cases vs with
  | nil =>
    simp only [VRs] at v1
    subst v1
    exact ne_dataH (da := .list []) (db := .list []) (reads_list_at e1 rfl rfl (by exact ReadsAll.nil)) (reads_list_at e2 rfl rfl (by exact ReadsAll.nil)) rfl rfl hu k
  | cons v vs =>
    have hl : rvs.length = vs.length + 1 := (vrs_len v1)
    exact PySem.SeqAt.RcNeAt.lists_lengths (seq_list e1) (seq_list e2) (by simp [hl]) (Nat.lt_of_le_of_lt (Nat.le_add_right _ _) hu) prog w E Q k

theorem meet_ok {R : Result → Shared → Prop} {n : Nat} {x y : Ord} {r1 r2 : Value} (a : AOk A (n + 60)) (G : Gd w g) (hc : D.cpu = none) (S : SR g D σ s.heap) (hx : x ∈ ords) (hy : y ∈ ords) (V1 : VR D s.heap (ordVal x) r1) (V2 : VR D s.heap (ordVal y) r2)
    (k : ∀ h' tk, SR g D σ h' → KB [] s.heap h' → R (.ok (.ret (.bool (meetB x y)))) { s with heap := h', toks := tk }) :
    codeAny (model prog w) A (.call (.ref 454) ⟨[r1, r2], []⟩) R s := by
  refine enter (n := n + 59) (vs := [ordVal x, ordVal y]) (f := 454) rfl (by kernel_rfl) rfl rfl rfl a G S (by simp only [VRs]; exact ⟨_, _, rfl, V1, _, _, rfl, V2, rfl⟩) ?_
  intro env h₁ tk hsc K a' C kb0 cR hcl
  have tn := tch_nil hc
  have sx := ords_short x hx
  have sy := ords_short y hy
  obtain ⟨c1, hc1⟩ := Option.isSome_iff_exists.mp (hcl "other" rfl)
  obtain ⟨c2, hc2⟩ := Option.isSome_iff_exists.mp (hcl "one" rfl)
  have hu : (A.deeper env).units + 64 < cLine := by have := a'.units; have : cLine = 9900 := rfl; omega
  refine wpAny_execs_cons (wpAny_Return_some (wpAny_Compare1 (wpAny_BinOp (filter_ok (S := x.wr) (u := ordVal y) (p := fun c => decide (c ∈ (y.rd ++ y.wr).cps.toList)) C K a'.hand (closure1 rfl hc1) (by decide) rfl (by decide) rfl (by decide) hc1 rfl (by rw [hsc]; rfl) (by unfold relabel Env.kindOf; rw [hsc]; rfl) (by omega) (by decide) ?_ ?_ ?_))))
  · -- one[2]
    refine ev (n := 10) (v := .str x.wr) (σ' := σ) (by rw [hsc]; rfl) (a'.lower (by omega)) K C fun rv h' tk hv C' kb => ?_
    rw [tn] at kb
    simp only [VR] at hv
    obtain ⟨t, rfl⟩ := hv
    exact ⟨t, h', tk, rfl, rfl, kb⟩
  · intro cA cc s₃ E' hmem K' Cc
    refine wpAny_isTrue_Compare1 (nameA_ok (v := oneStr cc) (by show nameA _ (relabel _ env) _ _ = _; unfold relabel Env.kindOf; rw [hsc]; rfl) K' Cc fun ra ha => wpAny_BinOp (ev (n := 10) (v := .str y.rd) (σ' := σ) (by show evA _ _ (relabel _ env) _ _ _ = _; unfold relabel Env.kindOf; rw [hsc]; rfl) (a'.lower (by omega)) K' Cc fun rb h4 tk4 hb Cc4 kb4 => ev (s := { s₃ with heap := h4, toks := tk4 }) (n := 10) (v := .str y.wr) (σ' := σ) (by show evA _ _ (relabel _ env) _ _ _ = _; unfold relabel Env.kindOf; rw [hsc]; rfl) (a'.lower (by omega)) K' Cc4 fun rc h5 tk5 hcv Cc5 kb5 => ?_))
    rw [tn] at kb4 kb5
    unfold oneStr at ha
    simp only [VR] at ha hb hcv
    obtain ⟨ta, rfl⟩ := ha
    obtain ⟨tb, rfl⟩ := hb
    obtain ⟨tc, rfl⟩ := hcv
    refine PyProof.Rows.add_str (fun t' tk => PyProof.Rows.in_str (wpAny_truthy_bool ⟨?_, h5, _, rfl, kb4.trans kb5⟩)) (by rw [sizeLine_eq]; have : (16777216 : Nat) = 2 ^ 24 := rfl; omega)
    exact StrLaws.found_one _ _
  · intro rv1 h2 tk2 hv1 C2 kb2
    refine filter_ok (s := { s with heap := h2, toks := tk2 }) (S := y.wr) (u := ordVal x) (p := fun c => decide (c ∈ x.rd.cps.toList)) C2 K a'.hand (closure1 rfl hc2) (by decide) rfl (by decide) rfl (by decide) hc2 rfl (by rw [hsc]; rfl) (by unfold relabel Env.kindOf; rw [hsc]; rfl) (by omega) (by decide) ?_ ?_ ?_
    · refine ev (s := { s with heap := h2, toks := tk2 }) (n := 10) (v := .str y.wr) (σ' := σ) (by rw [hsc]; rfl) (a'.lower (by omega)) K C2 fun rv h' tk hv C' kb => ?_
      rw [tn] at kb
      simp only [VR] at hv
      obtain ⟨t, rfl⟩ := hv
      exact ⟨t, h', tk, rfl, rfl, kb⟩
    · intro cA cc s₃ E' hmem K' Cc
      refine wpAny_isTrue_Compare1 (nameA_ok (v := oneStr cc) (by show nameA _ (relabel _ env) _ _ = _; unfold relabel Env.kindOf; rw [hsc]; rfl) K' Cc fun ra ha => ev (n := 10) (v := .str x.rd) (σ' := σ) (by show evA _ _ (relabel _ env) _ _ _ = _; unfold relabel Env.kindOf; rw [hsc]; rfl) (a'.lower (by omega)) K' Cc fun rb h4 tk4 hb Cc4 kb4 => ?_)
      rw [tn] at kb4
      unfold oneStr at ha
      simp only [VR] at ha hb
      obtain ⟨ta, rfl⟩ := ha
      obtain ⟨tb, rfl⟩ := hb
      exact PyProof.Rows.in_str (wpAny_truthy_bool ⟨StrLaws.found_one _ _, h4, _, rfl, kb4⟩)
    · intro rv2 h3 tk3 hv2 C3 kb3
      have hv1' := VR.keeps (.of_KB kb3.of_nil) _ _ hv1
      simp only [VR] at hv1' hv2
      obtain ⟨l1, vs1, n1, rfl, nm1, e1, w1⟩ := hv1'
      obtain ⟨l2, vs2, n2, rfl, nm2, e2, w2⟩ := hv2
      have q1 : (x.wr.cps.toList.filter (fun c => decide (c ∈ (y.rd ++ y.wr).cps.toList))).length ≤ 20 := Nat.le_trans (List.length_filter_le _ _) (by have := sx.2; simpa [Str.length] using this)
      have q2 : (y.wr.cps.toList.filter (fun c => decide (c ∈ x.rd.cps.toList))).length ≤ 20 := Nat.le_trans (List.length_filter_le _ _) (by have := sy.2; simpa [Str.length] using this)
      have len1 := vrs_len w1
      have len2 := vrs_len w2
      rw [List.length_map] at len1 len2
      refine PySem.P.add_list (s := { s with heap := h3, toks := tk3 }) e1 e2 ?_ (by rw [sizeLine_eq]; have : (16777216 : Nat) = 2 ^ 24 := rfl; simp; omega)
      have kb4 := KB.push h3 { cls := .type "list", data := .seq (vs1.toArray ++ vs2.toArray) }
      have C4 := C3.ext kb4
      have hres : VR D (h3.push { cls := .type "list", data := .seq (vs1.toArray ++ vs2.toArray) }) (.lst ((meetL x y).map oneStr)) (.ref h3.objs.size) := by
        simp only [VR]
        refine ⟨h3.objs.size, vs1 ++ vs2, 0, rfl, C3.sr.new_mut, ?_, ?_⟩
        · rw [show seqObj "list" (vs1 ++ vs2) 0 = { cls := .type "list", data := .seq (vs1.toArray ++ vs2.toArray) } by simp]
          exact Heap.get?_push_size _ rfl
        · unfold meetL
          rw [List.map_append]
          exact VRs.append (ones_any _ _ w1) (ones_any _ _ w2)
      refine ev (s := { s with heap := _, toks := tk3 }) (n := 10) (v := .lst []) (σ' := σ) (by rw [hsc]; rfl) (a'.lower (by omega)) K C4 fun re h5 tk5 hre C5 kb5 => ?_
      rw [tn] at kb5
      refine lst_empty hu (VR.keeps (.of_KB kb5.of_nil) _ _ hres) hre ?_
      have kbA : KB [] s.heap h5 := kb0.trans (kb2.trans (kb3.trans (kb4.trans kb5)))
      have := k h5 tk5 (S.grow kbA) kbA
      unfold meetB at this
      rw [show ((meetL x y).map oneStr).isEmpty = (meetL x y).isEmpty by cases meetL x y <;> rfl]
      exact this
end
end Mine

namespace Mine
open PySem PySem.W PySem.Calls PyProof.Rows

theorem put_self {name : Str} {hsh : Int} {tk : Tok} {v : Value} : ∀ es : List DictEntry, ((putL name hsh (.str name tk) v es).find? (·.key.isStr name)).map (·.val) = some v
  | [] => by simp [putL, Value.isStr]
  | e :: r => by
    unfold putL
    split
    · rename_i q
      rw [List.find?_cons]; simp only [q]; rfl
    · rename_i q
      rw [List.find?_cons]; simp only [q]; exact put_self r
theorem put_ne {name name' : Str} {hsh : Int} {tk : Tok} {v : Value} (ne : name' ≠ name) : ∀ es : List DictEntry, ((putL name hsh (.str name tk) v es).find? (·.key.isStr name')).map (·.val) = (es.find? (·.key.isStr name')).map (·.val)
  | [] => by
    have : (Value.str name tk).isStr name' = false := by
      cases z : (Value.str name tk).isStr name' with
      | false => rfl
      | true => exact absurd (Value.isStr_inj _ _ _ z (by simp [Value.isStr])) ne
    simp [putL, this]
  | e :: r => by
    unfold putL
    split
    · rename_i q
      have q' : e.key.isStr name' = false := by
        cases z : e.key.isStr name' with
        | false => rfl
        | true => exact absurd (Value.isStr_inj _ _ _ z q) ne
      simp only [List.find?_cons, q']
    · rename_i q
      simp only [List.find?_cons]
      cases z : e.key.isStr name' with
      | true => rfl
      | false => exact put_ne ne r
theorem put_ref {name : Str} {hsh : Int} {tk : Tok} {v : Value} : ∀ es : List DictEntry, es.any (·.refKey) = false → (putL name hsh (.str name tk) v es).any (·.refKey) = false
  | [], _ => rfl
  | e :: r, h => by
    rw [List.any_cons, Bool.or_eq_false_iff] at h
    unfold putL
    split
    · rw [List.any_cons, h.2, Bool.or_false]
      exact h.1
    · rw [List.any_cons, put_ref r h.2, Bool.or_false]
      exact h.1
theorem put_len {name : Str} {hsh : Int} {key v : Value} : ∀ es : List DictEntry, (putL name hsh key v es).length ≤ es.length + 1
  | [] => Nat.le_refl _
  | e :: r => by
    unfold putL
    split
    · simp
    · have := put_len (name := name) (hsh := hsh) (key := key) (v := v) r
      simpa using this
theorem getL_find {name : Str} {es : List DictEntry} {v : Value} (h : (es.find? (·.key.isStr name)).map (·.val) = some v) : getL name es = some (some v) := by
  unfold getL
  cases z : es.find? (·.key.isStr name) with
  | none => rw [z] at h; cases h
  | some e => rw [z] at h; simp only [Option.map_some, Option.some.injEq] at h; show some (some e.val) = _; rw [h]
theorem find_getL {name : Str} {es : List DictEntry} {v : Value} (h : getL name es = some (some v)) : (es.find? (·.key.isStr name)).map (·.val) = some v := by
  unfold getL at h
  split at h
  · rename_i e q; rw [q]; simp only [Option.some.injEq] at h; simp [h]
  · split at h <;> cases h

/-- an object of a class with its own dict -/
structure Ins (C : Addr) (h : Heap) (x d : Addr) (fl : List (Str × Value)) (k : Nat) : Prop where
  inst : h.get? x = some (instObj C d)
  dict : ∃ es n, h.get? d = some (dictOf es n) ∧ es.any (·.refKey) = false ∧ es.length ≤ k ∧ ∀ name v, fl.lookup name = some v → getL name es = some (some v)

theorem Ins.kb {C : Addr} {h h' : Heap} {x d : Addr} {fl : List (Str × Value)} {k : Nat} {as : List Addr} (I : Ins C h x d fl k) (K : KB as h h') (n1 : x ∉ as) (n2 : d ∉ as) : Ins C h' x d fl k := by
  obtain ⟨a, es, n, b, r⟩ := I
  exact ⟨K _ _ n1 a, es, n, K _ _ n2 b, r⟩

section
variable {prog : Program} {w : World} {A : Around} {E : Value → Shared → Prop} {s : Shared} {D : Dm} {g : Heap} {σ σ' : CS} {env : Env} {e : List (Str × V)}

theorem fld_ok {K : Frag} {C x d : Addr} {fl : List (Str × Value)} {k : Nat} {name : Str} {v : Value} {Q : Unit → Shared → Prop} (X : K.In s.heap) (I : Ins C s.heap x d fl k) (hk : k ≤ 500)
    (hsa : findIn K (.ref C) "__setattr__" = some (some (.builtin "object.__setattr__"))) (ho : plainOver K C = true) (hd : hasDictIn K C = true) (ht : takerIn K C name = some none)
    (q : ∀ h' tk, Ins C h' x d ((name, v) :: fl) (k + 1) → Heap.SameBut d s.heap h' → Q () { s with heap := h', toks := tk }) : wpAny (model prog w) A (setAttr (.ref x) name v) Q E s := by
  obtain ⟨hx, es, n, y1, y2, y3, y4⟩ := I
  have I : PySem.W.InstAt s.heap x (instObj C d) C (some (dictOf es n)) := ⟨hx, rfl, rfl, y1⟩
  obtain ⟨cd, hc, hd⟩ := any_some hd
  refine set_plain X I hsa (osa_open (s := { s with toks := s.toks + 1 }) X I ho ht fun b => ?_)
  have LC : Looks (model prog w) s.heap (classData C) cd := looks_clsIn X hc
  have ne : x ≠ d := by
    rintro rfl
    rw [hx] at y1
    cases y1
  obtain ⟨hh', gg, dd, tk, os⟩ := s
  dsimp only at LC hx y1
  have e1 : Obj.putName name (PyData.keyHash w.params name) (.str name (tk + 1)) v (dictOf es n) = dictOf (putL name (PyData.keyHash w.params name) (.str name (tk + 1)) v es) (putN name es n) := putName_dict ..
  have len := put_len (name := name) (hsh := PyData.keyHash w.params name) (key := .str name (tk + 1)) (v := v) es
  repeat lk
  simp only [hd, Bool.not_true, Bool.false_eq_true, if_false]
  repeat lk
  have ar : aRefKeyMayBeTheName name es.toArray = false := by
    rw [aRefKeyMayBeTheName_at, ← Array.any_toList, ← Array.any_toList, show (es.toArray.toList.any fun x => x.refKey) = false from y2, Bool.and_false]
  rw [ar]
  simp only [Bool.false_eq_true, if_false]
  refine wpAny_updatePart y1 ?_
  have e2 : Obj.putName name (if name.cps.isEmpty = true then 0 else reduceHash ((model prog w).w.params.strHash name.cps)) (Value.str name (tk + 1)) v (dictOf es n) = _ := e1
  generalize Obj.putName name (if name.cps.isEmpty = true then 0 else reduceHash ((model prog w).w.params.strHash name.cps)) (Value.str name (tk + 1)) v = f at e2 ⊢
  have D' : (hh'.update d f).get? d = some (f (dictOf es n)) := Heap.get?_update_self f y1 (by rw [e2]; rfl)
  rw [e2] at D'
  have sb := Heap.SameBut.update hh' d f
  refine wpAny_bind (wpAny_lookBehind D' (pastItsLine_dict (by rw [List.size_toArray, sizeLine_eq]; exact Nat.le_trans len (Nat.le_trans (Nat.succ_le_succ (Nat.le_trans y3 hk)) (by decide)))) ?_)
  refine wpAny_pure (q _ _ ⟨(sb.2 _ ne).trans hx, _, _, D', put_ref es y2, Nat.le_trans len (Nat.succ_le_succ y3), fun nm u hl => ?_⟩ sb)
  rw [List.lookup_cons] at hl
  cases z : (nm == name) with
  | true =>
    rw [z] at hl
    cases hl
    rw [beq_iff_eq.mp z]
    exact getL_find (put_self es)
  | false =>
    rw [z] at hl
    have zn : nm ≠ name := by simpa using z
    exact getL_find ((put_ne zn es).trans (find_getL (y4 nm u hl)))

theorem AOk.under {C : Addr} {rest : List Value} {kw : List (Str × Value)} {n : Nat} (x : AOk A (n + 1)) : AOk (A.under (.builtin "type.__call__" ⟨.ref C :: rest, kw⟩)) n :=
  ⟨x.hand, by have := x.depth; show A.depth + 1 + n ≤ 900; omega, by have := x.units; show A.units + 1 + 3 * n ≤ 9000; omega⟩

theorem mulList {l : Addr} {items : Array Value} {k : Nat} {x : Int} {u : Tok} {Q : Value → Shared → Prop}
    (hl : s.heap.get? l = some { cls := .type "list", dict := none, data := .seq items k, slots := #[] })
    (hlo : -(2 ^ 63 : Int) ≤ x) (hhi : x < 2 ^ 63) (hsz : items.size * x.toNat ≤ 2 ^ 24)
    (h : ∀ o, Q (.ref s.heap.objs.size) { s with heap := s.heap.push o }) :
    wpAny (model prog w) A (binaryOp .Mult (.ref l) (.int x u)) Q E s :=
  wpAny_binaryOp_repeat_ref (T := "list") (U := "int") (by decide) ⟨_, hl, rfl⟩ (fun s' => typeIs_int s' x u) noFill_list_mul F.fills_int_mul F.slot_int_rmul repeat_list F.slot_int_index.lookup
    (call_meets F.slot_int_rmul (typeIs_int s x u) F.entry_int_rmul (F.args_int_rmul_2 _ _) (int___rmul___int_list x u l items k)
      ⟨hl, rfl, ⟨_, hl, rfl⟩, call_meets F.slot_list_mul ⟨_, hl, rfl⟩ F.entry_list_mul (F.args_list_mul_2 _ _)
        (AutoListH.list___mul___list_int_3 l items k x u (by simp [Builtin.List.listFitsIndex]; omega) (by omega) (by simp [Builtin.List.listTooLong, sizeLine]; omega))
        ⟨hl, h _⟩⟩)

/-- a field of the object at hand, stored by a statement -/
theorem field_ok {C x d : Addr} {fl : List (Str × Value)} {k : Nat} {name nself : Str} {value : PySem.Expr} {p1 p2 p3 : Pos} {rest : List Stmt} {Q : Flow → Shared → Prop} (K : EnvOk env) (Cc : Cx w D g s.heap env e σ) (hc : D.cpu = none) (hd : d ∈ D.ext)
    (I : Ins C s.heap x d fl k) (hk : k ≤ 500) (hself : nameA w.params env.scope e nself = some (.ref x)) (hcomp : notComp value = true)
    (hsa : findIn (KF w.params) (.ref C) "__setattr__" = some (some (.builtin "object.__setattr__"))) (ho : plainOver (KF w.params) C = true) (hh : hasDictIn (KF w.params) C = true) (ht : takerIn (KF w.params) C name = some none)
    (hv : wpAny (model prog w) A (eval value env) (fun rv s₁ => ∃ h1 tk, s₁ = { s with heap := h1, toks := tk } ∧ KB [] s.heap h1 ∧
      ∀ h' tk', Cx w D g h' env e σ → Ins C h' x d ((name, rv) :: fl) (k + 1) → KB [d] h1 h' → wpAny (model prog w) A (execs rest env) Q E { s with heap := h', toks := tk' }) E s) :
    wpAny (model prog w) A (execs (.Assign [.Attribute (.Name nself p1) name p2] value p3 :: rest) env) Q E s := by
  have nx : x ∉ ([] : List Addr) := fun z => nomatch z
  have nd : d ∉ ([] : List Addr) := fun z => nomatch z
  refine wpAny_execs_cons (plainObj_wpAny_Assign_Attribute (wpAny_mono hv (fun rv s₁ h₁ => ?_) fun _ _ z => z) (notComp_swaps hcomp _ _))
  obtain ⟨h1, tk, rfl, kb, kk⟩ := h₁
  have C1 := Cc.ext kb
  refine nameA_ok (s := { s with heap := h1, toks := tk }) hself K C1 fun ro hro => ?_
  simp only [VR] at hro
  subst hro
  have X := C1.gd.In (s := { s with heap := h1, toks := tk }) C1.sr
  refine fld_ok (s := { s with heap := h1, toks := tk }) X (I.kb kb nx nd) hk hsa ho hh ht fun h' tk' I' sb => ?_
  have hsome : (h'.get? d).isSome = true := by
    obtain ⟨_, es, n, y, _⟩ := I'
    rw [y]; rfl
  obtain ⟨S', kb'⟩ := C1.sr.touch hc hd sb hsome
  exact kk h' tk' (C1.mvm S' kb') I' (KB.of_same sb)
end
end Mine

namespace Mine
open PySem PySem.W PySem.Calls PyProof.Rows

theorem k_makes (P : Params) : makesIn (KF P) 31 = true := by kernel_rfl
theorem k_init (P : Params) : findIn (KF P) (.ref 31) "__init__" = some (some (.ref 28)) := by kernel_rfl
theorem k_makesP (P : Params) : makesIn (KF P) 52 = true := by kernel_rfl
theorem k_initP (P : Params) : findIn (KF P) (.ref 52) "__init__" = some (some (.ref 49)) := by kernel_rfl
theorem k_fn28 (P : Params) : typeIn (KF P) (.ref 28) = some (.type "function") := by kernel_rfl
theorem k_fn49 (P : Params) : typeIn (KF P) (.ref 49) = some (.type "function") := by kernel_rfl
theorem k_hasDictP (P : Params) : hasDictIn (KF P) 52 = true := by kernel_rfl
theorem k_saP (P : Params) : findIn (KF P) (.ref 52) "__setattr__" = some (some (.builtin "object.__setattr__")) := by kernel_rfl
theorem k_overP (P : Params) : plainOver (KF P) 52 = true := by kernel_rfl

section
variable {prog : Program} {w : World} {A : Around} {E : Value → Shared → Prop} {s : Shared} {D : Dm} {g : Heap} {σ σ' : CS} {env : Env} {e : List (Str × V)}

/-- a fresh object of a class: the dict is its only mutable part -/
theorem fresh_SR {h : Heap} (S : SR g D σ h) (C : Addr) : SR g ⟨none, [h.objs.size]⟩ σ ((h.push emptyDict).push (instObj C h.objs.size)) ∧ KB [] h ((h.push emptyDict).push (instObj C h.objs.size)) ∧ Ins C ((h.push emptyDict).push (instObj C h.objs.size)) (h.objs.size + 1) h.objs.size [] 0 := by
  have kb : KB [] h ((h.push emptyDict).push (instObj C h.objs.size)) := (KB.push h _).trans (KB.push _ _)
  have hd : ((h.push emptyDict).push (instObj C h.objs.size)).get? h.objs.size = some emptyDict := Heap.get?_push_of_some _ (Heap.get?_push_size _ rfl)
  have hx : ((h.push emptyDict).push (instObj C h.objs.size)).get? (h.objs.size + 1) = some (instObj C h.objs.size) := by
    have := Heap.get?_push_size (h.push emptyDict) (o := instObj C h.objs.size) rfl
    rwa [Heap.size_push] at this
  refine ⟨⟨fun b o q => kb b o (fun z => nomatch z) (S.keep b o q), fun b hb => ?_, fun W hW => (nomatch hW), fun a ha => ?_⟩, kb, hx, [], 0, hd, rfl, Nat.le_refl _, fun _ _ z => (nomatch z)⟩
  · have : b = h.objs.size := by simpa [muts, tch] using hb
    rw [this]
    exact S.new_base
  · have : a = h.objs.size := by simpa using ha
    rw [this, hd]; rfl

theorem field_c {C x d : Addr} {fl : List (Str × Value)} {k n : Nat} {v : V} {name nself : Str} {value : PySem.Expr} {p1 p2 p3 : Pos} {rest : List Stmt} {Q : Flow → Shared → Prop} (K : EnvOk env) (Cc : Cx w D g s.heap env e σ) (hc : D.cpu = none) (hd : d ∈ D.ext)
    (I : Ins C s.heap x d fl k) (hself : nameA w.params env.scope e nself = some (.ref x)) (hev : evA w.params n env.scope e σ value = some (v, σ)) (a : AOk A n)
    (hsa : findIn (KF w.params) (.ref C) "__setattr__" = some (some (.builtin "object.__setattr__"))) (ho : plainOver (KF w.params) C = true) (hh : hasDictIn (KF w.params) C = true) (ht : takerIn (KF w.params) C name = some none) (hk : k ≤ 500) (hcomp : notComp value = true)
    (cont : ∀ rv h' tk', (∀ i r, v = .int i r → ∃ t, rv = .int i t) → Cx w D g h' env e σ → Ins C h' x d ((name, rv) :: fl) (k + 1) → wpAny (model prog w) A (execs rest env) Q E { s with heap := h', toks := tk' }) :
    wpAny (model prog w) A (execs (.Assign [.Attribute (.Name nself p1) name p2] value p3 :: rest) env) Q E s :=
  field_ok K Cc hc hd I hk hself hcomp hsa ho hh ht (ev hev a K Cc fun rv h' tk hv C' kb => ⟨h', tk, rfl, by rw [tch_nil hc] at kb; exact kb, fun h'' tk'' C'' I'' _ => cont rv h'' tk'' (fun i r z => by subst z; simp only [VR] at hv; exact hv.1) C'' I''⟩)
theorem field_m {C x d : Addr} {fl : List (Str × Value)} {k : Nat} {name nself : Str} {p1 p2 p3 pa pb pc pd : Pos} {k1 k3 : Nat} {rest : List Stmt} {Q : Flow → Shared → Prop} (K : EnvOk env) (Cc : Cx w D g s.heap env e σ) (hc : D.cpu = none) (hd : d ∈ D.ext)
    (I : Ins C s.heap x d fl k) (hself : nameA w.params env.scope e nself = some (.ref x)) (a : AOk A 10)
    (hsa : findIn (KF w.params) (.ref C) "__setattr__" = some (some (.builtin "object.__setattr__"))) (ho : plainOver (KF w.params) C = true) (hh : hasDictIn (KF w.params) C = true) (ht : takerIn (KF w.params) C name = some none) (hk : k ≤ 500)
    (cont : ∀ rv h' tk', Cx w D g h' env e σ → Ins C h' x d ((name, rv) :: fl) (k + 1) → wpAny (model prog w) A (execs rest env) Q E { s with heap := h', toks := tk' }) :
    wpAny (model prog w) A (execs (.Assign [.Attribute (.Name nself p1) name p2] (.BinOp (.List [.Constant (.int 0) k1 pa] pb) .Mult (.Constant (.int 8) k3 pc) pd) p3 :: rest) env) Q E s := by
  refine field_ok K Cc hc hd I hk hself rfl hsa ho hh ht (wpAny_BinOp (ev (n := 10) (v := .lst [.int 0 (some (0, 0))]) (σ' := σ) rfl a K Cc fun rv h' tk hv C' kb => wpAny_Constant_int ?_))
  rw [tch_nil hc] at kb
  simp only [VR] at hv
  obtain ⟨l, rvs, m, rfl, _, e1, v1⟩ := hv
  have hl := vrs_len v1
  simp only [List.length_cons, List.length_nil] at hl
  exact mulList (x := 8) (items := rvs.toArray) e1 (by decide) (by decide) (by rw [List.size_toArray, hl]; decide) fun o => ⟨h'.push o, _, rfl, kb.trans (KB.push _ _), fun h'' tk'' C'' I'' _ => cont _ h'' tk'' C'' I''⟩

theorem field_b {C x d : Addr} {fl : List (Str × Value)} {k : Nat} {b : Bool} {name nself : Str} {p1 p2 p3 p4 : Pos} {kk : Nat} {rest : List Stmt} {Q : Flow → Shared → Prop} (K : EnvOk env) (Cc : Cx w D g s.heap env e σ) (hc : D.cpu = none) (hd : d ∈ D.ext)
    (I : Ins C s.heap x d fl k) (hself : nameA w.params env.scope e nself = some (.ref x))
    (hsa : findIn (KF w.params) (.ref C) "__setattr__" = some (some (.builtin "object.__setattr__"))) (ho : plainOver (KF w.params) C = true) (hh : hasDictIn (KF w.params) C = true) (ht : takerIn (KF w.params) C name = some none) (hk : k ≤ 500)
    (cont : ∀ rv h' tk', Cx w D g h' env e σ → Ins C h' x d ((name, rv) :: fl) (k + 1) → wpAny (model prog w) A (execs rest env) Q E { s with heap := h', toks := tk' }) :
    wpAny (model prog w) A (execs (.Assign [.Attribute (.Name nself p1) name p2] (.Constant (.bool b) kk p4) p3 :: rest) env) Q E s :=
  field_ok K Cc hc hd I hk hself rfl hsa ho hh ht (wpAny_Constant_bool ⟨s.heap, s.toks, rfl, KB.refl _ _, fun h'' tk'' C'' I'' _ => cont _ h'' tk'' C'' I''⟩)

theorem newCpu_ok {R : Result → Shared → Prop} {n : Nat} (a : AOk A (n + 60)) (G : Gd w g) (S : SR g D σ s.heap)
    (k : ∀ x d fl t h' tk, s.heap.objs.size ≤ d → s.heap.objs.size ≤ x → x ≠ d → Ins 31 h' x d (("states", .int 0 t) :: fl) 14 → KB [] s.heap h' → R (.ok (.ret (.ref x))) { s with heap := h', toks := tk }) :
    codeAny (model prog w) A (.call (.ref 31) ⟨[], []⟩) R s := by
  obtain ⟨hp, gg, dd, tk, os⟩ := s
  have X : (KF w.params).In hp := G.In (s := ⟨hp, gg, dd, tk, os⟩) S
  obtain ⟨S1, kb1, I1⟩ := fresh_SR S 31
  refine make_core (makes_of X (k_makes _)) (looks_findIn X (k_init _)) (fun self => bind_fn X self (k_fn28 _)) (.inl rfl) ?_
  refine enter (s := ⟨(hp.push emptyDict).push (instObj 31 hp.objs.size), gg, dd, tk, os⟩) (D := ⟨none, [hp.objs.size]⟩) (n := n + 58) (vs := [.ref (hp.objs.size + 1)]) (f := 28) rfl (by kernel_rfl) rfl rfl rfl (a.under) G S1 (by simp only [VRs, VR]; exact ⟨_, _, rfl, rfl, rfl⟩) ?_
  intro env h₁ tk hsc K a' C kb0 cR hcl
  have I2 := I1.kb kb0 (fun z => nomatch z) (fun z => nomatch z)
  refine field_m (s := { heap := h₁, gens := gg, drawn := dd, toks := tk, os := os : Shared }) K C rfl (List.mem_singleton.mpr rfl) I2 (by rw [hsc]; rfl) (a'.lower (by omega)) (k_sa _) (k_over _) (k_hasDict _) (by kernel_rfl) (by decide) fun v0 h10 tk10 C10 I10 => ?_
  refine field_m (s := { heap := h10, gens := gg, drawn := dd, toks := tk10, os := os : Shared }) K C10 rfl (List.mem_singleton.mpr rfl) I10 (by rw [hsc]; rfl) (a'.lower (by omega)) (k_sa _) (k_over _) (k_hasDict _) (by kernel_rfl) (by decide) fun v1 h11 tk11 C11 I11 => ?_
  refine field_c (s := { heap := h11, gens := gg, drawn := dd, toks := tk11, os := os : Shared }) (n := 5) (v := .int 0 (some (0, 0))) K C11 rfl (List.mem_singleton.mpr rfl) I11 (by rw [hsc]; rfl) (by rw [hsc]; rfl) (a'.lower (by omega)) (k_sa _) (k_over _) (k_hasDict _) (by kernel_rfl) (by decide) rfl fun v2 h12 tk12 z2 C12 I12 => ?_
  refine field_c (s := { heap := h12, gens := gg, drawn := dd, toks := tk12, os := os : Shared }) (n := 5) (v := .int 0 (some (0, 0))) K C12 rfl (List.mem_singleton.mpr rfl) I12 (by rw [hsc]; rfl) (by rw [hsc]; rfl) (a'.lower (by omega)) (k_sa _) (k_over _) (k_hasDict _) (by kernel_rfl) (by decide) rfl fun v3 h13 tk13 z3 C13 I13 => ?_
  refine field_c (s := { heap := h13, gens := gg, drawn := dd, toks := tk13, os := os : Shared }) (n := 5) (v := .int 0 (some (0, 0))) K C13 rfl (List.mem_singleton.mpr rfl) I13 (by rw [hsc]; rfl) (by rw [hsc]; rfl) (a'.lower (by omega)) (k_sa _) (k_over _) (k_hasDict _) (by kernel_rfl) (by decide) rfl fun v4 h14 tk14 z4 C14 I14 => ?_
  refine field_c (s := { heap := h14, gens := gg, drawn := dd, toks := tk14, os := os : Shared }) (n := 5) (v := .int 0 (some (0, 0))) K C14 rfl (List.mem_singleton.mpr rfl) I14 (by rw [hsc]; rfl) (by rw [hsc]; rfl) (a'.lower (by omega)) (k_sa _) (k_over _) (k_hasDict _) (by kernel_rfl) (by decide) rfl fun v5 h15 tk15 z5 C15 I15 => ?_
  refine field_c (s := { heap := h15, gens := gg, drawn := dd, toks := tk15, os := os : Shared }) (n := 5) (v := .int 0 (some (0, 0))) K C15 rfl (List.mem_singleton.mpr rfl) I15 (by rw [hsc]; rfl) (by rw [hsc]; rfl) (a'.lower (by omega)) (k_sa _) (k_over _) (k_hasDict _) (by kernel_rfl) (by decide) rfl fun v6 h16 tk16 z6 C16 I16 => ?_
  refine field_c (s := { heap := h16, gens := gg, drawn := dd, toks := tk16, os := os : Shared }) (n := 5) (v := .int 0 (some (0, 0))) K C16 rfl (List.mem_singleton.mpr rfl) I16 (by rw [hsc]; rfl) (by rw [hsc]; rfl) (a'.lower (by omega)) (k_sa _) (k_over _) (k_hasDict _) (by kernel_rfl) (by decide) rfl fun v7 h17 tk17 z7 C17 I17 => ?_
  refine field_c (s := { heap := h17, gens := gg, drawn := dd, toks := tk17, os := os : Shared }) (n := 5) (v := .int 0 (some (0, 0))) K C17 rfl (List.mem_singleton.mpr rfl) I17 (by rw [hsc]; rfl) (by rw [hsc]; rfl) (a'.lower (by omega)) (k_sa _) (k_over _) (k_hasDict _) (by kernel_rfl) (by decide) rfl fun v8 h18 tk18 z8 C18 I18 => ?_
  refine field_c (s := { heap := h18, gens := gg, drawn := dd, toks := tk18, os := os : Shared }) (n := 5) (v := .int 0 (some (0, 0))) K C18 rfl (List.mem_singleton.mpr rfl) I18 (by rw [hsc]; rfl) (by rw [hsc]; rfl) (a'.lower (by omega)) (k_sa _) (k_over _) (k_hasDict _) (by kernel_rfl) (by decide) rfl fun v9 h19 tk19 z9 C19 I19 => ?_
  refine field_c (s := { heap := h19, gens := gg, drawn := dd, toks := tk19, os := os : Shared }) (n := 5) (v := .int 0 (some (0, 0))) K C19 rfl (List.mem_singleton.mpr rfl) I19 (by rw [hsc]; rfl) (by rw [hsc]; rfl) (a'.lower (by omega)) (k_sa _) (k_over _) (k_hasDict _) (by kernel_rfl) (by decide) rfl fun v10 h20 tk20 z10 C20 I20 => ?_
  refine field_b (s := { heap := h20, gens := gg, drawn := dd, toks := tk20, os := os : Shared }) K C20 rfl (List.mem_singleton.mpr rfl) I20 (by rw [hsc]; rfl) (k_sa _) (k_over _) (k_hasDict _) (by kernel_rfl) (by decide) fun v11 h21 tk21 C21 I21 => ?_
  refine field_b (s := { heap := h21, gens := gg, drawn := dd, toks := tk21, os := os : Shared }) K C21 rfl (List.mem_singleton.mpr rfl) I21 (by rw [hsc]; rfl) (k_sa _) (k_over _) (k_hasDict _) (by kernel_rfl) (by decide) fun v12 h22 tk22 C22 I22 => ?_
  refine field_c (s := { heap := h22, gens := gg, drawn := dd, toks := tk22, os := os : Shared }) (n := 5) (v := .int 0 (some (0, 0))) K C22 rfl (List.mem_singleton.mpr rfl) I22 (by rw [hsc]; rfl) (by rw [hsc]; rfl) (a'.lower (by omega)) (k_sa _) (k_over _) (k_hasDict _) (by kernel_rfl) (by decide) rfl fun v13 h23 tk23 z13 C23 I23 => ?_
  obtain ⟨t, rfl⟩ := z13 _ _ rfl
  refine wpAny_execs_nil ⟨rfl, k _ _ _ t h23 tk23 (Nat.le_refl _) (Nat.le_succ _) (Nat.succ_ne_self _) I23 ?_⟩
  have kb := below_KB C23.sr.keep
  exact fun b o _ q => kb b o (by show b ∉ muts ⟨none, [hp.objs.size]⟩; have := Heap.lt_size q; simpa [muts, tch] using Nat.ne_of_lt this) (kb1 b o (fun z => nomatch z) q)

theorem newPorts_ok {R : Result → Shared → Prop} {n : Nat} {b : Addr} (a : AOk A (n + 60)) (G : Gd w g) (S : SR g D σ s.heap)
    (k : ∀ x h' tk, KB [] s.heap h' → R (.ok (.ret (.ref x))) { s with heap := h', toks := tk }) :
    codeAny (model prog w) A (.call (.ref 52) ⟨[.ref b], []⟩) R s := by
  obtain ⟨hp, gg, dd, tk, os⟩ := s
  have X : (KF w.params).In hp := G.In (s := ⟨hp, gg, dd, tk, os⟩) S
  obtain ⟨S1, kb1, I1⟩ := fresh_SR S 52
  refine make_core (makes_of X (k_makesP _)) (looks_findIn X (k_initP _)) (fun self => bind_fn X self (k_fn49 _)) (.inl rfl) ?_
  refine enter (s := ⟨(hp.push emptyDict).push (instObj 52 hp.objs.size), gg, dd, tk, os⟩) (D := ⟨none, [hp.objs.size]⟩) (n := n + 58) (vs := [.ref (hp.objs.size + 1), .ref b]) (f := 49) rfl (by kernel_rfl) rfl rfl rfl (a.under) G S1 (by simp only [VRs, VR]; exact ⟨_, _, rfl, rfl, _, _, rfl, rfl, rfl⟩) ?_
  intro env h₁ tk hsc K a' C kb0 cR hcl
  have I2 := I1.kb kb0 (fun z => nomatch z) (fun z => nomatch z)
  refine field_c (s := { heap := h₁, gens := gg, drawn := dd, toks := tk, os := os : Shared }) (n := 5) (v := .ref b) K C rfl (List.mem_singleton.mpr rfl) I2 (by rw [hsc]; rfl) (by rw [hsc]; rfl) (a'.lower (by omega)) (k_saP _) (k_overP _) (k_hasDictP _) (by kernel_rfl) (by decide) rfl fun v2 h12 tk12 z2 C12 I12 => ?_
  refine field_c (s := { heap := h12, gens := gg, drawn := dd, toks := tk12, os := os : Shared }) (n := 5) (v := .int 0 (some (0, 0))) K C12 rfl (List.mem_singleton.mpr rfl) I12 (by rw [hsc]; rfl) (by rw [hsc]; rfl) (a'.lower (by omega)) (k_saP _) (k_overP _) (k_hasDictP _) (by kernel_rfl) (by decide) rfl fun v2 h13 tk13 z2 C13 I13 => ?_
  refine field_c (s := { heap := h13, gens := gg, drawn := dd, toks := tk13, os := os : Shared }) (n := 5) (v := .lst []) K C13 rfl (List.mem_singleton.mpr rfl) I13 (by rw [hsc]; rfl) (by rw [hsc]; rfl) (a'.lower (by omega)) (k_saP _) (k_overP _) (k_hasDictP _) (by kernel_rfl) (by decide) rfl fun v2 h14 tk14 z2 C14 I14 => ?_
  refine wpAny_execs_nil ⟨rfl, k _ h14 tk14 ?_⟩
  have kb := below_KB C14.sr.keep
  exact fun b o _ q => kb b o (by show b ∉ muts ⟨none, [hp.objs.size]⟩; have := Heap.lt_size q; simpa [muts, tch] using Nat.ne_of_lt this) (kb1 b o (fun z => nomatch z) q)

/-- list(x) of a list -/
theorem copyCall_ok {x : Str} {p1 p2 p3 : Pos} {a : Addr} {items : Array Value} {Q : Value → Shared → Prop} (hl : env.scope.names.lookup ("list" : Str) = some .globalImplicit) (hx : nameA w.params env.scope e x = some (.ref a)) (K : EnvOk env) (C : Cx w D g s.heap env e σ)
    (ha : s.heap.IsList a items) (hs : items.size ≤ 1000000) (k : ∀ h', KB [] s.heap h' → h'.PlainList s.heap.objs.size items → Q (.ref s.heap.objs.size) { s with heap := h' }) : wpAny (model prog w) A (eval (.Call (.Name "list" p1) [.Name x p2] [] p3) env) Q E s := by
  refine wpAny_Call_NameR (nameB_ok hl (m_list _) b_list (by decide) (by decide) K C (PyProof.Rows.callWith_type1 (spliced_more (nameA_ok hx K C fun rv hv => spliced_none ?_)) rfl rfl))
  simp only [VR] at hv
  subst hv
  obtain ⟨o, ho, hc, n, hd⟩ := ha
  exact call_list_seq a (.inl rfl) ho hc hd (fun h' c' kb hh => k h' (fun b o _ q => kb b o q) ⟨c', hh⟩) (by rw [sizeLine_eq]; omega)
end
end Mine

namespace Mine
open PySem PySem.W PySem.Calls PyProof.Rows

section
variable {prog : Program} {w : World} {A : Around} {E : Value → Shared → Prop} {s : Shared} {D D2 : Dm} {g : Heap} {σ σ' : CS} {env : Env} {e : List (Str × V)}

/-! one world more: D2 knows of more mutable objects -/
mutual
theorem VR.wide {h : Heap} (hc : D.cpu = none) (nw : ∀ b ∈ muts D2, b ∈ muts D ∨ h.get? b = none) : ∀ (v : V) (rv : Value), VR D h v rv → VR D2 h v rv
  | .none, _, x => by simp only [VR] at x ⊢; exact x
  | .bool _, _, x => by simp only [VR] at x ⊢; exact x
  | .int _ _, _, x => by simp only [VR] at x ⊢; exact x
  | .str _, _, x => by simp only [VR] at x ⊢; exact x
  | .tup vs, _, x => by
    simp only [VR] at x ⊢
    obtain ⟨a, rvs, n, e1, na, g1, r⟩ := x
    exact ⟨a, rvs, n, e1, fun q => (nw a q).elim na fun z => (by rw [z] at g1; cases g1), g1, VRs.wide hc nw vs rvs r⟩
  | .lst vs, _, x => by
    simp only [VR] at x ⊢
    obtain ⟨a, rvs, n, e1, na, g1, r⟩ := x
    exact ⟨a, rvs, n, e1, fun q => (nw a q).elim na fun z => (by rw [z] at g1; cases g1), g1, VRs.wide hc nw vs rvs r⟩
  | .cpu, _, x => by simp only [VR] at x; obtain ⟨W, hW, _⟩ := x; rw [hc] at hW; cases hW
  | .regs, _, x => by simp only [VR] at x; obtain ⟨W, hW, _⟩ := x; rw [hc] at hW; cases hW
  | .mem, _, x => by simp only [VR] at x; obtain ⟨W, hW, _⟩ := x; rw [hc] at hW; cases hW
  | .ref _, _, x => by simp only [VR] at x ⊢; exact x
  | .bfn, _, x => by simp only [VR] at x ⊢; exact x
theorem VRs.wide {h : Heap} (hc : D.cpu = none) (nw : ∀ b ∈ muts D2, b ∈ muts D ∨ h.get? b = none) : ∀ (vs : List V) (rvs : List Value), VRs D h vs rvs → VRs D2 h vs rvs
  | [], _, x => by simp only [VRs] at x ⊢; exact x
  | v :: vs, _, x => by
    simp only [VRs] at x ⊢
    obtain ⟨rv, r, e1, a, b⟩ := x
    exact ⟨rv, r, e1, VR.wide hc nw v rv a, VRs.wide hc nw vs r b⟩
end

/-- the same frame, seen with other mutable objects -/
theorem Cx.conv {h : Heap} {e2 : List (Str × V)} (C : Cx w D g h env e σ) (S : SR g D2 σ' h) (nm : env.locals ∉ muts D2) (nc : env.scope.names.all (fun p => p.2 != .cell) = true)
    (he : ∀ x v2, e2.lookup x = some v2 → ∃ v, e.lookup x = some v ∧ ∀ rv, VR D h v rv → VR D2 h v2 rv) : Cx w D2 g h env e2 σ' := by
  obtain ⟨m, N, hm⟩ := C.ns
  refine ⟨C.gd, S, C.off, nm, C.inj, m, N, fun x v2 q => ?_⟩
  obtain ⟨v, q1, q2⟩ := he x v2 q
  obtain ⟨rv, a, b⟩ := hm x v q1
  refine ⟨rv, ?_, q2 rv b⟩
  unfold Holds at a ⊢
  split at a
  · exact a
  · rename_i hx
    have := List.all_eq_true.mp nc _ (PySem.mem_of_lookup hx)
    simp at this
  · exact a.elim

/-- a list of orders -/
noncomputable def OrdL (D : Dm) (h : Heap) (a : Addr) (os : List Ord) : Prop := VR D h (.lst (os.map ordVal)) (.ref a)
theorem OrdL.seq {h h' : Heap} {a : Addr} {os : List Ord} (x : OrdL D h a os) (k : SeqKeep D h h') : OrdL D h' a os := VR.keeps k _ _ x
theorem OrdL.kb {h h' : Heap} {a : Addr} {os : List Ord} (x : OrdL D h a os) (k : KB (muts D) h h') : OrdL D h' a os := x.seq (.of_KBm k)
theorem OrdL.wide {h : Heap} {a : Addr} {os : List Ord} (x : OrdL D h a os) (hc : D.cpu = none) (nw : ∀ b ∈ muts D2, b ∈ muts D ∨ h.get? b = none) : OrdL D2 h a os := VR.wide hc nw _ _ x
theorem OrdL.get {h : Heap} {a : Addr} {os : List Ord} (x : OrdL D h a os) : a ∉ muts D ∧ ∃ rvs n, h.get? a = some (seqObj "list" rvs n) ∧ rvs.length = os.length ∧ VRs D h (os.map ordVal) rvs ∧ ∀ (i : Nat) (o : Ord), os[i]? = some o → ∃ rv, rvs[i]? = some rv ∧ VR D h (ordVal o) rv := by
  unfold OrdL at x
  simp only [VR] at x
  obtain ⟨b, rvs, n, e1, na, g1, r⟩ := x
  cases e1
  obtain ⟨c1, c2⟩ := VRs.get r
  rw [List.length_map] at c1
  exact ⟨na, rvs, n, g1, c1, r, fun i o ho => c2 i (ordVal o) (by rw [List.getElem?_map, ho]; rfl)⟩

/-- an iterator, apart from all else -/
structure Side (g h : Heap) (D : Dm) (I : Addr) : Prop where
  at_ : ∃ o fs, h.get? I = some o ∧ o.data = .fields fs
  gI : g.get? I = none
  nI : I ∉ muts D
theorem SeqKeep.side {h h' : Heap} {I : Addr} (x : Side g h D I) (k : KB [I] h h') : SeqKeep D h h' := fun a T rvs n na q => k a _ (fun z => by
  obtain ⟨o, fs, x1, x2⟩ := x.at_
  rw [List.mem_singleton.mp z, x1] at q
  cases q
  cases x2) q
theorem Cx.side {h h' : Heap} {I : Addr} (C : Cx w D g h env e σ) (x : Side g h D I) (k : KB [I] h h') : Cx w D g h' env e σ := by
  obtain ⟨o, fs, x1, x2⟩ := x.at_
  have nc : ∀ W, D.cpu = some W → I ≠ W.c := by
    rintro W hW rfl
    have := (C.sr.objs W hW).inst
    rw [x1] at this
    cases this
    cases x2
  have ne : ∀ b, b ≠ I → b ∉ [I] := fun b n q => n (List.mem_singleton.mp q)
  obtain ⟨m, N, hm⟩ := C.ns
  have nl : env.locals ≠ I := by
    intro q
    obtain ⟨o', es, ep, a', b', _⟩ := N
    rw [q, x1] at a'
    cases a'
    rw [b'] at x2
    cases x2
  refine ⟨C.gd, C.sr.still k x.gI x.nI nc, C.off, C.nm, C.inj, m, nsAt2 N fun o => k _ _ (ne _ nl), fun y v q => ?_⟩
  obtain ⟨rv, a, b⟩ := hm y v q
  refine ⟨rv, a.keeps fun c v n z => ?_, VR.keeps (.side x k) _ _ b⟩
  obtain ⟨o', z1, z2⟩ := z
  refine ⟨o', k c _ (ne _ ?_) z1, z2⟩
  rintro rfl
  rw [x1] at z1
  cases z1
  rw [z2] at x2
  cases x2
theorem Side.kb {h h' : Heap} {I : Addr} {as : List Addr} (x : Side g h D I) (k : KB as h h') (n : I ∉ as) : Side g h' D I := by
  obtain ⟨⟨o, fs, x1, x2⟩, x3, x4⟩ := x
  exact ⟨⟨o, fs, k _ _ n x1, x2⟩, x3, x4⟩
theorem Side.ne_loc {h : Heap} {I : Addr} (x : Side g h D I) (C : Cx w D2 g h env e σ) : I ≠ env.locals := by
  rintro rfl
  obtain ⟨o, fs, x1, x2⟩ := x.at_
  obtain ⟨m, ⟨o', es, ep, a', b', _⟩, _⟩ := C.ns
  rw [x1] at a'
  cases a'
  rw [b'] at x2
  cases x2
theorem KB.of_extBut {L : Addr} {h h' : Heap} (x : Heap.ExtBut L h h') : KB [L] h h' := fun b o n e => x b o (fun q => n (by simp [q])) e
theorem iter_side {h : Heap} {I l : Addr} {i : Nat} (x : h.IsListIter I l i) (g1 : g.get? I = none) (n1 : I ∉ muts D) : Side g h D I := by
  obtain ⟨o, a, b, c⟩ := x
  exact ⟨⟨o, _, a, c⟩, g1, n1⟩
theorem listIter_kb {h h' : Heap} {I l : Addr} {i : Nat} {as : List Addr} (x : h.IsListIter I l i) (k : KB as h h') (n : I ∉ as) : h'.IsListIter I l i := by
  obtain ⟨o, a, r⟩ := x
  exact ⟨o, k _ _ n a, r⟩
theorem LI.kb {h h' : Heap} {a : Addr} {n : Nat} {xs : List Int} {as : List Addr} (x : LI h a n xs) (k : KB as h h') (na : a ∉ as) : LI h' a n xs := x.keep fun o q => k a o na q

/-- what _law_done gives back -/
structure Done (D : Dm) (h : Heap) (a : Addr) (σ : CS) : Prop where
  off : a ∉ muts D
  at_ : ∃ r k t n, h.get? a = some (seqObj "tuple" [.ref r, .ref k, .int σ.st t] n) ∧ r ∉ muts D ∧ k ∉ muts D ∧ LI h r 8 σ.R ∧ LI h k 64 σ.M
theorem Done.kb {h h' : Heap} {a : Addr} (x : Done D h a σ) (k : KB (muts D) h h') : Done D h' a σ := by
  obtain ⟨x1, r, kk, t, n, x2, x3, x4, x5, x6⟩ := x
  exact ⟨x1, r, kk, t, n, k _ _ x1 x2, x3, x4, x5.kb k x3, x6.kb k x4⟩

theorem eight {xs : List Int} (h : xs.length = 8) : ∃ r0 r1 r2 r3 r4 r5 r6 r7, xs = [r0, r1, r2, r3, r4, r5, r6, r7] := by
  match xs, h with
  | [r0, r1, r2, r3, r4, r5, r6, r7], _ => exact ⟨_, _, _, _, _, _, _, _, rfl⟩
theorem foot_caA {o : Ord} {aP : Addr} {σ : CS} (P : Params) (ho : o ∈ ords) (len : σ.R.length = 8) : caA P 60 344 [.cpu, .mem, .ref aP, .int o.oct (some (o.oct, o.oct))] σ = some (.none, step P o σ) := by
  obtain ⟨r0, r1, r2, r3, r4, r5, r6, r7, hR⟩ := eight len
  have q := foots o ho
  unfold Foot at q
  have q := q P aP r0 r1 r2 r3 r4 r5 r6 r7 σ.M σ.st
  have e : (⟨[r0, r1, r2, r3, r4, r5, r6, r7], σ.M, σ.st⟩ : CS) = σ := by rw [← hR]
  rw [e] at q
  unfold runP at q
  exact q

/-- a call of plain -/
theorem plain_ok {R : Result → Shared → Prop} {o : Ord} {n : Nat} {aP : Addr} {W : Wd} {t : Tok} (a : AOk A (n + 60)) (G : Gd w g) (S : SR g D2 σ s.heap) (hW : D2.cpu = some W) (ho : o ∈ ords)
    (k : ∀ h' tk, SR g D2 (step w.params o σ) h' → KB (tch D2) s.heap h' → R (.ok (.ret .none)) { s with heap := h', toks := tk }) :
    codeAny (model prog w) A (.call (.ref 344) ⟨[.ref W.c, .ref W.k, .ref aP, .int o.oct t], []⟩) R s := by
  have F := foot_caA (aP := aP) (σ := σ) w.params ho (S.objs W hW).regs.len
  generalize step w.params o σ = τ at F k
  refine (sound prog w 60).2.2.2.2.1 (D := D2) F (a.lower (by omega)) G S ?_ fun rv h' tk hv S' kb => ?_
  · simp only [VRs, VR]
    exact ⟨_, _, rfl, ⟨W, hW, rfl⟩, _, _, rfl, ⟨W, hW, rfl⟩, _, _, rfl, rfl, _, _, rfl, ⟨⟨_, rfl⟩, Int.le_refl _, Int.le_refl _⟩, rfl⟩
  · simp only [VR] at hv
    subst hv
    exact k h' tk S' kb
end
end Mine

namespace Mine
open PySem PySem.W PySem.Calls PyProof.Rows

section
variable {prog : Program} {w : World} {A : Around} {E : Value → Shared → Prop} {s : Shared} {D D2 : Dm} {g : Heap} {σ σ' : CS} {env : Env} {e : List (Str × V)}

theorem runs_take {P : Params} {os : List Ord} {i : Nat} {o : Ord} (h : os[i]? = some o) (σ : CS) : runs P (os.take (i + 1)) σ = step P o (runs P (os.take i) σ) := by
  unfold runs
  rw [List.take_add_one, h, List.foldl_append]
  rfl

/-- the run of some orders on a cpu and a memory -/
theorem done_loop {R : Result → Shared → Prop} {n : Nat} {aO I : Addr} {os : List Ord} {W : Wd} {pt p1 p2 p3 p4 p5 p6 p7 p8 p9 p10 p11 p12 : Pos} {x1 : Nat} (a : AOk A (n + 80)) (K : EnvOk env) (hW : D2.cpu = some W)
    (hos : ∀ o ∈ os, o ∈ ords) (hlen : os.length ≤ 1000)
    (nf : env.scope.names.lookup ("octet" : Str) = some .local) (nr : env.scope.names.lookup ("reads" : Str) = some .local) (nw : env.scope.names.lookup ("writes" : Str) = some .local)
    (hn : ∀ e' : List (Str × V), nameA w.params env.scope e' "plain" = some (.ref 344) ∧ nameA w.params env.scope e' "Ports" = some (.ref 52) ∧ nameA w.params env.scope e' "cpu" = e'.lookup ("cpu" : Str) ∧ nameA w.params env.scope e' "kept" = e'.lookup ("kept" : Str) ∧ nameA w.params env.scope e' "octet" = e'.lookup ("octet" : Str))
    (C : Cx w D2 g s.heap env e σ) (hcpu : e.lookup ("cpu" : Str) = some .cpu) (hkept : e.lookup ("kept" : Str) = some .mem) (OO : OrdL D2 s.heap aO os) (hit : s.heap.IsListIter I aO 0) (nI : I ∉ muts D2) (gI : g.get? I = none)
    (hR : ∀ h' tk e', Cx w D2 g h' env e' (runs w.params os σ) → e'.lookup ("cpu" : Str) = some .cpu → e'.lookup ("kept" : Str) = some .mem → R (.ok .next) { s with heap := h', toks := tk }) :
    codeAny (model prog w) A (.forLoop (.Tuple [.Name "octet" p1, .Name "reads" p2, .Name "writes" p3] x1 pt) (.ref I) [.Expr (.Call (.Name "plain" p4) [.Name "cpu" p5, .Name "kept" p6, .Call (.Name "Ports" p7) [.List [] p8] [] p9, .Name "octet" p10] [] p11) p12] [] env) R s := by
  refine codeAny_forLoop_any
    (fun k s' => ∃ h' tk e' i, s' = { s with heap := h', toks := tk } ∧ Cx w D2 g h' env e' (runs w.params (os.take i) σ) ∧ e'.lookup ("cpu" : Str) = some .cpu ∧ e'.lookup ("kept" : Str) = some .mem ∧ OrdL D2 h' aO os ∧ h'.IsListIter I aO i ∧ i ≤ os.length ∧ k = os.length + 1 - i) ?_ (os.length + 1)
    ⟨s.heap, s.toks, e, 0, rfl, C, hcpu, hkept, OO, hit, Nat.zero_le _, rfl⟩
  rintro k s' ⟨H, tk, e', i, rfl, C', hcpu', hkept', OO', hit', hi, rfl⟩
  obtain ⟨off, rvs, m0, hl, len, hv, get⟩ := OO'.get
  have hl' := seq_list hl
  have sI := iter_side hit' gI nI
  have neI : aO ≠ I := by
    rintro rfl
    obtain ⟨o', q1', q2', _⟩ := hit'
    rw [hl] at q1'
    cases q1'
    simp at q2'
  cases ho : os[i]? with
  | none =>
    have hsz : i = os.length := Nat.le_antisymm hi (by simpa using ho)
    refine wpAny_pyNext_list_end a.hand hit' hl' (by simp; omega) fun h₁ he₁ => wpAny_execs_nil ?_
    have C1 := C'.side sI (KB.of_extBut he₁)
    rw [hsz, List.take_length] at C1
    exact hR h₁ tk e' C1 hcpu' hkept'
  | some o =>
    obtain ⟨rv, hrv, hvo⟩ := get i o ho
    have hlt : i < os.length := (List.getElem?_eq_some_iff.mp ho).1
    refine wpAny_pyNext_list_item hit' hl' (x := rv) (by simpa using hrv) fun h₁ hit₁ hs₁ => ?_
    have kb1 := KB.of_same hs₁
    have C1 := C'.side sI kb1
    have OO1 := OO'.seq (.side sI kb1)
    have hvo1 := VR.keeps (.side sI kb1) _ _ hvo
    unfold ordVal at hvo1
    simp only [VR, VRs] at hvo1
    obtain ⟨T, rvs3, m3, rfl, nT, hT, v1, _, rfl, ⟨⟨t1, rfl⟩, _⟩, v2, _, rfl, ⟨t2, rfl⟩, v3, _, rfl, ⟨t3, rfl⟩, rfl⟩ := hvo1
    refine wpAny_letOwnedTupleGo_listiter hit₁ (wpAny_assign_Tuple a.hand (items := #[.int o.oct t1, .str o.rd t2, .str o.wr t3]) ⟨_, hT, rfl, m3, rfl⟩ rfl rfl fun h2 hx => ?_)
    have kb2 := KB.of_ext hx
    have C2 := C1.ext kb2
    have OO2 := OO1.kb kb2.of_nil
    have hit2 := listIter_kb hit₁ kb2 (fun z => nomatch z)
    have sI2 := iter_side hit2 gI nI
    have nIl := sI2.ne_loc C2
    have nIm : ∀ (L : Addr), I ≠ L → I ∉ L :: tch D2 := fun L hL q => by
      rcases List.mem_cons.mp q with q | q
      · exact hL q
      · exact nI (tch_muts q)
    refine wpAny_assignInOrder_more (assign_Name (storeA_ok (v := .int o.oct (some (o.oct, o.oct))) nf K C2 (vr_int ⟨Int.le_refl _, Int.le_refl _⟩) fun h3 tk3 C3 kb3 _ => ?_))
    have OO3 : OrdL D2 h3 aO os := by
      obtain ⟨m, N, _⟩ := C2.ns
      exact OO2.seq (.of_KBL N kb3)
    have hit3 := listIter_kb hit2 kb3 (nIm _ nIl)
    refine wpAny_assignInOrder_more (assign_Name (storeA_ok (v := .str o.rd) nr K C3 vr_str fun h4 tk4 C4 kb4 _ => ?_))
    have OO4 : OrdL D2 h4 aO os := by
      obtain ⟨m, N, _⟩ := C3.ns
      exact OO3.seq (.of_KBL N kb4)
    have hit4 := listIter_kb hit3 kb4 (nIm _ nIl)
    refine wpAny_assignInOrder_more (assign_Name (storeA_ok (v := .str o.wr) nw K C4 vr_str fun h5 tk5 C5 kb5 _ => wpAny_pure ?_))
    have OO5 : OrdL D2 h5 aO os := by
      obtain ⟨m, N, _⟩ := C4.ns
      exact OO4.seq (.of_KBL N kb5)
    have hit5 := listIter_kb hit4 kb5 (nIm _ nIl)
    obtain ⟨n1, n2, n3, n4, n5⟩ := hn (putA "writes" (.str o.wr) (putA "reads" (.str o.rd) (putA "octet" (.int o.oct (some (o.oct, o.oct))) e')))
    refine wpAny_execs_cons (wpAny_Expr_any ?_ (not_interactive K) (notComp_swaps rfl _ _))
    refine wpAny_Call_NameR (nameA_ok (s := { s with heap := h5, toks := tk5 }) n1 K C5 fun rf hrf => ?_)
    simp only [VR] at hrf
    subst hrf
    refine callWith_K (K := KF w.params) (h₀ := g) C5.gd.X (show keepIn (KF w.params) (.ref 344) = true by kernel_rfl) (spliced_more (nameA_ok (s := { s with heap := h5, toks := tk5 }) (v := .cpu) (n3.trans hcpu') K C5 fun rc hrc => spliced_more (nameA_ok (s := { s with heap := h5, toks := tk5 }) (v := .mem) (n4.trans hkept') K C5 fun rk hrk => spliced_more ?_))) rfl rfl
    simp only [VR] at hrc hrk
    obtain ⟨W1, hW1, rfl⟩ := hrc
    obtain ⟨W2, hW2, rfl⟩ := hrk
    rw [hW] at hW1 hW2
    cases hW1
    cases hW2
    -- Ports([])
    refine wpAny_Call_NameR (nameA_ok (s := { s with heap := h5, toks := tk5 }) n2 K C5 fun rf hrf => ?_)
    simp only [VR] at hrf
    subst hrf
    refine callWith_K (K := KF w.params) (h₀ := g) C5.gd.X (show keepIn (KF w.params) (.ref 52) = true by kernel_rfl) (spliced_more (ev (s := { s with heap := h5, toks := tk5 }) (n := 10) (v := .lst []) (σ' := runs w.params (os.take i) σ) rfl (a.lower (by omega)) K C5 fun rl h6 tk6 hv6 C6 kb6 => spliced_none ?_)) rfl rfl
    simp only [VR] at hv6
    obtain ⟨b, _, _, rfl, _⟩ := hv6
    refine ⟨C6.gd.In (s := { s with heap := h6, toks := tk6 }) C6.sr, wpAny_call (newPorts_ok (s := { s with heap := h6, toks := tk6 }) (n := n + 20) (a.lower (by omega)) C6.gd C6.sr fun x h7 tk7 kb7 => ?_)⟩
    have C7 := C6.ext kb7
    refine spliced_more (nameA_ok (s := { s with heap := h7, toks := tk7 }) (v := .int o.oct (some (o.oct, o.oct))) (n5.trans rfl) K C7 fun ro hro => spliced_none ?_)
    simp only [VR] at hro
    obtain ⟨⟨to, rfl⟩, _⟩ := hro
    refine ⟨C7.gd.In (s := { s with heap := h7, toks := tk7 }) C7.sr, wpAny_call (plain_ok (s := { s with heap := h7, toks := tk7 }) (n := n + 20) a C7.gd C7.sr hW (hos o (List.mem_of_getElem? ho)) fun h8 tk8 S8 kb8 => ?_)⟩
    rw [← runs_take ho] at S8
    have C8 := C7.mv S8 kb8
    have OO8 : OrdL D2 h8 aO os := ((OO5.kb kb6.m).kb kb7.of_nil).kb kb8.m
    have nIt : I ∉ tch D2 := fun q => nI (tch_muts q)
    have hit8 := listIter_kb (listIter_kb (listIter_kb hit5 kb6 nIt) kb7 (fun z => nomatch z)) kb8 nIt
    exact wpAny_execs_nil ⟨os.length + 1 - (i + 1), by omega, h8, tk8, _, i + 1, rfl, C8, hcpu', hkept', OO8, hit8, hlt, rfl⟩
end
end Mine

namespace Mine
open PySem PySem.W PySem.Calls PyProof.Rows

section
variable {prog : Program} {w : World} {A : Around} {E : Value → Shared → Prop} {s : Shared} {D D2 : Dm} {g : Heap} {σ σ' : CS} {env : Env} {e : List (Str × V)}

theorem LI.isList {h : Heap} {a : Addr} {n : Nat} {xs : List Int} (x : LI h a n xs) : ∃ vs, h.IsList a (List.toArray vs) ∧ IntsAre vs xs ∧ vs.length = n := by
  obtain ⟨x1, x2, vs, x3, x4⟩ := x
  exact ⟨vs, x3, x4, by rw [← x1, IntsAre.length x4]⟩
theorem plain_kb {as : List Addr} {h h' : Heap} {a : Addr} {items : Array Value} (x : h.PlainList a items) (k : KB as h h') (n : a ∉ as) : h'.PlainList a items := x.at fun o q => k a o n q
theorem plain_ne_loc {h : Heap} {a : Addr} {items : Array Value} (x : h.PlainList a items) (C : Cx w D g h env e σ) : a ≠ env.locals := C.ne_list x.isList

theorem conv_he {h : Heap} {e2 : List (Str × V)} (q : ∀ p ∈ e2, ∃ v, e.lookup p.1 = some v ∧ ∀ rv, VR D h v rv → VR D2 h p.2 rv) : ∀ x v2, e2.lookup x = some v2 → ∃ v, e.lookup x = some v ∧ ∀ rv, VR D h v rv → VR D2 h v2 rv :=
  fun x v2 hl => q (x, v2) (PySem.mem_of_lookup hl)

theorem done_ok {R : Result → Shared → Prop} {n : Nat} {aO aH aM : Addr} {os : List Ord} {R0 M0 : List Int} (a : AOk A (n + 140)) (G : Gd w g) (hc : D.cpu = none) (S : SR g D σ s.heap) (OO : OrdL D s.heap aO os) (hos : ∀ o ∈ os, o ∈ ords) (hlen : os.length ≤ 1000)
    (HH : LI s.heap aH 8 R0) (nH : aH ∉ muts D) (MM : LI s.heap aM 64 M0) (nM : aM ∉ muts D)
    (k : ∀ aT h' tk, Done D h' aT (runs w.params os ⟨R0, M0, 0⟩) → SR g D σ h' → KB (muts D) s.heap h' → R (.ok (.ret (.ref aT))) { s with heap := h', toks := tk }) :
    codeAny (model prog w) A (.call (.ref 461) ⟨[.ref aO, .ref aH, .ref aM], []⟩) R s := by
  refine enter (n := n + 139) (vs := [.ref aO, .ref aH, .ref aM]) (f := 461) rfl (by kernel_rfl) rfl rfl rfl a G S (by simp only [VRs, VR]; exact ⟨_, _, rfl, rfl, _, _, rfl, rfl, _, _, rfl, rfl, rfl⟩) ?_
  intro env h₁ tk hsc K a' C kb0 cR hcl
  have tn := tch_nil hc
  have mD : muts D = D.ext := by unfold muts; rw [tn]; rfl
  obtain ⟨vH, lH, iH, cH⟩ := HH.isList
  obtain ⟨vM, lM, iM, cM⟩ := MM.isList
  have locLt : env.locals < h₁.objs.size := by obtain ⟨m, N, _⟩ := C.ns; exact N.lt
  -- cpu, kept = (Cpu(), list(memory))
  refine wpAny_execs_cons (Assign_Tuple_swapped (names := ["cpu", "kept"]) (Tuple_ (spliced_more ?_)) rfl (swap_ok (by rw [hsc]; rfl)))
  refine wpAny_Call_NameR (nameA_ok (v := .ref 31) (by rw [hsc]; rfl) K C fun rf hrf => ?_)
  simp only [VR] at hrf
  subst hrf
  refine callWith_K0 (K := KF w.params) (C.gd.In C.sr) (show keepIn (KF w.params) (.ref 31) = true by kernel_rfl) (wpAny_call (newCpu_ok (n := n + 79) a' C.gd C.sr fun x d fl t h2 tk2 nd nx xd I2 kb2 => ?_))
  have C2 := C.ext kb2
  refine spliced_more (copyCall_ok (s := { s with heap := h2, toks := tk2 }) (a := aM) (items := vM.toArray) (by rw [hsc]; rfl) (by rw [hsc]; rfl) K C2 (isList_kb lM (below_KB C2.sr.keep) nM) (by simp; omega) fun h3 kb3 hk3 => ?_)
  have C3 := C2.ext kb3
  have I3 := I2.kb kb3 (fun z => nomatch z) (fun z => nomatch z)
  have nk : h₁.objs.size ≤ h2.objs.size := by
    have hd2 : d < h2.objs.size := by obtain ⟨_, es, n, y, _⟩ := I2; exact Heap.lt_size y
    exact Nat.le_of_lt (Nat.lt_of_le_of_lt nd hd2)
  refine spliced_none (wpAny_newTuple ?_ (by rw [sizeLine_eq]; exact Nat.le_of_ble_eq_true rfl))
  have kb4 := KB.push h3 { cls := .type "tuple", data := .seq #[.ref x, .ref h2.objs.size] }
  have C4 := C3.ext kb4
  refine wpAny_unpackItems_tuple a'.hand (items := #[.ref x, .ref h2.objs.size]) ⟨_, Heap.get?_push_size _ rfl, rfl, _, rfl⟩ fun h5 hx5 => ?_
  have kb5 := KB.of_ext hx5
  have C5 := C4.ext kb5
  have kb35 : KB [] h3 h5 := kb4.trans kb5
  have I5 := I3.kb kb35 (fun z => nomatch z) (fun z => nomatch z)
  have hk5 := plain_kb hk3 kb35 (fun z => nomatch z)
  refine binds_ok (s := { s with heap := h5, toks := _ }) K [("kept", .ref h2.objs.size), ("cpu", .ref x)] (by rw [hsc]; intro p hp; simp only [List.mem_cons, List.not_mem_nil, or_false] at hp; rcases hp with rfl | rfl <;> rfl)
    (by simp only [List.map_cons, List.map_nil, VRs, VR]; exact ⟨_, _, rfl, rfl, _, _, rfl, rfl, rfl⟩) C5 fun h6 tk6 C6 kb6 => ?_
  rw [tn] at kb6
  have xl : x ≠ env.locals := Nat.ne_of_gt (Nat.lt_of_lt_of_le locLt nx)
  have dl : d ≠ env.locals := Nat.ne_of_gt (Nat.lt_of_lt_of_le locLt nd)
  have kl : h2.objs.size ≠ env.locals := plain_ne_loc hk5 C5
  have I6 := I5.kb kb6 (by simpa using xl) (by simpa using dl)
  have hk6 := plain_kb hk5 kb6 (by simpa using kl)
  -- the dict of the cpu may be written
  obtain ⟨d1, d2, d3⟩ := C.sr.new nd
  obtain ⟨k1, k2, k3⟩ := C.sr.new nk
  have S6 : SR (below D s.heap) ⟨none, d :: D.ext⟩ σ h6 := by
    refine ⟨C6.sr.keep, fun b hb => ?_, fun W hW => (nomatch hW), fun b hb => ?_⟩
    · simp only [muts, tch, List.nil_append, List.mem_cons] at hb
      rcases hb with rfl | hb
      · exact d2
      · exact C6.sr.off b (by rw [mD]; exact hb)
    · rcases List.mem_cons.mp hb with rfl | hb
      · obtain ⟨_, es, n, y, _⟩ := I6
        rw [y]; rfl
      · exact C6.sr.ext b hb
  have C7 : Cx w ⟨none, d :: D.ext⟩ (below D s.heap) h6 env [("kept", .ref h2.objs.size), ("cpu", .ref x), ("orders", .ref aO), ("held", .ref aH)] σ := by
    refine C6.conv S6 ?_ (by rw [hsc]; rfl) (conv_he fun p hp => ?_)
    · intro q
      simp only [muts, tch, List.nil_append, List.mem_cons] at q
      rcases q with q | q
      · exact dl q.symm
      · exact C6.nm (by rw [mD]; exact q)
    · simp only [List.mem_cons, List.not_mem_nil, or_false] at hp
      rcases hp with rfl | rfl | rfl | rfl <;> exact ⟨_, rfl, fun rv q => by simpa only [VR] using q⟩
  -- cpu.r = list(held)
  refine field_ok (s := { s with heap := h6, toks := tk6 }) K C7 rfl List.mem_cons_self I6 (by decide) (by rw [hsc]; rfl) rfl (k_sa _) (k_over _) (k_hasDict _) (by kernel_rfl) (copyCall_ok (s := { s with heap := h6, toks := tk6 }) (a := aH) (items := vH.toArray) (by rw [hsc]; rfl) (by rw [hsc]; rfl) K C7 (isList_kb lH (below_KB C6.sr.keep) nH) (by simp; omega) fun h7 kb7 hk7 => ⟨h7, tk6, rfl, kb7, fun h8 tk8 C8 I8 kb8 => ?_⟩)
  have C7' := C7.ext kb7
  have hd2 : d < h2.objs.size := by obtain ⟨_, es, n, y, _⟩ := I2; exact Heap.lt_size y
  have hk6lt : h2.objs.size < h6.objs.size := by obtain ⟨_, y⟩ := hk6; exact Heap.lt_size y
  have kd : h2.objs.size ≠ d := Nat.ne_of_gt hd2
  have rk : h6.objs.size ≠ h2.objs.size := Nat.ne_of_gt hk6lt
  have rd : h6.objs.size ≠ d := Nat.ne_of_gt (Nat.lt_trans hd2 hk6lt)
  have hk8k := plain_kb (plain_kb hk6 kb7 (fun z => nomatch z)) kb8 (by simpa using kd)
  have hk8r := plain_kb hk7 kb8 (by simpa using rd)
  obtain ⟨r1, r2, r3⟩ := C6.sr.new (Nat.le_refl h6.objs.size)
  have rl : h6.objs.size ≠ env.locals := by
    obtain ⟨m, N, _⟩ := C6.ns
    exact Nat.ne_of_gt N.lt
  have Hr : LI h8 h6.objs.size 8 R0 := ⟨HH.len, HH.byt, vH, hk8r.isList, iH⟩
  have Hk : LI h8 h2.objs.size 64 M0 := ⟨MM.len, MM.byt, vM, hk8k.isList, iM⟩
  have mW : ∀ b, b ∈ muts ⟨some ⟨x, d, h6.objs.size, h2.objs.size⟩, D.ext⟩ ↔ b = d ∨ b = h6.objs.size ∨ b = h2.objs.size ∨ b ∈ D.ext := by
    intro b
    simp only [muts, tch, List.cons_append, List.nil_append, List.mem_cons]
  have S8 : SR (below D s.heap) ⟨some ⟨x, d, h6.objs.size, h2.objs.size⟩, D.ext⟩ ⟨R0, M0, 0⟩ h8 := by
    refine ⟨C8.sr.keep, fun b hb => ?_, fun W hW => ?_, fun b hb => C8.sr.ext b (List.mem_cons_of_mem _ hb)⟩
    · rcases (mW b).mp hb with rfl | rfl | rfl | hb
      · exact d2
      · exact r2
      · exact k2
      · exact C6.sr.off b (by rw [mD]; exact hb)
    · cases hW
      obtain ⟨j1, es, n, j2, j3, j4, j5⟩ := I8
      exact ⟨rk, j1, ⟨es, n, j2, j5 "r" _ rfl, ⟨t, j5 "states" _ rfl⟩, Nat.le_trans j4 (by decide)⟩, Hr, Hk⟩
  have C9 : Cx w ⟨some ⟨x, d, h6.objs.size, h2.objs.size⟩, D.ext⟩ (below D s.heap) h8 env [("kept", .mem), ("cpu", .cpu), ("orders", .ref aO)] ⟨R0, M0, 0⟩ := by
    refine C8.conv S8 ?_ (by rw [hsc]; rfl) (conv_he fun p hp => ?_)
    · intro q
      rcases (mW _).mp q with q | q | q | q
      · exact dl q.symm
      · exact rl q.symm
      · exact kl q.symm
      · exact C6.nm (by rw [mD]; exact q)
    · simp only [List.mem_cons, List.not_mem_nil, or_false] at hp
      rcases hp with rfl | rfl | rfl
      · exact ⟨_, rfl, fun rv q => by simp only [VR] at q ⊢; exact ⟨_, rfl, q⟩⟩
      · exact ⟨_, rfl, fun rv q => by simp only [VR] at q ⊢; exact ⟨_, rfl, q⟩⟩
      · exact ⟨_, rfl, fun rv q => by simpa only [VR] using q⟩
  have old : ∀ b, (below D s.heap).get? b = none → b ∈ muts D ∨ s.heap.get? b = none := by
    intro b q
    by_cases hb : b ∈ muts D
    · exact .inl hb
    · right
      cases z : s.heap.get? b with
      | none => rfl
      | some o => have := hideAll_get (muts D) z hb; rw [show hideAll s.heap (muts D) = below D s.heap from rfl, q] at this; cases this
  have OO8 : OrdL ⟨some ⟨x, d, h6.objs.size, h2.objs.size⟩, D.ext⟩ h8 aO os := (OO.wide hc fun b hb => old b (C9.sr.off b hb)).kb ((below_KB C9.sr.keep).mono fun b hb => (mW b).mpr (.inr (.inr (.inr (by rw [← mD]; exact hb)))))
  -- the loop
  obtain ⟨offO, rvsO, nO, hlO, _⟩ := OO8.get
  show wpAny _ _ (execs _ _) _ _ _
  refine wpAny_execs_cons (wpAny_For (nameA_ok (s := { s with heap := h8, toks := tk8 }) (v := .ref aO) (by rw [hsc]; rfl) K C9 fun ro hro => ?_))
  simp only [VR] at hro
  subst hro
  refine wpAny_pyIter_list (seq_list hlO) ?_
  have kbI := KB.push h8 { cls := .type "list_iterator", data := .fields #[.ref aO, .int 0 0] }
  obtain ⟨i1, i2, i3⟩ := C9.sr.new (Nat.le_refl h8.objs.size)
  refine done_loop (s := { s with heap := _, toks := tk8 }) (n := n + 59) (W := ⟨x, d, h6.objs.size, h2.objs.size⟩) a' K rfl hos hlen (by rw [hsc]; rfl) (by rw [hsc]; rfl) (by rw [hsc]; rfl) (fun e' => by rw [hsc]; exact ⟨rfl, rfl, rfl, rfl, rfl⟩) (C9.ext kbI) rfl rfl (OO8.kb kbI.of_nil) ⟨_, Heap.get?_push_size _ rfl, rfl, rfl⟩ i1 i2 fun h10 tk10 e10 C10 hcpu hkept => ?_
  -- return (cpu.r, kept, cpu.states)
  have C10' : Cx w ⟨some ⟨x, d, h6.objs.size, h2.objs.size⟩, D.ext⟩ (below D s.heap) h10 env [("kept", .mem), ("cpu", .cpu)] (runs w.params os ⟨R0, M0, 0⟩) := by
    refine C10.conv C10.sr C10.nm (by rw [hsc]; rfl) (conv_he fun p hp => ?_)
    simp only [List.mem_cons, List.not_mem_nil, or_false] at hp
    rcases hp with rfl | rfl
    · exact ⟨_, hkept, fun rv q => q⟩
    · exact ⟨_, hcpu, fun rv q => q⟩
  show wpAny _ _ (execs _ _) _ _ _
  refine wpAny_execs_cons (wpAny_Return_some (ev (s := { s with heap := h10, toks := tk10 }) (n := 20) (v := .tup [.regs, .mem, .int (runs w.params os ⟨R0, M0, 0⟩).st none]) (σ' := runs w.params os ⟨R0, M0, 0⟩) (by rw [hsc]; rfl) (a'.lower (by omega)) K C10' fun rv h11 tk11 hv C11 kb11 => ?_))
  simp only [VR, VRs] at hv
  obtain ⟨aT, rvs, nT, rfl, offT, hT, v1, _, rfl, ⟨W1, hW1, rfl⟩, v2, _, rfl, ⟨W2, hW2, rfl⟩, v3, _, rfl, ⟨⟨t3, rfl⟩, _⟩, rfl⟩ := hv
  cases hW1
  cases hW2
  have O := C11.sr.objs _ rfl
  have up : ∀ b o, g.get? b = some o → (below D s.heap).get? b = some o := fun b o q => hideAll_get _ (S.keep b o q) fun z => by rw [S.off b z] at q; cases q
  have sub : ∀ b, b ∈ muts D → b ∈ muts ⟨some ⟨x, d, h6.objs.size, h2.objs.size⟩, D.ext⟩ := fun b hb => (mW b).mpr (.inr (.inr (.inr (by rw [← mD]; exact hb))))
  refine k aT h11 tk11 ⟨fun q => offT (sub _ q), h6.objs.size, h2.objs.size, t3, nT, hT, r1, k1, O.regs, O.mem⟩ ⟨fun b o q => C11.sr.keep b o (up b o q), S.off, fun W hW => by (rw [hc] at hW; cases hW), C11.sr.ext⟩ (below_KB C11.sr.keep)
end
end Mine

namespace Mine
open PySem PySem.W PySem.Calls PyProof.Rows

section
variable {prog : Program} {w : World} {A : Around} {E : Value → Shared → Prop} {s : Shared} {D D2 : Dm} {g : Heap} {σ σ' : CS} {env : Env} {e : List (Str × V)}

/-! sequences and iterators stay -/
noncomputable def seqish (o : Obj) : Prop := (∃ vs n, o.data = .seq vs n) ∨ ∃ fs, o.data = .fields fs
noncomputable def KN (h h' : Heap) : Prop := ∀ b o, seqish o → h.get? b = some o → h'.get? b = some o
theorem KN.refl (h : Heap) : KN h h := fun _ _ _ e => e
theorem KN.trans {h h' h'' : Heap} (x : KN h h') (y : KN h' h'') : KN h h'' := fun b o n e => y b o n (x b o n e)
theorem KN.of_nil {h h' : Heap} (x : KB [] h h') : KN h h' := fun b o _ e => x b o (fun z => nomatch z) e
theorem KN.of_loc {h h' : Heap} (C : Cx w D g h env e σ) (x : KB [env.locals] h h') : KN h h' := fun b o n q => x b o (fun z => by
  obtain ⟨m, ⟨o', es, ep, a', b', _⟩, _⟩ := C.ns
  rw [List.mem_singleton.mp z, a'] at q
  cases q
  rcases n with ⟨_, _, n⟩ | ⟨_, n⟩ <;> (rw [b'] at n; cases n)) q
theorem KN.of_cell {h h' : Heap} {c : Addr} {v : Option Value} (x : h.IsCell c v) (k : KB [c] h h') : KN h h' := fun b o n q => k b o (fun z => by
  obtain ⟨o', x1, x2⟩ := x
  rw [List.mem_singleton.mp z, x1] at q
  cases q
  rcases n with ⟨_, _, n⟩ | ⟨_, n⟩ <;> (rw [x2] at n; cases n)) q
theorem KN.seq {h h' : Heap} (x : KN h h') : SeqKeep D h h' := fun a T rvs n _ q => x a _ (.inl ⟨_, _, rfl⟩) q
theorem KN.list {h h' : Heap} {a : Addr} {items : Array Value} (x : KN h h') (l : h.IsList a items) : h'.IsList a items := by
  obtain ⟨o, l1, l2, n, l3⟩ := l
  exact ⟨o, x a o (.inl ⟨_, _, l3⟩) l1, l2, n, l3⟩
theorem KN.iter {h h' : Heap} {I l : Addr} {i : Nat} (x : KN h h') (y : h.IsListIter I l i) : h'.IsListIter I l i := by
  obtain ⟨o, a, b, c⟩ := y
  exact ⟨o, x _ _ (.inr ⟨_, c⟩) a, b, c⟩
theorem KN.side {h h' : Heap} {I : Addr} (x : KN h h') (y : Side g h D I) : Side g h' D I := by
  obtain ⟨⟨o, fs, x1, x2⟩, x3, x4⟩ := y
  exact ⟨⟨o, fs, x _ _ (.inr ⟨_, x2⟩) x1, x2⟩, x3, x4⟩
theorem KN.ord {h h' : Heap} {a : Addr} {os : List Ord} (x : KN h h') (y : OrdL D h a os) : OrdL D h' a os := OrdL.seq y x.seq
theorem KN.li {h h' : Heap} {a : Addr} {n : Nat} {xs : List Int} (x : KN h h') (y : LI h a n xs) : LI h' a n xs := by
  obtain ⟨y1, y2, vs, y3, y4⟩ := y
  exact ⟨y1, y2, vs, x.list y3, y4⟩
theorem KN.feed {h h' : Heap} {fA cA : Addr} {cells : List Int} {N : Int} (x : KN h h') (F : Feed h fA cA cells N) : Feed h' fA cA cells N := by
  obtain ⟨⟨turn, tk, a, b⟩, ⟨vs, c, d⟩, ne⟩ := F
  exact ⟨⟨turn, tk, x.list a, b⟩, ⟨vs, x.list c, d⟩, ne⟩
theorem KN.done {h h' : Heap} {a : Addr} (k : KN h h') (x : Done D h a σ) : Done D h' a σ := by
  obtain ⟨x1, r, kk, t, n, x2, x3, x4, x5, x6⟩ := x
  exact ⟨x1, r, kk, t, n, k _ _ (.inl ⟨_, _, rfl⟩) x2, x3, x4, k.li x5, k.li x6⟩

/-- fewer names -/
theorem Cx.pick {h : Heap} {e2 : List (Str × V)} (C : Cx w D g h env e σ) (q : ∀ p ∈ e2, e.lookup p.1 = some p.2) : Cx w D g h env e2 σ := by
  obtain ⟨m, N, hm⟩ := C.ns
  exact ⟨C.gd, C.sr, C.off, C.nm, C.inj, m, N, fun x v hl => hm x v (q (x, v) (PySem.mem_of_lookup hl))⟩

/-- a cell written -/
theorem cstore_ok {y : Str} {v : V} {rv : Value} {Q : Unit → Shared → Prop} (hl : env.scope.names.lookup y = some .cell) (K : EnvOk env) (C : Cx w D g s.heap env e σ) (cR : CellsR D g s.heap env) (hcl : (env.cells.lookup y).isSome = true) (hv : VR D s.heap v rv)
    (k : ∀ h' tk, Cx w D g h' env (putA y v e) σ → CellsR D g h' env → KN s.heap h' → Q () { s with heap := h', toks := tk }) : wpAny (model prog w) A (storeName env y rv) Q E s := by
  obtain ⟨c, hc⟩ := Option.isSome_iff_exists.mp hcl
  obtain ⟨⟨v0, ic⟩, nc, gc⟩ := cR y c hc
  refine wpAny_storeName_cell K.kind hl hc ic fun h' ic' sb => ?_
  have kb := KB.of_same sb
  have kn := KN.of_cell ic kb
  have ne : ∀ b, b ≠ c → b ∉ [c] := fun b n q => n (List.mem_singleton.mp q)
  refine k h' s.toks ?_ (fun z d hd => ?_) kn
  · obtain ⟨m, N, hm⟩ := C.ns
    have nl : env.locals ≠ c := fun q => cell_ne_ns ic N q.symm
    have nW : ∀ W, D.cpu = some W → c ≠ W.c := by
      rintro W hW rfl
      have := (C.sr.objs W hW).inst
      obtain ⟨o, i1, i2⟩ := ic
      rw [i1] at this
      cases this
      cases i2
    refine ⟨C.gd, C.sr.still kb gc nc nW, C.off, C.nm, C.inj, m, nsAt2 N fun o => kb _ _ (ne _ nl), fun z u q => ?_⟩
    unfold putA at q
    rw [List.lookup_cons] at q
    by_cases hz : z = y
    · subst hz
      simp only [beq_self_eq_true] at q
      cases q
      refine ⟨rv, ?_, VR.keeps kn.seq _ _ hv⟩
      unfold Holds
      rw [hl]
      exact ⟨c, hc, ic', nc⟩
    · have : (z == y) = false := by simpa using hz
      rw [this] at q
      obtain ⟨rv', a, b⟩ := hm z u q
      refine ⟨rv', ?_, VR.keeps kn.seq _ _ b⟩
      unfold Holds at a ⊢
      split at a
      · exact a
      · obtain ⟨c', a1, a2, a3⟩ := a
        refine ⟨c', a1, IsCell.kb a2 kb (ne _ ?_), a3⟩
        rintro rfl
        exact hz (C.inj _ _ _ a1 hc)
      · exact a.elim
  · obtain ⟨⟨v1, id⟩, nd, gd⟩ := cR z d hd
    by_cases q : d = c
    · rw [q]; exact ⟨⟨_, ic'⟩, nc, gc⟩
    · exact ⟨⟨v1, IsCell.kb id kb (ne _ q)⟩, nd, gd⟩

/-- a slice of a list -/
theorem slice_ok {l : Addr} {items : Array Value} {vl vu vk : Value} {lo hi st : Option Int} {Q : Value → Shared → Prop} (hl : s.heap.IsList l items) (pl : IsPart vl lo) (pu : IsPart vu hi) (pk : IsPart vk st) (h0 : st ≠ some 0) (hsz : items.size ≤ 1000000)
    (h : ∀ D h', KB [] s.heap h' → s.heap.objs.size ≤ D → h'.PlainList D (slicePick items lo hi st) → Q (.ref D) { s with heap := h' }) :
    wpAny (model prog w) A (getItem (.ref l) (.ref s.heap.objs.size)) Q E { s with heap := s.heap.push { cls := .type "slice", data := .fields #[vl, vu, vk] } } := by
  refine wpAny_getItem_list_slice (hl.push _) (Heap.IsSliceOf.new ..) pl pu pk h0 ?_ (by rw [sizeLine_eq]; omega)
  refine h _ _ ((KB.push _ _).trans (KB.push _ _)) ?_ ⟨0, Heap.get?_push_size _ rfl⟩
  show _ ≤ (s.heap.push _).objs.size
  rw [Heap.size_push]
  exact Nat.le_succ _

theorem strs_of {h : Heap} : ∀ {cs : List Nat} {rvs : List Value}, VRs D h (cs.map oneStr) rvs → ∃ l, rvs = strValues l ∧ l.map (·.1) = cs.map fun c => (⟨#[c]⟩ : Str)
  | [], _, x => by simp only [List.map_nil, VRs] at x; exact ⟨[], x, rfl⟩
  | c :: cs, _, x => by
    simp only [List.map_cons, VRs] at x
    obtain ⟨rv, r, rfl, a, b⟩ := x
    unfold oneStr at a
    simp only [VR] at a
    obtain ⟨t, rfl⟩ := a
    obtain ⟨l, rfl, hl⟩ := strs_of b
    exact ⟨(_, t) :: l, rfl, by simp [hl]⟩
theorem joined (cs : List Nat) : Txt.join (Str.ofString "") (cs.map fun c => (⟨#[c]⟩ : Str)) = ⟨cs.toArray⟩ := by
  have h := join_nil_signs ⟨cs.toArray⟩
  have e : signs ⟨cs.toArray⟩ = cs.map fun c => (⟨#[c]⟩ : Str) := by unfold signs; simp
  rw [e] at h
  unfold Txt.join
  rw [StrLaws.glued_eq_join]
  exact h

/-- ''.join of letters -/
theorem join_ok {p1 p2 p3 : Pos} {kk : Nat} {x : PySem.Expr} {cs : List Nat} {Q : Value → Shared → Prop} (hs : starEach [x] env = [(false, eval x env)]) (hline : (p2.endLine == p3.line) = true) (hn : cs.length ≤ 2000)
    (h : ∀ tk, wpAny (model prog w) A (eval x env) (fun rv s₁ => VR D s₁.heap (.lst (cs.map oneStr)) rv ∧ ∀ t tk, Q (.str ⟨cs.toArray⟩ t) { s₁ with toks := tk }) E { s with toks := tk }) :
    wpAny (model prog w) A (eval (.Call (.Attribute (.Constant (.str "") kk p1) "join" p2) [x] [] p3) env) Q E s := by
  refine PySem.Call_method1 rfl hs hline (Constant_str (SB.join (wpAny_mono (h _) (fun rv s₁ h₁ => ?_) fun _ _ z => z)))
  obtain ⟨hv, q⟩ := h₁
  simp only [VR] at hv
  obtain ⟨b, rvs, m, rfl, _, e1, v1⟩ := hv
  obtain ⟨l, rfl, hl⟩ := strs_of v1
  refine ⟨b, l, rfl, seq_list e1, _, hl, joinOk_of ?_, fun t' k => ?_⟩
  · have e : (((cs.map fun c => (⟨#[c]⟩ : Str)).map (·.length)).sum) = cs.length := by
      clear hl v1 h hn q
      induction cs with
      | nil => rfl
      | cons c cs ih => simp only [List.map_cons, List.sum_cons, List.length_cons, ih]; show 1 + _ = _; omega
    rw [e]
    have z : (Str.ofString "").length = 0 := rfl
    rw [List.length_map, z]
    omega
  · rw [joined]
    exact q t' k
end
end Mine

namespace Mine
open PySem PySem.W PySem.Calls PyProof.Rows

noncomputable def needStep (p : List Ord × Str) (o : Ord) : List Ord × Str :=
  if o.wr.cps.toList.any (fun c => has p.2 c) then (o :: p.1, ⟨((p.2.cps.toList.filter fun c => !has o.wr c || c == 77) ++ o.rd.cps.toList).toArray⟩) else p
theorem need_fold : ∀ (os : List Ord) (x : Str), os.reverse.foldl needStep ([], x) = need os x
  | [], x => rfl
  | o :: r, x => by
    rw [List.reverse_cons, List.foldl_append, need_fold r x]
    rfl
theorem needStep_len (p : List Ord × Str) (o : Ord) : (needStep p o).2.length ≤ p.2.length + o.rd.length ∧ (needStep p o).1.length ≤ p.1.length + 1 := by
  unfold needStep
  split
  · refine ⟨?_, Nat.le_refl _⟩
    have := List.length_filter_le (fun c => !has o.wr c || c == 77) p.2.cps.toList
    have e : ∀ x : Str, x.length = x.cps.toList.length := fun x => by simp [Str.length]
    rw [e p.2, e o.rd]
    show ((_ : List Nat).toArray).size ≤ _
    rw [List.size_toArray, List.length_append]
    omega
  · exact ⟨Nat.le_add_right _ _, Nat.le_succ _⟩
theorem filt_empty {f : Nat → V} {p : Nat → Bool} : ∀ l : List Nat, ((l.filter p).map f).isEmpty = !(l.any p)
  | [] => rfl
  | c :: l => by
    rw [List.filter_cons, List.any_cons]
    cases h : p c with
    | true => simp
    | false => simpa using filt_empty (f := f) (p := p) l

section
variable {prog : Program} {w : World} {A : Around} {E : Value → Shared → Prop} {s : Shared} {D D2 : Dm} {g : Heap} {σ σ' : CS} {env : Env} {e : List (Str × V)}

theorem CellsR.loc {h h' : Heap} (x : CellsR D g h env) (C : Cx w D g h env e σ) (k : KB [env.locals] h h') : CellsR D g h' env := fun y c hc => by
  obtain ⟨⟨v, a⟩, b, d⟩ := x y c hc
  obtain ⟨m, N, _⟩ := C.ns
  exact ⟨⟨v, IsCell.kb a k (by simpa using cell_ne_ns a N)⟩, b, d⟩

theorem CellsR.side {h h' : Heap} {I : Addr} (x : CellsR D g h env) (y : Side g h D I) (k : KB [I] h h') : CellsR D g h' env := fun z c hc => by
  obtain ⟨⟨v, a⟩, b, d⟩ := x z c hc
  refine ⟨⟨v, IsCell.kb a k ?_⟩, b, d⟩
  intro q
  obtain ⟨o, a1, a2⟩ := a
  obtain ⟨o', fs, x1, x2⟩ := y.at_
  rw [List.mem_singleton.mp q, x1] at a1
  cases a1
  rw [a2] at x2
  cases x2

theorem needed_ok {R : Result → Shared → Prop} {n : Nat} {aO : Addr} {os : List Ord} {x : Str} {t : Tok} (a : AOk A (n + 60)) (G : Gd w g) (hc : D.cpu = none) (S : SR g D σ s.heap) (OO : OrdL D s.heap aO os) (hos : ∀ o ∈ os, o ∈ ords) (hlen : os.length ≤ 20) (hx : x.length ≤ 20)
    (k : ∀ rv h' tk, VR D h' (.lst ((need os (x ++ "M")).1.map ordVal)) rv → SR g D σ h' → KB (muts D) s.heap h' → R (.ok (.ret rv)) { s with heap := h', toks := tk }) :
    codeAny (model prog w) A (.call (.ref 466) ⟨[.ref aO, .str x t], []⟩) R s := by
  refine enter (n := n + 59) (vs := [.ref aO, .str x]) (f := 466) rfl (by kernel_rfl) rfl rfl rfl a G S (by simp only [VRs, VR]; exact ⟨_, _, rfl, rfl, _, _, rfl, ⟨_, rfl⟩, rfl⟩) ?_
  intro env h₁ tk hsc K a' C kb0 cR hcl
  have tn := tch_nil hc
  have hu : (A.deeper env).units + 64 < cLine := by have := a'.units; have : cLine = 9900 := rfl; omega
  have cw := hcl "wanted" rfl
  have co := hcl "order" rfl
  obtain ⟨c1, hc1⟩ := Option.isSome_iff_exists.mp cw
  obtain ⟨c2, hc2⟩ := Option.isSome_iff_exists.mp co
  have OO1 : OrdL D h₁ aO os := OO.kb kb0.of_nil
  -- found, wanted = ([], wanted + 'M')
  refine wpAny_execs_cons (Assign_Tuple (Tuple_ (spliced_more (ev (n := 10) (v := .lst []) (σ' := σ) (by rw [hsc]; rfl) (a'.lower (by omega)) K C fun rl h2 tk2 hv2 C2 kb2 => spliced_more (wpAny_BinOp (nameA_ok (s := { s with heap := h2, toks := tk2 }) (v := .str x) (by rw [hsc]; rfl) K C2 fun rx hx => Constant_str ?_))))) rfl (swap_ok (r := none) (by rw [hsc]; rfl)))
  rw [tn] at kb2
  simp only [VR] at hx
  obtain ⟨tx, rfl⟩ := hx
  refine PyProof.Rows.add_str (fun t' tk3 => spliced_none (wpAny_newTuple ?_ (by rw [sizeLine_eq]; exact Nat.le_of_ble_eq_true rfl))) (by rw [sizeLine_eq]; have : (Str.ofString "M").length = 1 := rfl; have : (16777216 : Nat) = 2 ^ 24 := rfl; omega)
  have kb4 := KB.push h2 { cls := .type "tuple", data := .seq #[rl, .str (x ++ "M") t'] }
  have C4 := C2.ext kb4
  refine wpAny_assign_Tuple (s := { s with heap := _, toks := tk3 }) a'.hand (items := #[rl, .str (x ++ "M") t']) ⟨_, Heap.get?_push_size _ rfl, rfl, _, rfl⟩ rfl rfl fun h5 hx5 => ?_
  have kb5 := KB.of_ext hx5
  have kb25 : KB [] h2 h5 := kb4.trans kb5
  have C5 := C4.ext kb5
  have cR5 : CellsR D _ h5 env := cR.mvm (kb2.trans kb25).of_nil
  have OO5 := OO1.kb (kb2.trans kb25).of_nil
  have hv5 := VR.keeps (.of_KB kb25.of_nil) _ _ hv2
  refine wpAny_assignInOrder_more (assign_Name (storeA_ok (s := { s with heap := h5, toks := tk3 }) (v := .lst []) (by rw [hsc]; rfl) K C5 hv5 fun h6 tk6 C6 kb6 _ => ?_))
  rw [tn] at kb6
  refine wpAny_assignInOrder_more (assign_Name (cstore_ok (s := { s with heap := h6, toks := tk6 }) (y := "wanted") (v := .str (x ++ "M")) (by rw [hsc]; rfl) K C6 (cR5.loc C5 kb6) cw vr_str fun h7 tk7 C7 cR7 kn7 => wpAny_pure ?_))
  have OO7 := kn7.ord ((KN.of_loc C5 kb6).ord OO5)
  -- for order in orders[::0 - 1]
  show wpAny _ _ (execs _ _) _ _ _
  obtain ⟨offO, rvs, nO, hlO, lenO, vO, _⟩ := OO7.get
  refine wpAny_execs_cons (wpAny_For (wpAny_Subscript_Slice_step (T := "list") list_getitem_lookup (nameA_ok (s := { s with heap := h7, toks := tk7 }) (v := .ref aO) (by rw [hsc]; rfl) K C7 fun ro hro => wpAny_Slice (wpAny_pure (wpAny_pure (ev (s := { s with heap := h7, toks := tk7 }) (n := 10) (v := .int (-1) (some (-1, -1))) (σ' := σ) (by rw [hsc]; rfl) (a'.lower (by omega)) K C7 fun rm h8 tk8 hm C8 kb8 => ?_))))))
  rw [tn] at kb8
  simp only [VR] at hro hm
  subst hro
  obtain ⟨⟨tm, rfl⟩, _⟩ := hm
  have hl8 := seq_list (kb8 _ _ (fun z => nomatch z) hlO)
  refine ⟨(hl8.push _).typeIs, slice_ok (s := { s with heap := h8, toks := tk8 }) hl8 .none .none (.int _ _) (by decide) (by simp; omega) fun L1 h9 kb9 hL1 hp9 => ?_⟩
  rw [krv_pick] at hp9
  obtain ⟨m9, hp9⟩ := hp9
  have OO9 : OrdL D h9 L1 os.reverse := by
    unfold OrdL
    simp only [VR]
    refine ⟨L1, rvs.reverse, m9, rfl, (C8.sr.new hL1).1, by simpa using hp9, ?_⟩
    rw [List.map_reverse]
    exact VRs.reverse (VRs.keeps (.of_KB (kb8.trans kb9).of_nil) _ _ vO)
  have C9 := C8.ext kb9
  have cR9 : CellsR D _ h9 env := cR7.mvm (kb8.trans kb9).of_nil
  refine wpAny_pyIter_list (s := { s with heap := h9, toks := tk8 }) ⟨_, hp9, rfl, _, rfl⟩ ?_
  have kbI := KB.push h9 { cls := .type "list_iterator", data := .fields #[.ref L1, .int 0 0] }
  obtain ⟨i1, i2, i3⟩ := C9.sr.new (Nat.le_refl h9.objs.size)
  generalize hX : x ++ Str.ofString "M" = X at k C7 C8 C9
  have hXl : X.length ≤ 21 := by
    rw [← hX]
    have : (x ++ Str.ofString "M").length = x.length + 1 := by
      show (x.cps ++ _).size = _
      rw [Array.size_append]; rfl
    omega
  refine codeAny_forLoop_any
    (fun k s' => ∃ h' tk' i, s' = { s with heap := h', toks := tk' } ∧ Cx w D (below D s.heap) h' env [("found", .lst (((os.reverse.take i).foldl needStep ([], X)).1.map ordVal)), ("wanted", .str ((os.reverse.take i).foldl needStep ([], X)).2)] σ ∧ CellsR D (below D s.heap) h' env ∧
      OrdL D h' L1 os.reverse ∧ h'.IsListIter h9.objs.size L1 i ∧ ((os.reverse.take i).foldl needStep ([], X)).2.length ≤ 21 + 20 * i ∧ ((os.reverse.take i).foldl needStep ([], X)).1.length ≤ i ∧ i ≤ os.length ∧ k = os.length + 1 - i) ?_ (os.length + 1)
    ⟨_, tk8, 0, rfl, (C9.ext kbI).pick (fun p hp => by
      simp only [List.mem_cons, List.not_mem_nil, or_false] at hp
      rcases hp with rfl | rfl <;> rfl), cR9.mvm kbI.of_nil, OO9.kb kbI.of_nil, ⟨_, Heap.get?_push_size _ rfl, rfl, rfl⟩, hXl, Nat.le_refl _, Nat.zero_le _, rfl⟩
  rintro kk s' ⟨H, tkH, i, rfl, C', cR', OO', hit', l2, l1, hi, rfl⟩
  obtain ⟨offL, rvL, mL, hlL, lenL, vL, getL1⟩ := OO'.get
  have hl' := seq_list hlL
  have sI := iter_side hit' i2 i1
  rw [List.length_reverse] at lenL
  cases ho : os.reverse[i]? with
  | none =>
    have hsz : i = os.length := Nat.le_antisymm hi (by simpa using ho)
    refine wpAny_pyNext_list_end a'.hand hit' hl' (by simp; omega) fun h₁ he₁ => wpAny_execs_nil ?_
    have kb1 := KB.of_extBut he₁
    have C1 := C'.side sI kb1
    rw [hsz, show List.take os.length os.reverse = os.reverse from List.take_of_length_le (by simp), need_fold] at C1
    -- return found
    show wpAny _ _ (execs _ _) _ _ _
    refine wpAny_execs_cons (wpAny_Return_some (nameA_ok (s := { s with heap := h₁, toks := tkH }) (v := .lst ((need os X).1.map ordVal)) (by rw [hsc]; rfl) K C1 fun rv hv => ?_))
    have up : ∀ b o, g.get? b = some o → (below D s.heap).get? b = some o := fun b o q => hideAll_get _ (S.keep b o q) fun z => by rw [S.off b z] at q; cases q
    exact k rv h₁ tkH hv ⟨fun b o q => C1.sr.keep b o (up b o q), S.off, C1.sr.objs, C1.sr.ext⟩ (below_KB C1.sr.keep)
  | some o =>
    obtain ⟨rv, hrv, hvo⟩ := getL1 i o ho
    have hlt : i < os.length := by have := (List.getElem?_eq_some_iff.mp ho).1; simpa using this
    have hom : o ∈ ords := hos o (List.mem_reverse.mp (List.mem_of_getElem? ho))
    have so := ords_short o hom
    have hfold : (os.reverse.take (i + 1)).foldl needStep ([], X) = needStep ((os.reverse.take i).foldl needStep ([], X)) o := by
      rw [List.take_add_one, ho, List.foldl_append]; rfl
    have nlen := needStep_len ((os.reverse.take i).foldl needStep ([], X)) o
    rw [← hfold] at nlen
    refine wpAny_pyNext_list_item hit' hl' (x := rv) (by simpa using hrv) fun h₁ hit₁ hs₁ => ?_
    have kb1 := KB.of_same hs₁
    have C1 := C'.side sI kb1
    have cR1 := cR'.side sI kb1
    have OO1 := OO'.seq (.side sI kb1)
    have hvo1 := VR.keeps (.side sI kb1) _ _ hvo
    refine wpAny_pure (assign_Name (cstore_ok (s := { s with heap := h₁, toks := tkH }) (y := "order") (v := ordVal o) (by rw [hsc]; rfl) K C1 cR1 co hvo1 fun h2 tk2 C2 cR2 kn2 => ?_))
    have OO2 := kn2.ord OO1
    have hit2 := kn2.iter hit₁
    generalize hp : (os.reverse.take i).foldl needStep ([], X) = p at C2 l2 l1 hfold nlen
    obtain ⟨F, Wn⟩ := p
    dsimp only at C2 l2 l1 nlen
    -- the test
    refine wpAny_execs_cons (wpAny_If (wpAny_isTrue_Compare1 (filter_ok (s := { s with heap := h2, toks := tk2 }) (S := o.wr) (u := .str Wn) (p := fun c => has Wn c) C2 K a'.hand (closure1 rfl hc1) (by decide) rfl (by decide) rfl (by decide) hc1 rfl (by rw [hsc]; rfl) (by unfold relabel Env.kindOf; rw [hsc]; rfl) (by omega) (by decide) ?_ ?_ ?_) rfl))
    · refine ev (s := { s with heap := h2, toks := tk2 }) (n := 10) (v := .str o.wr) (σ' := σ) (by rw [hsc]; rfl) (a'.lower (by omega)) K C2 fun rv h' tk hv C' kb => ?_
      rw [tn] at kb
      simp only [VR] at hv
      obtain ⟨t, rfl⟩ := hv
      exact ⟨t, h', tk, rfl, rfl, kb⟩
    · intro cA cc s₃ E' hmem K' Cc
      refine wpAny_isTrue_Compare1 (nameA_ok (v := oneStr cc) (by show nameA _ (relabel _ env) _ _ = _; unfold relabel Env.kindOf; rw [hsc]; rfl) K' Cc fun ra ha => nameA_ok (v := .str Wn) (by show nameA _ (relabel _ env) _ _ = _; unfold relabel Env.kindOf; rw [hsc]; rfl) K' Cc fun rb hb => ?_)
      unfold oneStr at ha
      simp only [VR] at ha hb
      obtain ⟨ta, rfl⟩ := ha
      obtain ⟨tb, rfl⟩ := hb
      refine PyProof.Rows.in_str (wpAny_truthy_bool ⟨?_, s₃.heap, s₃.toks, rfl, KB.refl _ _⟩)
      rw [StrLaws.found_one, Bool.eq_iff_iff, has_mem, decide_eq_true_eq]
    · intro rv1 h3 tk3 hv1 C3 kb3
      refine ev (s := { s with heap := h3, toks := tk3 }) (n := 10) (v := .lst []) (σ' := σ) (by rw [hsc]; rfl) (a'.lower (by omega)) K C3 fun re h4 tk4 hre C4 kb4 => ?_
      rw [tn] at kb4
      refine lst_empty (s := { s with heap := h4, toks := tk4 }) hu (VR.keeps (.of_KB kb4.of_nil) _ _ hv1) hre (wpAny_truthy_bool ?_)
      rw [filt_empty, Bool.not_not]
      have kb34 := kb3.trans kb4
      have OO4 := OO2.kb kb34.of_nil
      have hit4 := listIter_kb hit2 kb34 (fun z => nomatch z)
      have cR4 := cR2.mvm kb34.of_nil
      cases hany : o.wr.cps.toList.any (fun c => has Wn c) with
      | false =>
        have hns : needStep (F, Wn) o = (F, Wn) := by unfold needStep; rw [if_neg (by rw [hany]; decide)]
        rw [hns] at hfold
        simp only [Bool.false_eq_true, if_false]
        refine wpAny_execs_nil (wpAny_execs_nil ⟨os.length + 1 - (i + 1), by omega, h4, tk4, i + 1, rfl, ?_, cR4, OO4, hit4, by omega, by omega, hlt, rfl⟩)
        rw [hfold]
        exact C4.pick fun p hp => by
          simp only [List.mem_cons, List.not_mem_nil, or_false] at hp
          rcases hp with rfl | rfl <;> rfl
      | true =>
        have hns : needStep (F, Wn) o = (o :: F, ⟨((Wn.cps.toList.filter fun c => !has o.wr c || c == 77) ++ o.rd.cps.toList).toArray⟩) := by unfold needStep; rw [if_pos hany]
        rw [hns] at hfold
        simp only [if_true]
        have lF : (F.map ordVal).length = F.length := List.length_map ..
        -- found = [order] + found
        refine wpAny_execs_cons (wpAny_Assign_Name (wpAny_BinOp (ev (s := { s with heap := h4, toks := tk4 }) (n := 10) (v := .lst [ordVal o]) (σ' := σ) (by rw [hsc]; rfl) (a'.lower (by omega)) K C4 fun r5 h5 tk5 hv5 C5 kb5 => nameA_ok (s := { s with heap := h5, toks := tk5 }) (v := .lst (F.map ordVal)) (by rw [hsc]; rfl) K C5 fun r6 hv6 => ?_)) (notComp_swaps rfl _ _))
        rw [tn] at kb5
        simp only [VR] at hv5 hv6
        obtain ⟨la, rva, ma, rfl, na, ga, wa⟩ := hv5
        obtain ⟨lb, rvb, mb, rfl, nb, gb, wb⟩ := hv6
        have hla := vrs_len wa
        have hlb := vrs_len wb
        simp only [List.length_cons, List.length_nil] at hla
        refine PySem.P.add_list (s := { s with heap := h5, toks := tk5 }) ga gb ?_ (by rw [sizeLine_eq]; have : (16777216 : Nat) = 2 ^ 24 := rfl; simp; omega)
        have kb6 := KB.push h5 { cls := .type "list", data := .seq (rva.toArray ++ rvb.toArray) }
        have C6 := C5.ext kb6
        have hres : VR D (h5.push { cls := .type "list", data := .seq (rva.toArray ++ rvb.toArray) }) (.lst ((o :: F).map ordVal)) (.ref h5.objs.size) := by
          simp only [VR]
          refine ⟨h5.objs.size, rva ++ rvb, 0, rfl, C5.sr.new_mut, ?_, ?_⟩
          · rw [show seqObj "list" (rva ++ rvb) 0 = { cls := .type "list", data := .seq (rva.toArray ++ rvb.toArray) } by simp]
            exact Heap.get?_push_size _ rfl
          · have := VRs.append (VRs.keeps (.of_KB kb6.of_nil) _ _ wa) (VRs.keeps (.of_KB kb6.of_nil) _ _ wb)
            simpa using this
        refine storeA_ok (s := { s with heap := _, toks := tk5 }) (v := .lst ((o :: F).map ordVal)) (by rw [hsc]; rfl) K C6 hres fun h7 tk7 C7 kb7 _ => ?_
        rw [tn] at kb7
        have cR7' := (cR4.mvm (kb5.trans kb6).of_nil).loc C6 kb7
        have kn47 : KN h4 h7 := (KN.of_nil (kb5.trans kb6)).trans (KN.of_loc C6 kb7)
        have OO7' := kn47.ord OO4
        have hit7 := kn47.iter hit4
        -- wanted = ''.join([..]) + order[1]
        have lW : (Wn.cps.toList.filter fun c => !has o.wr c || c == 77).length ≤ Wn.length := Nat.le_trans (List.length_filter_le _ _) (by simp [Str.length])
        refine wpAny_execs_cons (wpAny_Assign_Name (wpAny_BinOp (join_ok (s := { s with heap := h7, toks := tk7 }) (D := D) (cs := Wn.cps.toList.filter fun c => !has o.wr c || c == 77) rfl rfl (by omega) fun tk8 => filter_ok (s := { s with heap := h7, toks := tk8 }) (S := Wn) (u := ordVal o) (p := fun c => !has o.wr c || c == 77) C7 K a'.hand (closure1 rfl hc2) (by decide) rfl (by decide) rfl (by decide) hc2 rfl (by rw [hsc]; rfl) (by unfold relabel Env.kindOf; rw [hsc]; rfl) (by omega) (by decide) ?_ ?_ ?_)) (notComp_swaps rfl _ _))
        · refine nameA_ok (s := { s with heap := h7, toks := tk8 }) (v := .str Wn) (by rw [hsc]; rfl) K C7 fun rv hv => ?_
          simp only [VR] at hv
          obtain ⟨t, rfl⟩ := hv
          exact ⟨t, h7, tk8, rfl, rfl, KB.refl _ _⟩
        · intro cA cc s₃ E' hmem K' Cc
          refine wpAny_isTrue_BoolOp (wpAny_allTrue_Or_cons (wpAny_isTrue_Compare1 (nameA_ok (v := oneStr cc) (by show nameA _ (relabel _ env) _ _ = _; unfold relabel Env.kindOf; rw [hsc]; rfl) K' Cc fun ra ha => ev (n := 10) (v := .str o.wr) (σ' := σ) (by show evA _ _ (relabel _ env) _ _ _ = _; unfold relabel Env.kindOf; rw [hsc]; rfl) (a'.lower (by omega)) K' Cc fun rb h8 tk8 hb Cc8 kb8 => ?_)))
          rw [tn] at kb8
          have ha0 := ha
          unfold oneStr at ha
          simp only [VR] at ha hb
          obtain ⟨ta, rfl⟩ := ha
          obtain ⟨tb, rfl⟩ := hb
          refine PyProof.Rows.notIn_str (wpAny_truthy_bool ?_)
          rw [StrLaws.found_one]
          have hh : decide (cc ∈ o.wr.cps.toList) = has o.wr cc := by rw [Bool.eq_iff_iff, has_mem, decide_eq_true_eq]
          rw [hh]
          cases hb : has o.wr cc with
          | false => exact ⟨by simp [hb], h8, _, rfl, kb8⟩
          | true =>
            simp only [Bool.not_true, Bool.false_eq_true, if_false]
            refine wpAny_allTrue_Or_cons (wpAny_isTrue_Compare1 (nameA_ok (s := { s₃ with heap := h8, toks := tk8 }) (v := oneStr cc) (by show nameA _ (relabel _ env) _ _ = _; unfold relabel Env.kindOf; rw [hsc]; rfl) K' Cc8 fun rc hcv => Constant_str ?_))
            unfold oneStr at hcv
            simp only [VR] at hcv
            obtain ⟨tc, rfl⟩ := hcv
            refine PyProof.Rows.eq_str (wpAny_truthy_bool ?_)
            have he : ((⟨#[cc]⟩ : Str) == Str.ofString "M") = (cc == 77) := by
              show ((⟨#[cc]⟩ : Str) == ⟨#[77]⟩) = _
              rw [Bool.eq_iff_iff, beq_iff_eq, beq_iff_eq]
              simp
            rw [he]
            cases hM : (cc == 77) with
            | true => exact ⟨by simp [hM], h8, _, rfl, kb8⟩
            | false => exact wpAny_allTrue_Or_nil ⟨by simp [hM, hb], h8, _, rfl, kb8⟩
        · intro rv8 h8 tk8' hv8 C8' kb8
          refine ⟨hv8, fun t tk9 => ?_⟩
          refine ev (s := { s with heap := h8, toks := tk9 }) (n := 10) (v := .str o.rd) (σ' := σ) (by rw [hsc]; rfl) (a'.lower (by omega)) K C8' fun rd h9 tk9 hrd C9' kb9 => ?_
          rw [tn] at kb9
          simp only [VR] at hrd
          obtain ⟨trd, rfl⟩ := hrd
          refine PyProof.Rows.add_str (fun t' tk10 => ?_) (by rw [sizeLine_eq]; have : (16777216 : Nat) = 2 ^ 24 := rfl; show ((_ : List Nat).toArray).size + _ ≤ _; rw [List.size_toArray]; omega)
          have kb89 := kb8.trans kb9
          refine cstore_ok (s := { s with heap := h9, toks := tk10 }) (y := "wanted") (v := .str ⟨((Wn.cps.toList.filter fun c => !has o.wr c || c == 77) ++ o.rd.cps.toList).toArray⟩) (by rw [hsc]; rfl) K C9' (cR7'.mvm kb89.of_nil) cw ?_ fun h10 tk10 C10 cR10 kn10 => ?_
          · have e : (⟨(Wn.cps.toList.filter fun c => !has o.wr c || c == 77).toArray⟩ : Str) ++ o.rd = ⟨((Wn.cps.toList.filter fun c => !has o.wr c || c == 77) ++ o.rd.cps.toList).toArray⟩ := by
              show (⟨_ ++ o.rd.cps⟩ : Str) = _
              congr 1
              apply Array.ext'
              simp
            rw [e]
            exact vr_str
          · have kn710 : KN h7 h10 := (KN.of_nil kb89).trans kn10
            refine wpAny_execs_nil (wpAny_execs_nil ⟨os.length + 1 - (i + 1), by omega, h10, tk10, i + 1, rfl, ?_, cR10, kn710.ord OO7', kn710.iter hit7, by omega, by omega, hlt, rfl⟩)
            rw [hfold]
            exact C10.pick fun p hp => by
              simp only [List.mem_cons, List.not_mem_nil, or_false] at hp
              rcases hp with rfl | rfl <;> rfl
end
end Mine

namespace Mine
open PySem PySem.W PySem.Calls PyProof.Rows

theorem range_sizes : ∀ n : Nat, n ≤ 64 → Builtin.Range.rangeSize 0 n 1 = n ∧ Builtin.Range.small 0 n 1 = true := by
  intro n hn
  have h : (List.range 65).all (fun n => decide (Builtin.Range.rangeSize 0 (n : Int) 1 = (n : Int)) && Builtin.Range.small 0 (n : Int) 1) = true := by decide +kernel
  have q := List.all_eq_true.mp h n (List.mem_range.mpr (by omega))
  rw [Bool.and_eq_true] at q
  exact ⟨of_decide_eq_true q.1, q.2⟩

section
variable {prog : Program} {w : World} {A : Around} {E : Value → Shared → Prop} {s : Shared} {D D2 : Dm} {g : Heap} {σ σ' : CS} {env : Env} {e : List (Str × V)}

/-- a frame let go -/
theorem Cx.drop {h h' : Heap} {cA : Addr} {m' : Str → Option Value} (C : Cx w D g h env e σ) (N' : h.Ns cA m') (ne : cA ≠ env.locals) (gc : g.get? cA = none) (nc : cA ∉ muts D) (k : KB [cA] h h') : Cx w D g h' env e σ ∧ KN h h' := by
  have neb : ∀ b, b ≠ cA → b ∉ [cA] := fun b n q => n (List.mem_singleton.mp q)
  have kn : KN h h' := fun b o n q => k b o (neb _ fun z => by
    obtain ⟨o', es, ep, a', b', _⟩ := N'
    rw [z, a'] at q
    cases q
    rcases n with ⟨_, _, n⟩ | ⟨_, n⟩ <;> (rw [b'] at n; cases n)) q
  refine ⟨?_, kn⟩
  have nW : ∀ W, D.cpu = some W → cA ≠ W.c := by
    rintro W hW rfl
    have := (C.sr.objs W hW).inst
    obtain ⟨o', es, ep, a', b', _⟩ := N'
    rw [a'] at this
    cases this
    cases b'
  obtain ⟨m, N, hm⟩ := C.ns
  refine ⟨C.gd, C.sr.still k gc nc nW, C.off, C.nm, C.inj, m, nsAt2 N fun o => k _ _ (neb _ (Ne.symm ne)), fun y v q => ?_⟩
  obtain ⟨rv, a, b⟩ := hm y v q
  refine ⟨rv, a.keeps fun c v n z => ?_, VR.keeps kn.seq _ _ b⟩
  exact IsCell.kb z k (neb _ (cell_ne_ns z N'))
theorem CellsR.drop {h h' : Heap} {cA : Addr} {m' : Str → Option Value} (x : CellsR D g h env) (N' : h.Ns cA m') (k : KB [cA] h h') : CellsR D g h' env := fun y c hc => by
  obtain ⟨⟨v, a⟩, b, d⟩ := x y c hc
  exact ⟨⟨v, IsCell.kb a k (fun q => cell_ne_ns a N' (List.mem_singleton.mp q))⟩, b, d⟩

theorem iterRange_ok {n : Nat} {p1 p2 : Pos} {arg : PySem.Expr} {Q : Value → Shared → Prop} (hn : n ≤ 64) (K : EnvOk env) (C : Cx w D g s.heap env e σ) (hl : env.scope.names.lookup ("range" : Str) = some .globalImplicit)
    (hs : starEach [arg] env = [(false, eval arg env)])
    (harg : ∀ (Q' : Value → Shared → Prop) (s' : Shared), s'.heap = s.heap → (∀ t tk, Q' (.int n t) { s' with toks := tk }) → wpAny (model prog w) A (eval arg env) Q' E s')
    (k : ∀ I h' tk, KB [] s.heap h' → s.heap.objs.size ≤ I → IsRangeIter h' I 0 n 1 → I < h'.objs.size → Q (.ref I) { s with heap := h', toks := tk }) :
    wpAny (model prog w) A (eval (.Call (.Name "range" p1) [arg] [] p2) env) (fun xv s₁ => wpAny (model prog w) A (pyIter xv) Q E s₁) E s := by
  obtain ⟨z1, z2⟩ := range_sizes n hn
  refine wpAny_Call_NameR (nameB_ok hl (m_range _) b_range (by decide) (by decide) K C (PyProof.Rows.callWith_type1 (spliced_more (he := hs) (harg _ _ rfl fun t tk => spliced_none (call_range_1 (wpAny_pyIter_range (IsRange.new ..) z2 ?_)))) hs rfl))
  have hr := Heap.get?_push_size (s.heap.push { cls := .type "range", data := .fields #[.int 0 tk, .int n t, .int 1 (tk + 1)] }) (o := { cls := .type "range_iterator", data := .fields #[rawInt 0, rawInt (Builtin.Range.rangeSize 0 n 1), rawInt 1] }) rfl
  refine k _ _ _ ((KB.push _ _).trans (KB.push _ _)) ?_ ?_ (Heap.lt_size hr)
  · rw [Heap.size_push]; exact Nat.le_succ _
  · rw [z1] at hr ⊢
    exact hr

/-- what the turns of a comprehension over range keep -/
structure RTurns (prog : Program) (w : World) (A : Around) (D : Dm) (g h0 : Heap) (σ : CS) (env : Env) (scope : Scope) (fr : Str) (c : Addr) (u : V) (x : Str) (elt : PySem.Expr) (n : Nat) (J : Nat → List Value → Heap → Prop) : Prop where
  kb : ∀ i ys h, J i ys h → KB (muts D) h0 h ∧ SR g D σ h
  stab : ∀ i ys h h', J i ys h → (∀ b o, b < h0.objs.size ∨ (∃ vs n, o = seqObj "tuple" vs n) → h.get? b = some o → h'.get? b = some o) → J i ys h'
  body : ∀ cA i ys (s₃ : Shared) E', i < n → J i ys s₃.heap → EnvOk (compEnvC scope [(fr, c)] cA env) → Cx w D g s₃.heap (compEnvC scope [(fr, c)] cA env) [(x, .int i (some (i, i))), (fr, u)] σ →
    wpAny (model prog w) A (eval elt (compEnvC scope [(fr, c)] cA env)) (fun y s₅ => ∃ h₅ tk, s₅ = { s₃ with heap := h₅, toks := tk } ∧ KB (muts D) s₃.heap h₅ ∧ J (i + 1) (ys ++ [y]) h₅) E' s₃

theorem rangeComp_ok {n : Nat} {elt arg : PySem.Expr} {x y fr : Str} {px py p1 p2 pos spos : Pos} {scope : Scope} {c : Addr} {u : V} {J : Nat → List Value → Heap → Prop} {Q : Flow → Shared → Prop} (hn : n ≤ 64) (hcp : D.cpu = none) (K : EnvOk env) (hh : A.handled = none) (C : Cx w D g s.heap env e σ) (cR : CellsR D g s.heap env)
    (hl : env.scope.names.lookup ("range" : Str) = some .globalImplicit) (hs : starEach [arg] env = [(false, eval arg env)])
    (harg : ∀ (Q' : Value → Shared → Prop) (s' : Shared), s'.heap = s.heap → (∀ t tk, Q' (.int n t) { s' with toks := tk }) → wpAny (model prog w) A (eval arg env) Q' E s')
    (hclos : closureFor scope env = pure [(fr, c)]) (hcell : ∀ y ∈ scope.names, y.2 ≠ .cell) (hkind : scope.kind = .function)
    (hnames : ∀ y ∈ scope.names, y.2 = .local → scope.names.lookup y.1 = some .local) (hx : scope.names.lookup x = some .local) (hxy : x ≠ fr)
    (hc : env.cells.lookup fr = some c) (hu : e.lookup fr = some u) (hy : env.scope.names.lookup fr = some .cell) (hyr : (relabel scope env).names.lookup fr = some .cell)
    (hyl : env.scope.names.lookup y = some .local)
    (hsw : swapsWith (.ListComp elt [⟨.Name x px, .Call (.Name "range" p1) [arg] [] p2, [], 0⟩] scope pos) (some (.Name y py)) spos.line env = pure true)
    (T : RTurns prog w A D g s.heap σ env scope fr c u x elt n J) (hJ : J 0 [] s.heap)
    (k : ∀ Dl h' h'' tk ys m, J n ys h' → h''.get? Dl = some (seqObj "list" ys m) → KN h' h'' → Dl ∉ muts D → s.heap.objs.size ≤ Dl → Cx w D g h'' env (putA y (.ref Dl) e) σ → CellsR D g h'' env → Q .next { s with heap := h'', toks := tk })
    (hfs : ∀ v, foldedSetIterable (.Call (.Name "range" p1) [arg] [] p2) env v = pure v := by intro _; rfl) :
    wpAny (model prog w) A (exec (.Assign [.Name y py] (.ListComp elt [⟨.Name x px, .Call (.Name "range" p1) [arg] [] p2, [], 0⟩] scope pos) spos) env) Q E s := by
  rw [exec_Assign_Name_used _ _ _ _ hsw]
  refine wpAny_bind (wpAny_standAt (wpAny_bind ?_))
  show wpAny _ A (do let _ ← comprehension (.ListComp elt [⟨.Name x px, .Call (.Name "range" p1) [arg] [] p2, [], 0⟩] scope pos) scope env _ (newList []) false (eval (.Call (.Name "range" p1) [arg] [] p2) env) (some (assign (.Name y py) env))) _ _ s
  refine wpAny_bind (wpAny_mono (comp_ok (D := D) (use := some (assign (.Name y py) env)) (Q := fun _ s' => Q .next s') hclos hcell hkind hnames hx (iterRange_ok (s := s) hn K C hl hs harg fun I h1 tk1 kb1 nI hI ltI => ?_) hfs) (fun _ s' hq => wpAny_pure (wpAny_pure hq)) fun _ _ z => z)
  have C1 := C.ext kb1
  have gI := C.sr.new nI
  have lt1 : ∀ b o, s.heap.get? b = some o → b < h1.objs.size := fun b o q => Heap.lt_size (kb1 b o (fun z => nomatch z) q)
  have sz : s.heap.objs.size ≤ h1.objs.size := Nat.le_of_lt (Nat.lt_of_le_of_lt nI ltI)
  refine ⟨I, [I], [I], n, _, _, J, rfl, Walks.range hh I 0 1 n, Nat.le_trans hn (by rw [sizeLine_eq]; exact Nat.le_of_ble_eq_true rfl), ?_, ?_, ?_, muts_lt C1.sr, ?_, ?_, ?_⟩
  · have e1 : (0 : Int) + ((0 : Nat) : Int) * 1 = 0 := by decide
    have e2 : (n : Int) - ((0 : Nat) : Int) = n := by omega
    rw [e1, e2]
    exact hI
  · intro b hb
    rw [List.mem_singleton.mp hb]
    exact ltI
  · intro b hb
    rw [List.mem_singleton.mp hb]
    exact gI.1
  · refine ⟨?_, ?_, ?_⟩
    · rintro i j ys h h' cA Dl m zs n1 n2 N hp hst hj q
      refine T.stab i ys h h' hj fun b o ho hb => ?_
      obtain ⟨zn, hp⟩ := hp
      obtain ⟨o', es, ep, a', b', _⟩ := N
      rcases ho with hb' | ⟨vs, m', rfl⟩
      · exact q b o (Nat.ne_of_lt (Nat.lt_of_lt_of_le hb' (Nat.le_trans sz n1))) (by simpa using Nat.ne_of_lt (Nat.lt_of_lt_of_le hb' nI)) (Nat.ne_of_lt (Nat.lt_of_lt_of_le hb' (Nat.le_trans sz n2))) hb
      · refine q b _ ?_ ?_ ?_ hb
        · rintro rfl
          rw [a'] at hb
          cases hb
          cases b'
        · intro z
          rw [List.mem_singleton.mp z] at hb
          rw [show h.get? I = _ from hst] at hb
          simp at hb
        · rintro rfl
          rw [hp] at hb
          simp at hb
    · exact fun ys h h' hj q => T.stab 0 ys h h' hj fun b o _ hb => q b o hb
    · rintro cA i v ys s₃ m₃ E' n1 hi ⟨t, rfl⟩ hj N hm
      obtain ⟨kb, S3⟩ := T.kb i ys _ hj
      have C3 : Cx w D g s₃.heap env e σ := C.mvm S3 kb
      have new := C1.sr.new n1
      have e1 : (0 : Int) + ((i : Nat) : Int) * 1 = i := by omega
      rw [e1] at hm
      have Cc := C3.comp1 (scope := scope) hc ⟨new.1, new.2.1⟩ N hm (v := .int i (some (i, i))) (vr_int ⟨Int.le_refl _, Int.le_refl _⟩) hx hxy hu hy hyr
      refine wpAny_pure ?_
      rw [if_pos rfl]
      exact T.body cA i ys s₃ E' hi hj (K.comp hkind) Cc
  · exact T.stab 0 [] _ _ hJ fun b o _ hb => kb1 b o (fun z => nomatch z) hb
  · rintro Dl cA h' tk ys m' n1 n2 ne hp N hj _
    obtain ⟨kb, S3⟩ := T.kb n _ _ hj
    have C3 : Cx w D g h' env e σ := C.mvm S3 kb
    have newD := C1.sr.new n1
    have newC := C1.sr.new n2
    refine assign_Name (storeA_ok (s := { s with heap := h', toks := tk }) (v := .ref Dl) hyl K C3 (by simp only [VR]) fun h2 tk2 C4 kb4 _ => ?_)
    have cl : cA ≠ env.locals := by
      obtain ⟨m0, N0, _⟩ := C1.ns
      exact Nat.ne_of_gt (Nat.lt_of_lt_of_le N0.lt n2)
    have cm : cA ∉ env.locals :: tch D := fun q => by
      rcases List.mem_cons.mp q with q | q
      · exact cl q
      · exact newC.1 (tch_muts q)
    have N2 := N.at' fun o q => kb4 cA o cm q
    refine ⟨m', N2, fun h3 sb => ?_⟩
    obtain ⟨C5, kn5⟩ := C4.drop N2 cl newC.2.1 newC.1 (KB.of_same sb)
    obtain ⟨mp, hp⟩ := hp
    rw [tch_nil hcp] at kb4
    have kn4 := KN.of_loc C3 kb4
    have hp' : h'.get? Dl = some (seqObj "list" ys.toList mp) := by rw [hp]
    exact k Dl h' h3 tk2 ys.toList mp hj (kn5 _ _ (.inl ⟨_, _, rfl⟩) (kn4 _ _ (.inl ⟨_, _, rfl⟩) hp')) (kn4.trans kn5) newD.1 (Nat.le_trans sz n1) C5 (((cR.mvm kb).loc C3 kb4).drop N2 (KB.of_same sb))
end
end Mine

namespace Mine
open PySem PySem.W PySem.Calls PyProof.Rows

section
variable {prog : Program} {w : World} {A : Around} {E : Value → Shared → Prop} {s : Shared} {D D2 : Dm} {g : Heap} {σ σ' : CS} {env : Env} {e : List (Str × V)}

theorem compLoopT_tests {R : Result → Shared → Prop} {elt target iter : PySem.Expr} {ifs : List PySem.Expr} {scope : Scope} {pos : Pos} {it acc : Value} {env : Env} (I : Nat → Shared → Prop)
    (turn : ∀ n s, I n s → wpAny (model prog w) A (pyNext it) (fun r s₁ => match r with
      | none => R (.ok .next) s₁
      | some v => wpAny (model prog w) A (letOwnedTupleGo target it v) (fun _ s₁' => wpAny (model prog w) A (assign target env v) (fun _ s₂ =>
          wpAny (model prog w) A (forIn ifs true fun c r => if r = true then do let ok ← isTrue c env (eval c env); pure (ForInStep.yield ok) else pure (ForInStep.yield r)) (fun ok s₃ =>
            if ok = true then wpAny (model prog w) A (eval elt env) (fun x s₄ =>
              wpAny (model prog w) A (call (.builtin "list.append") [acc, x]) (fun _ s₅ => ∃ m, m < n ∧ I m s₅) (notedBy (model prog w) A env fun e s' => R (.error e) s') s₄) (notedBy (model prog w) A env fun e s' => R (.error e) s') s₃
            else ∃ m, m < n ∧ I m s₃) (notedBy (model prog w) A env fun e s' => R (.error e) s') s₂) (notedBy (model prog w) A env fun e s' => R (.error e) s') s₁') (notedBy (model prog w) A env fun e s' => R (.error e) s') s₁) (notedBy (model prog w) A env fun e s' => R (.error e) s') s)
    (n : Nat) (h : I n s) :
    codeAny (model prog w) A (.compLoop (.ListComp elt [⟨target, iter, ifs, 0⟩] scope pos) 0 it acc env) R s := by
  refine codeAny_loop rfl I (fun n s hI => ?_) n h
  show wpAny _ A ((compTurn (.ListComp elt [⟨target, iter, ifs, 0⟩] scope pos) 0 it acc env).onRaise (fun x => do noteFrame x env; theTreesLotGoes x)) _ _ s
  refine wpAny_noted ?_
  rw [compTurn_list]
  refine wpAny_bind (wpAny_standAt (wpAny_bind (wpAny_mono (turn n s hI) (fun r s₁ h₁ => ?_) fun _ _ h' => h')))
  cases r with
  | none => exact wpAny_pure h₁
  | some v =>
    refine wpAny_bind (wpAny_mono h₁ (fun _ s₁' h₁' => ?_) fun _ _ h' => h')
    refine wpAny_bind (wpAny_mono h₁' (fun _ s₂ h₂ => wpAny_bind (wpAny_mono h₂ (fun ok s₃ h₃ => ?_) fun _ _ h' => h')) fun _ _ h' => h')
    cases ok with
    | false => exact wpAny_pure ⟨rfl, h₃⟩
    | true =>
      exact wpAny_bind (wpAny_bind (wpAny_mono h₃ (fun x s₄ h₄ => wpAny_bind (wpAny_mono h₄ (fun _ s₅ h₅ => wpAny_pure (wpAny_pure ⟨rfl, h₅⟩)) fun _ _ h' => h')) fun _ _ h' => h'))

theorem Cx.comp0 {h : Heap} {scope : Scope} {cA c : Addr} {m : Str → Option Value} {y : Str} {u : V} (C : Cx w D g h env e σ) (hc : env.cells.lookup y = some c) (new : cA ∉ muts D ∧ g.get? cA = none) (N : h.Ns cA m)
    (hu : e.lookup y = some u) (hy : env.scope.names.lookup y = some .cell) (hyr : (relabel scope env).names.lookup y = some .cell) :
    Cx w D g h (compEnvC scope [(y, c)] cA env) [(y, u)] σ := by
  obtain ⟨m0, _, he⟩ := C.ns
  refine ⟨C.gd, C.sr, new.2, new.1, fun a b d h1 h2 => ?_, m, N, fun z t q => ?_⟩
  · have q1 := PySem.mem_of_lookup h1
    have q2 := PySem.mem_of_lookup h2
    simp only [compEnvC, List.mem_singleton, Prod.mk.injEq] at q1 q2
    rw [q1.1, q2.1]
  · simp only [List.lookup_cons] at q
    cases hz2 : (z == y) with
    | true =>
      rw [hz2] at q
      simp only [Option.some.injEq] at q
      subst q
      rw [beq_iff_eq] at hz2
      subst hz2
      obtain ⟨rv', a, b⟩ := he _ _ hu
      refine ⟨rv', ?_, b⟩
      unfold Holds at a ⊢
      rw [hy] at a
      obtain ⟨c', a1, a2, a3⟩ := a
      rw [hc] at a1
      cases a1
      show (match (relabel scope env).names.lookup z with | some .local => _ | some .cell => _ | _ => False)
      rw [hyr]
      exact ⟨c, by simp [compEnvC], a2, a3⟩
    | false =>
      rw [hz2] at q
      cases q

/-- enumerate of the letters -/
theorem enumLetters {p5 p6 p7 : Pos} {Q : Value → Shared → Prop} (hh : A.handled = none) (K : EnvOk env) (C : Cx w D g s.heap env e σ) (hl : env.scope.names.lookup ("enumerate" : Str) = some .globalImplicit)
    (hn : nameA w.params env.scope e "_law_names" = some (.str "BCDEHLFA"))
    (k : ∀ h' tk (t : Tok), KB [] s.heap h' → IsEnum h' (s.heap.objs.size + 1) s.heap.objs.size 0 .none → h'.IsStrIter s.heap.objs.size "str_ascii_iterator" "BCDEHLFA" t 0 → h'.objs.size = s.heap.objs.size + 2 → 
      WalksT prog w A (s.heap.objs.size + 1) [s.heap.objs.size + 1, s.heap.objs.size] [s.heap.objs.size + 1, s.heap.objs.size] 8 (fun i vals => ∃ t x, (∃ c u, (Str.ofString "BCDEHLFA").cps[i]? = some c ∧ x = .str ⟨#[c]⟩ u) ∧ vals = #[.int i t, x])
        (fun i h => (∃ old, IsEnum h (s.heap.objs.size + 1) s.heap.objs.size i old) ∧ h.IsStrIter s.heap.objs.size "str_ascii_iterator" "BCDEHLFA" t i)
        (fun i T h => (∃ x, IsEnumOut h (s.heap.objs.size + 1) s.heap.objs.size ((i : Int) + 1) x T) ∧ h.IsStrIter s.heap.objs.size "str_ascii_iterator" "BCDEHLFA" t (i + 1) ∧ T ≠ s.heap.objs.size + 1 ∧ T ≠ s.heap.objs.size) →
      Q (.ref (s.heap.objs.size + 1)) { s with heap := h', toks := tk }) :
    wpAny (model prog w) A (eval (.Call (.Name "enumerate" p5) [.Name "_law_names" p6] [] p7) env) (fun xv s₁ => wpAny (model prog w) A (pyIter xv) Q E s₁) E s := by
  refine wpAny_Call_NameR (nameB_ok hl (m_enum _) b_enum (by decide) (by decide) K C (PyProof.Rows.callWith_type1 (spliced_more (nameA_ok hn K C fun rv hv => spliced_none ?_)) rfl rfl))
  simp only [VR] at hv
  obtain ⟨t, rfl⟩ := hv
  refine call_enumerate_str fun h' q1 q2 q3 q4 => wpAny_pyIter_enum q1 ?_
  have hty : strIterType (Str.ofString "BCDEHLFA") = "str_ascii_iterator" := by unfold strIterType; rw [if_pos (by kernel_rfl)]
  rw [hty] at q2
  refine k h' s.toks t (fun b o _ q => q4 b o q) q1 q2 q3 ?_
  have hhi : A.in1.handled = none := hh
  exact WalksT.enumerateD (Draws.strAscii hhi s.heap.objs.size "BCDEHLFA" t) (s.heap.objs.size + 1) (Nat.succ_ne_self _) (by simp) (by simp)

theorem namesComp_ok {p1 p2 p3 p4 p5 p6 p7 pos : Pos} {kk : Nat} {scope : Scope} {c : Addr} {u : V} {T : PySem.Expr} {Q : Value → Shared → Prop} (hh : A.handled = none) (hcp : D.cpu = none) (K : EnvOk env) (C : Cx w D g s.heap env e σ)
    (hl : env.scope.names.lookup ("enumerate" : Str) = some .globalImplicit) (hn : nameA w.params env.scope e "_law_names" = some (.str "BCDEHLFA"))
    (hclos : closureFor scope env = pure [(("wanted" : Str), c)]) (hcell : ∀ y ∈ scope.names, y.2 ≠ .cell) (hkind : scope.kind = .function)
    (hnames : ∀ y ∈ scope.names, y.2 = .local → scope.names.lookup y.1 = some .local) (hxa : scope.names.lookup ("at" : Str) = some .local) (hxn : scope.names.lookup ("name" : Str) = some .local)
    (hc : env.cells.lookup ("wanted" : Str) = some c) (hu : e.lookup ("wanted" : Str) = some u) (hy : env.scope.names.lookup ("wanted" : Str) = some .cell) (hyr : (relabel scope env).names.lookup ("wanted" : Str) = some .cell)
    (test : ∀ cA (i : Nat) (s₃ : Shared) E', i < 8 → EnvOk (compEnvC scope [("wanted", c)] cA env) → (∃ cc, Cx w D g s₃.heap (compEnvC scope [("wanted", c)] cA env) [("name", oneStr cc), ("at", .int i (some (i, i))), ("wanted", u)] σ) →
      wpAny (model prog w) A (isTrue T (compEnvC scope [("wanted", c)] cA env) (eval T (compEnvC scope [("wanted", c)] cA env))) (fun _ s₄ => ∃ h4 tk, s₄ = { s₃ with heap := h4, toks := tk } ∧ KB [] s₃.heap h4) E' s₃)
    (k : ∀ rv h' tk (cs : List Nat), cs.length ≤ 8 → VR D h' (.lst (cs.map oneStr)) rv → Cx w D g h' env e σ → KB [] s.heap h' → Q rv { s with heap := h', toks := tk })
    (hs : ∀ x, foldedSetIterable (.Call (.Name "enumerate" p5) [.Name "_law_names" p6] [] p7) env x = pure x := by intro _; rfl) :
    wpAny (model prog w) A (eval (.ListComp (.Name "name" p1) [⟨.Tuple [.Name "at" p2, .Name "name" p3] kk p4, .Call (.Name "enumerate" p5) [.Name "_law_names" p6] [] p7, [T], 0⟩] scope pos) env) Q E s := by
  rw [eval_ListComp]
  have tn := tch_nil hcp
  refine wpAny_comprehension_free (use := none) rfl hs hclos hkind hnames (enumLetters hh K C hl hn fun h1 tk1 tt kb1 en1 it1 sz1 W => ?_)
  have C1 := C.ext kb1
  refine wpAny_newObj_type (wpAny_newFunctionEnv hcell (by intro y hy; simp at hy) (fun h₁ hns₁ hsb₁ => ?_) hkind)
  dsimp only at hns₁ hsb₁ ⊢
  generalize hH2 : h1.push { cls := .type "list", dict := none, data := .seq ([] : List Value).toArray } = H2 at hns₁ hsb₁ ⊢
  have hC : H2.objs.size = h1.objs.size + 1 := by rw [← hH2, Heap.size_push]
  have hDC : h1.objs.size ≠ H2.objs.size := by rw [hC]; exact Nat.ne_of_lt (Nat.lt_succ_self _)
  have hCle : h1.objs.size ≤ H2.objs.size := by rw [hC]; exact Nat.le_succ _
  have below : ∀ b, b < h1.objs.size → b ≠ H2.objs.size ∧ b ≠ h1.objs.size := fun b hb => ⟨by rw [hC]; exact Nat.ne_of_lt (Nat.lt_succ_of_lt hb), Nat.ne_of_lt hb⟩
  have old : ∀ b o, h1.get? b = some o → h₁.get? b = some o := fun b o e => hsb₁.extBut b o (below b (Heap.lt_size e)).1 (Heap.get?_push_of_some _ (hH2 ▸ Heap.get?_push_of_some _ e))
  have hacc : h₁.PlainList h1.objs.size #[] := ⟨_, hsb₁.extBut _ _ hDC (Heap.get?_push_of_some _ (hH2 ▸ Heap.get?_push_size _ rfl))⟩
  have newD := C1.sr.new (Nat.le_refl h1.objs.size)
  have newC := C1.sr.new hCle
  have szs : s.heap.objs.size < h1.objs.size := by rw [sz1]; exact Nat.lt_succ_of_lt (Nat.lt_succ_self _)
  have szs1 : s.heap.objs.size + 1 < h1.objs.size := by rw [sz1]; exact Nat.lt_succ_self _
  have lts : ∀ b o, s.heap.get? b = some o → b < s.heap.objs.size := fun b o q => Heap.lt_size q
  have wr2 : ∀ b, b ∈ [s.heap.objs.size + 1, s.heap.objs.size] → b < h1.objs.size ∧ s.heap.objs.size ≤ b := by
    intro b hb
    simp only [List.mem_cons, List.not_mem_nil, or_false] at hb
    rcases hb with rfl | rfl
    · exact ⟨szs1, Nat.le_succ _⟩
    · exact ⟨szs, Nat.le_refl _⟩
  have loop : ∀ s₃ : Shared, s₃ = { s with heap := h₁, toks := tk1 + ([] : List (Str × Value)).length } →
      codeAny (model prog w) A (.compLoop (.ListComp (.Name "name" p1) [⟨.Tuple [.Name "at" p2, .Name "name" p3] kk p4, .Call (.Name "enumerate" p5) [.Name "_law_names" p6] [] p7, [T], 0⟩] scope pos) 0 (.ref (s.heap.objs.size + 1)) (.ref h1.objs.size) (compEnvC scope [("wanted", c)] H2.objs.size env))
        (compPost (model prog w) A E none Q (.ref h1.objs.size) H2.objs.size) s₃ := by
    rintro s₃ rfl
    refine compLoopT_tests
      (fun k s' => ∃ h' tk m' ys i, s' = { s with heap := h', toks := tk } ∧ ((∃ old, IsEnum h' (s.heap.objs.size + 1) s.heap.objs.size (i : Nat) old) ∧ h'.IsStrIter s.heap.objs.size "str_ascii_iterator" "BCDEHLFA" tt i) ∧ h'.PlainList h1.objs.size ys ∧ h'.Ns H2.objs.size m' ∧ KB [] s.heap h' ∧
        (∃ cs : List Nat, cs.length ≤ i ∧ VRs D h' (cs.map oneStr) ys.toList) ∧ i ≤ 8 ∧ k = 8 + 1 - i) ?_ (8 + 1)
      ⟨h₁, _, _, #[], 0, rfl, ⟨⟨_, old _ _ en1⟩, by obtain ⟨o, a, r⟩ := it1; exact ⟨o, old _ _ a, r⟩⟩, hacc, hns₁, fun b o z q => old b o (kb1 b o z q), ⟨[], Nat.le_refl _, by simp [VRs]⟩, Nat.zero_le _, rfl⟩
    rintro k' s' ⟨H, tk, m', ys, i, rfl, hst', hacc', hn', kb', ⟨cs, lcs, vcs⟩, hi, rfl⟩
    have Dw : h1.objs.size ∉ [s.heap.objs.size + 1, s.heap.objs.size] := fun q => Nat.lt_irrefl _ (wr2 _ q).1
    have Cw : H2.objs.size ∉ [s.heap.objs.size + 1, s.heap.objs.size] := fun q => absurd (wr2 _ q).1 (Nat.not_lt.mpr hCle)
    have sw : ∀ b o, s.heap.get? b = some o → b ∉ [s.heap.objs.size + 1, s.heap.objs.size] := fun b o q z => absurd (lts b o q) (Nat.not_lt.mpr (wr2 b z).2)
    by_cases hlt : i < 8
    · refine W.item i _ _ _ hlt hst' fun T0 vals h2 tk2 hP nT hT hM hk2 => ?_
      obtain ⟨ti, xv, ⟨cc, uu, hcc, rfl⟩, rfl⟩ := hP
      refine W.go _ _ _ i T0 _ _ _ hM fun h3 hst3 hk3 => ?_
      have apT := W.apart _ _ _ hM
      have hT3 : h3.IsTuple T0 #[.int i ti, .str ⟨#[cc]⟩ uu] := by
        obtain ⟨o, q1, q2⟩ := hT
        exact ⟨o, hk3 _ _ apT q1, q2⟩
      have kb3 : KB [] s.heap h3 := fun b o z q => hk3 b o (sw b o q) (hk2 b o (sw b o q) (kb' b o z q))
      have N3 : h3.Ns H2.objs.size m' := hn'.at' fun o q => hk3 _ o Cw (hk2 _ o Cw q)
      have hacc3 : h3.PlainList h1.objs.size ys := hacc'.at fun o q => hk3 _ o Dw (hk2 _ o Dw q)
      have C0 := (C.ext kb3).comp0 (scope := scope) hc ⟨newC.1, newC.2.1⟩ N3 hu hy hyr
      have K0 : EnvOk (compEnvC scope [("wanted", c)] H2.objs.size env) := K.comp hkind
      refine wpAny_assign_Tuple (s := { s with heap := h3, toks := tk2 }) hh hT3 rfl rfl fun h4 hx4 => ?_
      have kb4 := KB.of_ext hx4
      refine wpAny_assignInOrder_more (assign_Name (storeA_ok (s := { s with heap := h4, toks := tk2 }) (env := compEnvC scope [("wanted", c)] H2.objs.size env) (v := .int i (some (i, i))) (lookup_relabel_local hxa) K0 (C0.ext kb4) (vr_int ⟨Int.le_refl _, Int.le_refl _⟩) fun h5 tk5 C5 kb5 _ => ?_))
      rw [tn] at kb5
      refine wpAny_assignInOrder_more (assign_Name (storeA_ok (s := { s with heap := h5, toks := tk5 }) (env := compEnvC scope [("wanted", c)] H2.objs.size env) (v := oneStr cc) (lookup_relabel_local hxn) K0 C5 (by unfold oneStr; simp only [VR]; exact ⟨_, rfl⟩) fun h6 tk6 C6 kb6 _ => wpAny_pure ?_))
      rw [tn] at kb6
      refine forIn_one _ (wpAny_mono (test H2.objs.size i { s with heap := h6, toks := tk6 } _ hlt K0 ⟨cc, C6⟩) (fun ok s₄ h₄ => ?_) fun _ _ z => z)
      obtain ⟨h7, tk7, rfl, kb7⟩ := h₄
      have C7 := C6.ext kb7
      have kb37 : KB [H2.objs.size] h3 h7 := fun b o z q => kb7 b o (fun z => nomatch z) (kb6 b o z (kb5 b o z (kb4 b o (fun z => nomatch z) q)))
      have sC : ∀ b o, s.heap.get? b = some o → b ∉ [H2.objs.size] := fun b o q z => by
        rw [List.mem_singleton.mp z] at q
        exact absurd (lts _ o q) (Nat.not_lt.mpr (Nat.le_trans (Nat.le_of_lt szs) hCle))
      have kbs7 : KB [] s.heap h7 := fun b o z q => kb37 b o (sC b o q) (kb3 b o z q)
      have st7 := W.frame _ _ h7 hst3 fun b hb o q => kb37 b o (fun z => Cw (List.mem_singleton.mp z ▸ hb)) q
      have hacc7 := plain_kb hacc3 kb37 (by simpa using hDC)
      obtain ⟨m7, N7, _⟩ := C7.ns
      have N7 : h7.Ns H2.objs.size m7 := N7
      cases ok with
      | true =>
        simp only [if_true]
        refine nameA_ok (s := { s with heap := h7, toks := tk7 }) (v := oneStr cc) ?_ K0 C7 fun rv hv => ?_
        · show nameA _ (relabel scope env) _ _ = _
          unfold nameA
          rw [if_neg (by decide), show (relabel scope env).names.lookup ("name" : Str) = some .local from lookup_relabel_local hxn]
          rfl
        · have lys : ys.size ≤ 8 := by have := vrs_len vcs; rw [List.length_map] at this; simp at this; omega
          refine wpAny_list_append_plain (s := { s with heap := h7, toks := tk7 }) (hsz := Nat.le_trans lys (by rw [sizeLine_eq]; exact Nat.le_of_ble_eq_true rfl)) hacc7 fun h8 hl8 sb8 => ?_
          have sD : ∀ b o, s.heap.get? b = some o → b ≠ h1.objs.size := fun b o q => Nat.ne_of_lt (Nat.lt_trans (lts b o q) szs)
          refine ⟨8 + 1 - (i + 1), by omega, h8, tk7, _, ys.push rv, i + 1, rfl, W.frame _ _ h8 st7 fun b hb o q => sb8.extBut b o (fun z => Dw (z ▸ hb)) q, hl8, N7.sameBut sb8 (Ne.symm hDC), fun b o z q => sb8.extBut b o (sD b o q) (kbs7 b o z q), ⟨cs ++ [cc], by simp; exact lcs, ?_⟩, hlt, rfl⟩
          rw [Array.toList_push, List.map_append]
          exact vrs_snoc (ones_any _ _ vcs) (by unfold oneStr at hv ⊢; simpa only [VR] using hv)
      | false =>
        simp only [Bool.false_eq_true, if_false]
        exact ⟨8 + 1 - (i + 1), by omega, h7, tk7, _, ys, i + 1, rfl, st7, hacc7, N7, kbs7, ⟨cs, Nat.le_succ_of_le lcs, ones_any _ _ vcs⟩, hlt, rfl⟩
    · have hin : i = 8 := by omega
      subst hin
      refine W.done _ _ _ hst' fun h2 tk2 hk2 => ?_
      have kb2 : KB [] s.heap h2 := fun b o z q => hk2 b o (sw b o q) (kb' b o z q)
      have hacc2 : h2.PlainList h1.objs.size ys := hacc'.at fun o q => hk2 _ o Dw q
      refine ⟨m', hn'.at' fun o q => hk2 _ o Cw q, fun h3 sb => ?_⟩
      have kb3 : KB [] s.heap h3 := fun b o z q => sb.extBut b o (fun zz => by rw [zz] at q; exact absurd (lts _ o q) (Nat.not_lt.mpr (Nat.le_trans (Nat.le_of_lt szs) hCle))) (kb2 b o z q)
      obtain ⟨mm, hm⟩ := hacc2
      refine k _ h3 tk2 cs lcs ?_ (C.ext kb3) kb3
      simp only [VR]
      exact ⟨h1.objs.size, ys.toList, mm, rfl, newD.1, by rw [sb.2 _ hDC, hm], ones_any _ _ vcs⟩
  exact codeAny_compStart_list (loop _ rfl) (W.self 0 _ _ _ ⟨⟨_, old _ _ en1⟩, by obtain ⟨o, a, r⟩ := it1; exact ⟨o, old _ _ a, r⟩⟩ (loop _ rfl))
end
end Mine

namespace Mine
open PySem PySem.W PySem.Calls PyProof.Rows

section
variable {prog : Program} {w : World} {A : Around} {E : Value → Shared → Prop} {s : Shared} {D D2 : Dm} {g : Heap} {σ σ' : CS} {env : Env} {e : List (Str × V)}

theorem itemLI {value slice : PySem.Expr} {a : Addr} {n i : Nat} {xs : List Int} {t : Tok} {Q : Value → Shared → Prop} (hs : notSlice slice = true) (x : LI s.heap a n xs) (hi : i < n) (hn : n ≤ 1000) (k : ∀ t, Q (.int (xs.getD i 0) t) s) :
    wpAny (model prog w) A (subscriptTail value slice (.ref a) (.int i t)) Q E s := by
  obtain ⟨vs, u, hl, hx, hn'⟩ := x.item hi
  exact tail_any hl.typeIs slot_list_getitem.lookup (wpAny_getItem_list hl (by omega) (by omega) (by simpa using hx) (k _)) (subscripted_of hs _ _)

theorem Cx.sides {h h' : Heap} {as : List Addr} (C : Cx w D g h env e σ) (hcp : D.cpu = none) (x : ∀ I ∈ as, Side g h D I) (k : KB as h h') : Cx w D g h' env e σ ∧ SeqKeep D h h' := by
  have dat : ∀ b ∈ as, ∃ o fs, h.get? b = some o ∧ o.data = .fields fs := fun b hb => (x b hb).at_
  have sk : SeqKeep D h h' := fun a T rvs n na q => k a _ (fun z => by
    obtain ⟨o, fs, x1, x2⟩ := dat a z
    rw [x1] at q
    cases q
    cases x2) q
  refine ⟨?_, sk⟩
  obtain ⟨m, N, hm⟩ := C.ns
  have nl : env.locals ∉ as := by
    intro q
    obtain ⟨o, fs, x1, x2⟩ := dat _ q
    obtain ⟨o', es, ep, a', b', _⟩ := N
    rw [x1] at a'
    cases a'
    rw [b'] at x2
    cases x2
  refine ⟨C.gd, ⟨fun b o q => k b o (fun z => by have := (x b z).gI; rw [this] at q; cases q) (C.sr.keep b o q), C.sr.off, fun W hW => by (rw [hcp] at hW; cases hW), fun b hb => ?_⟩, C.off, C.nm, C.inj, m, nsAt2 N fun o => k _ _ nl, fun y v q => ?_⟩
  · obtain ⟨o, ho⟩ := Option.isSome_iff_exists.mp (C.sr.ext b hb)
    rw [k b o (fun z => (x b z).nI (muts_ext hb)) ho]
    rfl
  · obtain ⟨rv, a, b⟩ := hm y v q
    refine ⟨rv, a.keeps fun c v n z => ?_, VR.keeps sk _ _ b⟩
    refine IsCell.kb z k fun hc => ?_
    obtain ⟨o', z1, z2⟩ := z
    obtain ⟨o, fs, x1, x2⟩ := dat c hc
    rw [x1] at z1
    cases z1
    rw [z2] at x2
    cases x2

/-- the last loop: what is wanted is the same -/
theorem lastFor_ok {R : Result → Shared → Prop} {p1 p2 p3 q1 q2 q3 q4 q5 q6 q7 q8 q9 q10 q11 q12 q13 q14 q15 q16 : Pos} {kk k1 k2 : Nat} {ret : List Stmt} {I it rF kF rD kD : Addr} {tt : Tok} {nm : Str} {σF σD : CS} {fF fD : Int} (a : AOk A 20) (hcp : D.cpu = none) (K : EnvOk env) (C : Cx w D g s.heap env e σ)
    (W : WalksT prog w A I [I, it] [I, it] 8 (fun i vals => ∃ t x, (∃ c u, (Str.ofString "BCDEHLFA").cps[i]? = some c ∧ x = .str ⟨#[c]⟩ u) ∧ vals = #[.int i t, x])
        (fun i h => (∃ old, IsEnum h I it i old) ∧ h.IsStrIter it "str_ascii_iterator" "BCDEHLFA" tt i)
        (fun i T h => (∃ x, IsEnumOut h I it ((i : Int) + 1) x T) ∧ h.IsStrIter it "str_ascii_iterator" "BCDEHLFA" tt (i + 1) ∧ T ≠ I ∧ T ≠ it))
    (gI : g.get? I = none) (git : g.get? it = none) (nI : I ∉ muts D) (nit : it ∉ muts D) (hst : (∃ old, IsEnum s.heap I it (0 : Nat) old) ∧ s.heap.IsStrIter it "str_ascii_iterator" "BCDEHLFA" tt 0)
    (la : env.scope.names.lookup ("at" : Str) = some .local) (ln : env.scope.names.lookup ("name" : Str) = some .local)
    (hnm : ∀ e' : List (Str × V), nameA w.params env.scope e' "names" = e'.lookup ("names" : Str) ∧ nameA w.params env.scope e' "found" = e'.lookup ("found" : Str) ∧ nameA w.params env.scope e' "due" = e'.lookup ("due" : Str) ∧ nameA w.params env.scope e' "at" = e'.lookup ("at" : Str) ∧ nameA w.params env.scope e' "name" = e'.lookup ("name" : Str))
    (e1 : e.lookup ("names" : Str) = some (.str nm)) (e2 : e.lookup ("found" : Str) = some (.tup [.ref rF, .ref kF, .int fF none])) (e3 : e.lookup ("due" : Str) = some (.tup [.ref rD, .ref kD, .int fD none]))
    (HF : LI s.heap rF 8 σF.R) (HD : LI s.heap rD 8 σD.R) (agree : ∀ i c, letters[i]? = some c → has nm c = true → σF.R.getD i 0 = σD.R.getD i 0)
    (k : ∀ h' tk e', Cx w D g h' env e' σ → e'.lookup ("found" : Str) = some (.tup [.ref rF, .ref kF, .int fF none]) → e'.lookup ("due" : Str) = some (.tup [.ref rD, .ref kD, .int fD none]) → (∀ a n xs, a ≠ I → a ≠ it → LI s.heap a n xs → LI h' a n xs) → R (.ok .next) { s with heap := h', toks := tk }) :
    codeAny (model prog w) A (.forLoop (.Tuple [.Name "at" p1, .Name "name" p2] kk p3) (.ref I)
      [.If (.BoolOp .And [.Compare (.Name "name" q1) [.In] [.Name "names" q2] q3,
        .Compare (.Subscript (.Subscript (.Name "found" q4) (.Constant (.int 0) k1 q5) q6) (.Name "at" q7) q8) [.NotEq] [.Subscript (.Subscript (.Name "due" q9) (.Constant (.int 0) k2 q10) q11) (.Name "at" q12) q13] q14] q15) ret [] q16] [] env) R s := by
  have tn := tch_nil hcp
  have rFne : ∀ {h : Heap} {a : Addr} {n : Nat} {xs : List Int}, LI h a n xs → ∀ {b : Addr} {o : Obj} {fs : Array Value}, h.get? b = some o → o.data = .fields fs → a ≠ b := by
    rintro h a n xs ⟨_, _, vs, ⟨o', l1, _, m, l2⟩, _⟩ b o fs q1 q2 rfl
    rw [l1] at q1
    cases q1
    rw [l2] at q2
    cases q2
  refine codeAny_forLoop_any
    (fun k s' => ∃ h' tk e' i, s' = { s with heap := h', toks := tk } ∧ Cx w D g h' env e' σ ∧ e'.lookup ("names" : Str) = some (.str nm) ∧ e'.lookup ("found" : Str) = some (.tup [.ref rF, .ref kF, .int fF none]) ∧ e'.lookup ("due" : Str) = some (.tup [.ref rD, .ref kD, .int fD none]) ∧
      ((∃ old, IsEnum h' I it (i : Nat) old) ∧ h'.IsStrIter it "str_ascii_iterator" "BCDEHLFA" tt i) ∧ (∀ a n xs, a ≠ I → a ≠ it → LI s.heap a n xs → LI h' a n xs) ∧ i ≤ 8 ∧ k = 8 + 1 - i) ?_ (8 + 1)
    ⟨s.heap, s.toks, e, 0, rfl, C, e1, e2, e3, hst, fun _ _ _ _ _ z => z, Nat.zero_le _, rfl⟩
  rintro k' s' ⟨H, tk, e', i, rfl, C', e1', e2', e3', hst', keep', hi, rfl⟩
  obtain ⟨⟨old0, hen⟩, hsi⟩ := hst
  have nF1 : rF ≠ I := rFne HF hen rfl
  have nD1 : rD ≠ I := rFne HD hen rfl
  obtain ⟨os, hs1, hs2, hs3⟩ := hsi
  have nF2 : rF ≠ it := rFne HF hs1 hs3
  have nD2 : rD ≠ it := rFne HD hs1 hs3
  have sideOf : ∀ {h : Heap}, (∃ o fs, h.get? I = some o ∧ o.data = .fields fs) → (∃ o fs, h.get? it = some o ∧ o.data = .fields fs) → ∀ b ∈ [I, it], Side g h D b := by
    intro h d1 d2 b hb
    simp only [List.mem_cons, List.not_mem_nil, or_false] at hb
    rcases hb with rfl | rfl
    · exact ⟨d1, gI, nI⟩
    · exact ⟨d2, git, nit⟩
  have dSt : ∀ {h : Heap} {j : Int} {jn : Nat} {old}, IsEnum h I it j old → h.IsStrIter it "str_ascii_iterator" "BCDEHLFA" tt jn → (∃ o fs, h.get? I = some o ∧ o.data = .fields fs) ∧ (∃ o fs, h.get? it = some o ∧ o.data = .fields fs) := by
    rintro h j jn old z1 ⟨o, z2, _, z3⟩
    exact ⟨⟨_, _, z1, rfl⟩, ⟨o, _, z2, z3⟩⟩
  have dMid : ∀ {h : Heap} {j : Int} {jn : Nat} {xx : Value} {T : Addr}, IsEnumOut h I it j xx T → h.IsStrIter it "str_ascii_iterator" "BCDEHLFA" tt jn → (∃ o fs, h.get? I = some o ∧ o.data = .fields fs) ∧ (∃ o fs, h.get? it = some o ∧ o.data = .fields fs) := by
    rintro h j jn old T z1 ⟨o, z2, _, z3⟩
    exact ⟨⟨_, _, z1, rfl⟩, ⟨o, _, z2, z3⟩⟩
  have nin : ∀ {b : Addr}, b ≠ I → b ≠ it → b ∉ [I, it] := fun n1 n2 q => by
    simp only [List.mem_cons, List.not_mem_nil, or_false] at q
    exact q.elim n1 n2
  have HFH := keep' rF 8 σF.R nF1 nF2 HF
  have HDH := keep' rD 8 σD.R nD1 nD2 HD
  obtain ⟨⟨oldi, heni⟩, hsii⟩ := hst'
  obtain ⟨d1, d2⟩ := dSt heni hsii
  by_cases hlt : i < 8
  · refine W.item i _ _ _ hlt ⟨⟨oldi, heni⟩, hsii⟩ fun T0 vals h2 tk2 hP nT hT hM hk2 => ?_
    obtain ⟨ti, xv, ⟨cc, uu, hcc, rfl⟩, rfl⟩ := hP
    obtain ⟨C2, sk2⟩ := C'.sides hcp (sideOf d1 d2) (fun b o n q => hk2 b o n q)
    have apT := W.apart _ _ _ hM
    obtain ⟨⟨xo, hM1⟩, hM2, _, _⟩ := hM
    obtain ⟨d3, d4⟩ := dMid hM1 hM2
    refine W.go _ _ _ i T0 _ _ _ ⟨⟨xo, hM1⟩, hM2, fun z => apT (by simp [z]), fun z => apT (by simp [z])⟩ fun h3 hst3 hk3 => ?_
    obtain ⟨C3, sk3⟩ := C2.sides hcp (sideOf d3 d4) (fun b o n q => hk3 b o n q)
    have hT3 : h3.IsTuple T0 #[.int i ti, .str ⟨#[cc]⟩ uu] := by
      obtain ⟨o, q1, q2⟩ := hT
      exact ⟨o, hk3 _ _ apT q1, q2⟩
    have keep3 : ∀ a n xs, a ≠ I → a ≠ it → LI s.heap a n xs → LI h3 a n xs := fun a n xs n1 n2 z => ((keep' a n xs n1 n2 z).kb (as := [I, it]) (fun b o n q => hk2 b o n q) (nin n1 n2)).kb (as := [I, it]) (fun b o n q => hk3 b o n q) (nin n1 n2)
    refine wpAny_assign_Tuple (s := { s with heap := h3, toks := tk2 }) a.hand hT3 rfl rfl fun h4 hx4 => ?_
    have kb4 := KB.of_ext hx4
    have C4 := C3.ext kb4
    refine wpAny_assignInOrder_more (assign_Name (storeA_ok (s := { s with heap := h4, toks := tk2 }) (v := .int i (some (i, i))) la K C4 (vr_int ⟨Int.le_refl _, Int.le_refl _⟩) fun h5 tk5 C5 kb5 _ => ?_))
    rw [tn] at kb5
    refine wpAny_assignInOrder_more (assign_Name (storeA_ok (s := { s with heap := h5, toks := tk5 }) (v := oneStr cc) ln K C5 (by unfold oneStr; simp only [VR]; exact ⟨_, rfl⟩) fun h6 tk6 C6 kb6 _ => wpAny_pure ?_))
    rw [tn] at kb6
    have kn36 : KN h3 h6 := (KN.of_nil kb4).trans ((KN.of_loc C4 kb5).trans (KN.of_loc C5 kb6))
    have keep6 : ∀ a n xs, a ≠ I → a ≠ it → LI s.heap a n xs → LI h6 a n xs := fun a n xs n1 n2 z => kn36.li (keep3 a n xs n1 n2 z)
    have hst6 : (∃ old, IsEnum h6 I it ((i + 1 : Nat) : Int) old) ∧ h6.IsStrIter it "str_ascii_iterator" "BCDEHLFA" tt (i + 1) := by
      obtain ⟨⟨ox, z1⟩, o, z2, z3, z4⟩ := hst3
      exact ⟨⟨ox, kn36 _ _ (.inr ⟨_, rfl⟩) z1⟩, o, kn36 _ _ (.inr ⟨_, z4⟩) z2, z3, z4⟩
    obtain ⟨nm1, nm2, nm3, nm4, nm5⟩ := hnm (putA "name" (oneStr cc) (putA "at" (.int i (some (i, i))) e'))
    -- the test
    refine wpAny_execs_cons (wpAny_If (wpAny_isTrue_BoolOp (wpAny_allTrue_And_cons (wpAny_isTrue_Compare1 (nameA_ok (s := { s with heap := h6, toks := tk6 }) (v := oneStr cc) (nm5.trans rfl) K C6 fun ra ha => nameA_ok (s := { s with heap := h6, toks := tk6 }) (v := .str nm) (nm1.trans e1') K C6 fun rb hb => ?_)))))
    have ha0 := ha
    unfold oneStr at ha
    simp only [VR] at ha hb
    obtain ⟨ta, rfl⟩ := ha
    obtain ⟨tb, rfl⟩ := hb
    refine PyProof.Rows.in_str (wpAny_truthy_bool ?_)
    have hh : decide (cc ∈ nm.cps.toList) = has nm cc := by rw [Bool.eq_iff_iff, has_mem, decide_eq_true_eq]
    rw [StrLaws.found_one, hh]
    cases hb : has nm cc with
    | false =>
      simp only [Bool.false_eq_true, if_false]
      exact wpAny_execs_nil (wpAny_execs_nil ⟨8 + 1 - (i + 1), by omega, h6, tk6, _, i + 1, rfl, C6, e1', e2', e3', hst6, keep6, hlt, rfl⟩)
    | true =>
      simp only [if_true]
      have hcl : letters[i]? = some cc := by
        have hL : ∀ j : Nat, j < 8 → (Str.ofString "BCDEHLFA").cps[j]? = letters[j]? := by decide
        rw [← hL i hlt]; exact hcc
      refine wpAny_allTrue_And_cons (wpAny_isTrue_Compare1 (Subscript_ (Subscript_ (nameA_ok (s := { s with heap := h6, toks := _ }) (nm2.trans e2') K C6 fun ro ho => wpAny_Constant_int (subA_ok (σ := σ) (v := .ref rF) rfl rfl ho (vr_int (g := some (0, 0)) ⟨Int.le_refl _, Int.le_refl _⟩) C6.sr fun rv tk7 hv => nameA_ok (s := { s with heap := h6, toks := tk7 }) (nm4.trans rfl) K C6 fun ri hri => ?_)))))
      simp only [VR] at hv hri
      subst hv
      obtain ⟨⟨tri, rfl⟩, _⟩ := hri
      refine itemLI (s := { s with heap := h6, toks := tk7 }) rfl (keep6 rF 8 σF.R nF1 nF2 HF) hlt (by decide) fun tF => Subscript_ (Subscript_ (nameA_ok (s := { s with heap := h6, toks := tk7 }) (nm3.trans e3') K C6 fun ro2 ho2 => wpAny_Constant_int (subA_ok (σ := σ) (v := .ref rD) rfl rfl ho2 (vr_int (g := some (0, 0)) ⟨Int.le_refl _, Int.le_refl _⟩) C6.sr fun rv tk8 hv => nameA_ok (s := { s with heap := h6, toks := tk8 }) (nm4.trans rfl) K C6 fun ri hri => ?_)))
      simp only [VR] at hv hri
      subst hv
      obtain ⟨⟨tri2, rfl⟩, _⟩ := hri
      refine itemLI (s := { s with heap := h6, toks := tk8 }) rfl (keep6 rD 8 σD.R nD1 nD2 HD) hlt (by decide) fun tD => ?_
      rw [agree i cc hcl hb]
      refine PyProof.Rows.ne_int (wpAny_truthy_bool ?_)
      simp only [bne_self_eq_false, Bool.false_eq_true, if_false]
      exact wpAny_execs_nil (wpAny_execs_nil ⟨8 + 1 - (i + 1), by omega, h6, tk8, _, i + 1, rfl, C6, e1', e2', e3', hst6, keep6, hlt, rfl⟩)
  · have hin : i = 8 := by omega
    subst hin
    refine W.done _ _ _ ⟨⟨oldi, heni⟩, hsii⟩ fun h2 tk2 hk2 => wpAny_execs_nil ?_
    obtain ⟨C2, sk2⟩ := C'.sides hcp (sideOf d1 d2) (fun b o n q => hk2 b o n q)
    exact k h2 tk2 e' C2 e2' e3' fun a n xs n1 n2 z => (keep' a n xs n1 n2 z).kb (as := [I, it]) (fun b o n q => hk2 b o n q) (nin n1 n2)
end
end Mine

namespace Mine
open PySem PySem.W PySem.Calls PyProof.Rows

/-! the plain law's last words -/
theorem maskL_len (x : Str) : ∀ (cs : List Nat) (R : List Int), R.length = cs.length → (maskL x cs R).length = cs.length
  | [], [], _ => rfl
  | [], _ :: _, h => by simp at h
  | _ :: _, [], h => by simp at h
  | c :: cs, r :: R, h => by
    unfold maskL
    simp only [List.length_cons, maskL_len x cs R (by simpa using h)]
theorem inner_some {P : Params} {o : Ord} {σ : CS} (ho : o ∈ ords) (hl : σ.R.length = 8) : (inner P o σ).isSome = true := by
  have h := foot_caA (aP := 0) (σ := ⟨masked o.rd σ.R, cond (has o.rd 77 || has o.wr 77) σ.M [], 0⟩) P ho (by unfold masked; exact maskL_len _ _ _ hl)
  unfold inner runP
  rw [h]
  rfl
theorem runs_len {P : Params} : ∀ (os : List Ord) (σ : CS), (runs P os σ).R.length = σ.R.length
  | [], _ => rfl
  | o :: r, σ => by
    show (runs P r (step P o σ)).R.length = _
    rw [runs_len r, step_len]
theorem runs_append {P : Params} (a b : List Ord) (σ : CS) : runs P (a ++ b) σ = runs P b (runs P a σ) := by
  unfold runs; rw [List.foldl_append]
theorem runs_swap {P : Params} {a b : List Ord} {x y : Ord} {σ : CS} (h : Apart x y) (hl : σ.R.length = 8) : runs P (a ++ [y, x] ++ b) σ = runs P (a ++ [x, y] ++ b) σ := by
  rw [runs_append, runs_append, runs_append, runs_append]
  congr 1
  exact (step_swap h (runs P a σ) (by rw [runs_len, hl])).symm
theorem split_at {x y : Ord} : ∀ {ch : List Ord} {i : Nat}, ch[i]? = some x → ch[i + 1]? = some y → ch = ch.take i ++ [x, y] ++ ch.drop (i + 2)
  | [], _, h, _ => by simp at h
  | [_], 0, _, h => by simp at h
  | a :: b :: r, 0, h1, h2 => by
    simp only [List.getElem?_cons_zero, List.getElem?_cons_succ, Option.some.injEq, Nat.zero_add] at h1 h2
    subst h1 h2
    rfl
  | c :: r, i + 1, h1, h2 => by
    have := split_at (ch := r) (i := i) (by simpa using h1) (by simpa using h2)
    rw [List.take_succ_cons, List.drop_succ_cons]
    simp only [List.cons_append]
    rw [← this]

/-- an exchange of neighbours in the list -/
theorem runs_exchange {P : Params} {ch : List Ord} {i : Nat} {x y : Ord} {σ : CS} (hx : ch[i]? = some x) (hy : ch[i + 1]? = some y) (h : Apart x y) (hl : σ.R.length = 8) : runs P (ch.take i ++ [y, x] ++ ch.drop (i + 2)) σ = runs P ch σ := by
  rw [runs_swap h hl, ← split_at hx hy]

section
variable {prog : Program} {w : World} {A : Around} {E : Value → Shared → Prop} {s : Shared} {D D2 : Dm} {g : Heap} {σ σ' : CS} {env : Env} {e : List (Str × V)}

/-- the same frame with more mutable objects, cells too -/
theorem Cx.conv2 {h : Heap} {e2 : List (Str × V)} (C : Cx w D g h env e σ) (S : SR g D2 σ' h) (nm : env.locals ∉ muts D2) (cR : CellsR D2 g h env)
    (he : ∀ x v2, e2.lookup x = some v2 → ∃ v, e.lookup x = some v ∧ ∀ rv, VR D h v rv → VR D2 h v2 rv) : Cx w D2 g h env e2 σ' := by
  obtain ⟨m, N, hm⟩ := C.ns
  refine ⟨C.gd, S, C.off, nm, C.inj, m, N, fun x v2 q => ?_⟩
  obtain ⟨v, q1, q2⟩ := he x v2 q
  obtain ⟨rv, a, b⟩ := hm x v q1
  refine ⟨rv, ?_, q2 rv b⟩
  unfold Holds at a ⊢
  split at a
  · exact a
  · obtain ⟨c, a1, a2, a3⟩ := a
    exact ⟨c, a1, a2, (cR x c a1).2.1⟩
  · exact a.elim

theorem Feed.cast {h : Heap} {fA cA : Addr} {cells : List Int} {N M : Int} (F : Feed h fA cA cells N) (q : N = M) : Feed h fA cA cells M := q ▸ F
/-- what the draws keep -/
structure DJ (D : Dm) (g h0 : Heap) (σ : CS) (fA cA : Addr) (cells : List Int) (N : Int) (h : Heap) : Prop where
  kb : KB (muts D) h0 h
  sr : SR g D σ h
  feed : Feed h fA cA cells N
theorem isList_lt {h : Heap} {a : Addr} {items : Array Value} (x : h.IsList a items) : a < h.objs.size := by
  obtain ⟨o, q, _⟩ := x
  exact Heap.lt_size q
theorem DJ.stab {h0 h h' : Heap} {fA cA : Addr} {cells : List Int} {N M : Int} (x : DJ D g h0 σ fA cA cells N h) (hcp : D.cpu = none) (S0 : SR g D σ h0) (F0 : Feed h0 fA cA cells M)
    (k : ∀ b o, b < h0.objs.size ∨ (∃ vs n, o = seqObj "tuple" vs n) → h.get? b = some o → h'.get? b = some o) : DJ D g h0 σ fA cA cells N h' := by
  obtain ⟨x1, x2, ⟨turn, tk, f1, f2, f3⟩, ⟨vs, f4, f5⟩, f6⟩ := x
  obtain ⟨⟨_, _, z1, _⟩, ⟨_, z2, _⟩, _⟩ := F0
  refine ⟨fun b o n q => k b o (.inl (Heap.lt_size q)) (x1 b o n q), ⟨fun b o q => k b o (.inl (Heap.lt_size (S0.keep b o q))) (x2.keep b o q), x2.off, fun W hW => by (rw [hcp] at hW; cases hW), fun b hb => ?_⟩, ⟨turn, tk, ?_, f2, f3⟩, ⟨vs, ?_, f5⟩, f6⟩
  · obtain ⟨o, ho⟩ := Option.isSome_iff_exists.mp (x2.ext b hb)
    obtain ⟨o0, ho0⟩ := Option.isSome_iff_exists.mp (S0.ext b hb)
    rw [k b o (.inl (Heap.lt_size ho0)) ho]; rfl
  · obtain ⟨o, q, r⟩ := f1
    exact ⟨o, k _ _ (.inl (isList_lt z1)) q, r⟩
  · obtain ⟨o, q, r⟩ := f4
    exact ⟨o, k _ _ (.inl (isList_lt z2)) q, r⟩
theorem vrs_ord_keep {h h' : Heap} (k : ∀ a vs n, h.get? a = some (seqObj "tuple" vs n) → h'.get? a = some (seqObj "tuple" vs n)) : ∀ {os : List Ord} {ys : List Value}, VRs D h (os.map ordVal) ys → VRs D h' (os.map ordVal) ys
  | [], _, x => by simpa only [List.map_nil, VRs] using x
  | o :: os, _, x => by
    simp only [List.map_cons, VRs] at x ⊢
    obtain ⟨rv, r, rfl, a, b⟩ := x
    refine ⟨rv, r, rfl, ?_, vrs_ord_keep k b⟩
    unfold ordVal at a ⊢
    simp only [VR, VRs] at a ⊢
    obtain ⟨T, rvs, m, e1, nT, hT, r⟩ := a
    exact ⟨T, rvs, m, e1, nT, k _ _ _ hT, r⟩

theorem heldTurns {A : Around} {n : Nat} {fA cA : Addr} {cells : List Int} {N : Int} {scope : Scope} {c : Addr} {x : Str} {p1 p2 p3 p4 : Pos} {kk : Nat} (a : AOk A (n + 20)) (hcp : D.cpu = none) (hf : fA ∈ D.ext) (hcA : cA ∉ muts D) (C : Cx w D g s.heap env e σ) (F : Feed s.heap fA cA cells N) (hN : N ≤ 100) (hlen : cells.length ≤ 1000)
    (n1 : ∀ e' : List (Str × V), nameA w.params (relabel scope env) e' "_law_next" = some (.ref 435)) (n2 : (relabel scope env).names.lookup ("feed" : Str) = some .cell) (hx : x ≠ "feed") :
    RTurns prog w A D g s.heap σ env scope "feed" c (.ref fA) x (.Call (.Name "_law_next" p1) [.Name "feed" p2, .Constant (.int 256) kk p3] [] p4) 8 (fun i ys h => DJ D g s.heap σ fA cA cells (N + i) h ∧ i ≤ 8 ∧ ∃ xs, IntsAre ys xs ∧ xs.length = i ∧ ∀ x ∈ xs, 0 ≤ x ∧ x ≤ 255) where
  kb := fun i ys h j => ⟨j.1.kb, j.1.sr⟩
  stab := fun i ys h h' j k => ⟨j.1.stab hcp C.sr F k, j.2⟩
  body := by
    rintro cA' i ys s₃ E' hi ⟨dj, hi8, xs, I1, I2, I3⟩ K' Cc
    refine nextCall_ok (N := N + i) a hcp hf hcA (n1 _) ?_ K' Cc dj.feed (by omega) hlen (by decide) fun v t h' tk v0 v1 F' C' kb' => ?_
    · show nameA _ (relabel scope env) _ _ = _
      unfold nameA
      rw [if_neg (by decide), n2]
      have : (("feed" : Str) == x) = false := by simpa using Ne.symm hx
      simp [List.lookup_cons, this]
    · refine ⟨h', tk, rfl, kb', ⟨dj.kb.trans kb', C'.sr, F'.cast (by omega)⟩, hi, xs ++ [v], ?_, by simp [I2], ?_⟩
      · exact IntsAre.append I1 (.cons v t .nil)
      · intro z hz
        rcases List.mem_append.mp hz with hz | hz
        · exact I3 z hz
        · rw [List.mem_singleton.mp hz]; exact ⟨v0, by omega⟩

theorem orderTurns {A : Around} {n many : Nat} {fA cA : Addr} {cells : List Int} {N : Int} {scope : Scope} {c : Addr} {x : Str} {p1 p2 p3 : Pos} (a : AOk A (n + 100)) (hcp : D.cpu = none) (hf : fA ∈ D.ext) (hcA : cA ∉ muts D) (C : Cx w D g s.heap env e σ) (F : Feed s.heap fA cA cells N) (hN : N ≤ 100) (hm : many ≤ 64) (hlen : cells.length ≤ 1000)
    (n1 : ∀ e' : List (Str × V), nameA w.params (relabel scope env) e' "_law_order" = some (.ref 449)) (n2 : (relabel scope env).names.lookup ("feed" : Str) = some .cell) (hx : x ≠ "feed") :
    RTurns prog w A D g s.heap σ env scope "feed" c (.ref fA) x (.Call (.Name "_law_order" p1) [.Name "feed" p2] [] p3) many (fun i ys h => DJ D g s.heap σ fA cA cells (N + 3 * i) h ∧ i ≤ many ∧ ∃ os : List Ord, os.length = i ∧ (∀ o ∈ os, o ∈ ords) ∧ VRs D h (os.map ordVal) ys) where
  kb := fun i ys h j => ⟨j.1.kb, j.1.sr⟩
  stab := by
    rintro i ys h h' ⟨j1, j2, os, j3, j4, j5⟩ k
    exact ⟨j1.stab hcp C.sr F k, j2, os, j3, j4, vrs_ord_keep (fun a vs n q => k _ _ (.inr ⟨vs, n, rfl⟩) q) j5⟩
  body := by
    rintro cA' i ys s₃ E' hi ⟨dj, hi8, os, I1, I2, I3⟩ K' Cc
    have nf : nameA w.params (compEnvC scope [(("feed" : Str), c)] cA' env).scope [(x, .int i (some (i, i))), ("feed", .ref fA)] "feed" = some (.ref fA) := by
      show nameA _ (relabel scope env) _ _ = _
      unfold nameA
      rw [if_neg (by decide), n2]
      have : (("feed" : Str) == x) = false := by simpa using Ne.symm hx
      simp [List.lookup_cons, this]
    refine wpAny_Call_NameR (nameA_ok (n1 _) K' Cc fun rf hrf => ?_)
    simp only [VR] at hrf
    subst hrf
    refine callWith_K (K := KF w.params) (h₀ := g) Cc.gd.X (show keepIn (KF w.params) (.ref 449) = true by kernel_rfl) (spliced_more (nameA_ok nf K' Cc fun ro ho => spliced_none ?_)) rfl rfl
    simp only [VR] at ho
    subst ho
    refine ⟨Cc.gd.In Cc.sr, wpAny_call (order_ok (n := n) (N := N + 3 * i) a Cc.gd hcp hf hcA Cc.sr dj.feed (by omega) hlen fun o rv h' tk ho hv F' S' kb' => ?_)⟩
    refine ⟨h', tk, rfl, kb', ⟨dj.kb.trans kb', S', F'.cast (by omega)⟩, hi, os ++ [o], by simp [I1], ?_, ?_⟩
    · intro z hz
      rcases List.mem_append.mp hz with hz | hz
      · exact I2 z hz
      · rw [List.mem_singleton.mp hz]; exact ho
    · rw [List.map_append]
      exact vrs_snoc (VRs.keeps (.of_KBm kb') _ _ I3) hv
end
end Mine

namespace Mine
open PySem PySem.W PySem.Calls PyProof.Rows

section
variable {prog : Program} {w : World} {A : Around} {E : Value → Shared → Prop} {s : Shared} {D D2 : Dm} {g : Heap} {σ σ' : CS} {env : Env} {e : List (Str × V)}

theorem Cx.weak {h : Heap} {e2 : List (Str × V)} (C : Cx w D g h env e σ) (q : ∀ p ∈ e2, ∃ v, e.lookup p.1 = some v ∧ ∀ rv, VR D h v rv → VR D h p.2 rv) : Cx w D g h env e2 σ := by
  obtain ⟨m, N, hm⟩ := C.ns
  refine ⟨C.gd, C.sr, C.off, C.nm, C.inj, m, N, fun x v hl => ?_⟩
  obtain ⟨v1, q1, q2⟩ := q (x, v) (PySem.mem_of_lookup hl)
  obtain ⟨rv, a, b⟩ := hm x v1 q1
  exact ⟨rv, a, q2 rv b⟩

theorem comp_swaps {elt : PySem.Expr} {gens : List Comprehension} {scope : Scope} {pos py : Pos} {y : Str} {l : Nat} (K : EnvOk env) (hl : env.scope.names.lookup y = some .local) (h : (py.line == pos.line && !(scope.names.any fun (n, k) => n == y && (k == .local || k == .cell))) = true) :
    swapsWith (.ListComp elt gens scope pos) (some (.Name y py)) l env = pure true := by
  have hb : env.blockKind = .function := by
    unfold Env.blockKind
    rw [K.kind]
    rfl
  have hk : env.kindOf y = some .local := hl
  show (pure (env.blockKind == .function && env.kindOf y == some .local && py.line == pos.line && !(scope.names.any fun (n, k) => n == y && (k == .local || k == .cell))) : Sem Bool) = pure true
  rw [hb, hk]
  rw [Bool.and_eq_true] at h
  rw [h.1, h.2]
  rfl

theorem memTurns {A : Around} {n : Nat} {m : Int} {fA cA : Addr} {cells : List Int} {N : Int} {scope : Scope} {c : Addr} {elt : PySem.Expr} (a : AOk A 20) (hcp : D.cpu = none) (C : Cx w D g s.heap env e σ) (F : Feed s.heap fA cA cells N) (hm : 1 ≤ m ∧ m ≤ 16)
    (he : ∀ i : Int, evA w.params 20 (relabel scope env) [(("at" : Str), .int i (some (0, 64))), (("many" : Str), .int m (some (1, 16)))] σ elt = some (.int ((i * 37 + m * 11 + 5).fmod 256) (some (0, 255)), σ)) :
    RTurns prog w A D g s.heap σ env scope "many" c (.int m (some (1, 16))) "at" elt 64 (fun i ys h => DJ D g s.heap σ fA cA cells N h ∧ i ≤ 64 ∧ ∃ xs, IntsAre ys xs ∧ xs.length = i ∧ ∀ x ∈ xs, 0 ≤ x ∧ x ≤ 255) where
  kb := fun i ys h j => ⟨j.1.kb, j.1.sr⟩
  stab := fun i ys h h' j k => ⟨j.1.stab hcp C.sr F k, j.2⟩
  body := by
    rintro cA' i ys s₃ E' hi ⟨dj, hi8, xs, I1, I2, I3⟩ K' Cc
    have Cw : Cx w D g s₃.heap (compEnvC scope [(("many" : Str), c)] cA' env) [(("at" : Str), .int i (some (0, 64))), (("many" : Str), .int m (some (1, 16)))] σ := Cc.weak fun p hp => by
      simp only [List.mem_cons, List.not_mem_nil, or_false] at hp
      rcases hp with rfl | rfl
      · exact ⟨_, rfl, fun rv q => by simp only [VR] at q ⊢; obtain ⟨q1, _⟩ := q; exact ⟨q1, by omega, by omega⟩⟩
      · exact ⟨_, rfl, fun rv q => q⟩
    refine ev (n := 20) (he i) a K' Cw fun rv h' tk hv C' kb => ?_
    rw [tch_nil hcp] at kb
    simp only [VR] at hv
    obtain ⟨⟨t, rfl⟩, v0, v1⟩ := hv
    refine ⟨h', tk, rfl, kb.of_nil, ⟨dj.kb.trans kb.of_nil, C'.sr, dj.feed.kb kb (fun z => nomatch z) (fun z => nomatch z)⟩, hi, xs ++ [_], IntsAre.append I1 (.cons _ t .nil), by simp [I2], fun z hz => ?_⟩
    rcases List.mem_append.mp hz with hz | hz
    · exact I3 z hz
    · rw [List.mem_singleton.mp hz]; exact ⟨v0, v1⟩

end
end Mine

namespace Mine
open PySem PySem.W PySem.Calls PyProof.Rows

theorem pick_upto (vs : List Value) {k : Nat} (hk : k ≤ vs.length) : slicePick vs.toArray none (some (k : Int)) none = (vs.take k).toArray := by
  have e : sliceBounds none (some (k : Int)) none vs.toArray.size = (((0 : Nat) : Int), ((k : Nat) : Int), 1) := by
    simp only [sliceBounds, Option.getD_none, show (1 : Int) > 0 by decide, if_true, if_neg (show ¬ ((k : Int) < 0) by omega)]
    congr 1
    congr 1
    rw [List.size_toArray]
    omega
  rw [kmk_pick_nat _ e]
  show ((vs.drop 0).take (k - 0)).toArray = _
  rw [List.drop_zero, Nat.sub_zero]
theorem pick_from (vs : List Value) {k : Nat} (hk : k ≤ vs.length) : slicePick vs.toArray (some (k : Int)) none none = (vs.drop k).toArray := by
  have e : sliceBounds (some (k : Int)) none none vs.toArray.size = (((k : Nat) : Int), ((vs.toArray.size : Nat) : Int), 1) := by
    simp only [sliceBounds, Option.getD_none, show (1 : Int) > 0 by decide, if_true, if_neg (show ¬ ((k : Int) < 0) by omega)]
    congr 1
    rw [List.size_toArray]
    omega
  rw [kmk_pick_nat _ e]
  show ((vs.drop k).take (vs.toArray.size - k)).toArray = _
  rw [List.size_toArray, List.take_of_length_le (by rw [List.length_drop]; omega)]

section
variable {prog : Program} {w : World} {A : Around} {E : Value → Shared → Prop} {s : Shared} {D D2 : Dm} {g : Heap} {σ σ' : CS} {env : Env} {e : List (Str × V)}

theorem VRs.drop {h : Heap} : ∀ {vs : List V} {rvs : List Value} (k : Nat), VRs D h vs rvs → VRs D h (vs.drop k) (rvs.drop k)
  | _, _, 0, x => x
  | [], rvs, k + 1, x => by simp only [VRs] at x; subst x; simp [VRs]
  | v :: vs, rvs, k + 1, x => by
    simp only [VRs] at x
    obtain ⟨rv, r, rfl, a, b⟩ := x
    exact VRs.drop k b
theorem VRs.take {h : Heap} : ∀ {vs : List V} {rvs : List Value} (k : Nat), VRs D h vs rvs → VRs D h (vs.take k) (rvs.take k)
  | _, _, 0, x => by simp [VRs]
  | [], rvs, k + 1, x => by simp only [VRs] at x; subst x; simp [VRs]
  | v :: vs, rvs, k + 1, x => by
    simp only [VRs] at x
    obtain ⟨rv, r, rfl, a, b⟩ := x
    simp only [List.take_succ_cons, VRs]
    exact ⟨rv, _, rfl, a, VRs.take k b⟩

theorem SR.bare {h : Heap} (S : SR g D σ h) : SR g ⟨none, []⟩ σ h := ⟨S.keep, fun b hb => by simp [muts, tch] at hb, fun W hW => (by cases hW), fun b hb => (by simp at hb)⟩
theorem muts_bare {b : Addr} : b ∉ muts ⟨none, []⟩ := fun hb => by simp [muts, tch] at hb

/-- the run of the orders, called -/
theorem doneCall_ok {n : Nat} {ax : PySem.Expr} {p1 p2 p3 p4 : Pos} {aH aM : Addr} {os : List Ord} {R0 M0 : List Int} {Q : Value → Shared → Prop} (a : AOk A (n + 140)) (hcp : D.cpu = none) (hD : ∀ b ∈ muts D, ∃ x y, s.heap.IsList b #[x, y])
    (hnd : nameA w.params env.scope e "_law_done" = some (.ref 461)) (hnh : nameA w.params env.scope e "held" = some (.ref aH)) (hnm : nameA w.params env.scope e "memory" = some (.ref aM)) (K : EnvOk env) (C : Cx w D g s.heap env e σ)
    (hos : ∀ o ∈ os, o ∈ ords) (hlen : os.length ≤ 1000) (HH : LI s.heap aH 8 R0) (MM : LI s.heap aM 64 M0)
    (hs : starEach [ax, .Name "held" p2, .Name "memory" p3] env = (false, eval ax env) :: starEach [.Name "held" p2, .Name "memory" p3] env)
    (hax : ∀ Q' : Value → Shared → Prop, (∀ aO h1 tk1, KB [] s.heap h1 → OrdL D h1 aO os → Q' (.ref aO) { s with heap := h1, toks := tk1 }) → wpAny (model prog w) A (eval ax env) Q' E s)
    (k : ∀ aT h' tk, Done D h' aT (runs w.params os ⟨R0, M0, 0⟩) → Cx w D g h' env e σ → KB [] s.heap h' → Q (.ref aT) { s with heap := h', toks := tk }) :
    wpAny (model prog w) A (eval (.Call (.Name "_law_done" p1) [ax, .Name "held" p2, .Name "memory" p3] [] p4) env) Q E s := by
  refine wpAny_Call_NameR (nameA_ok hnd K C fun rf hrf => ?_)
  simp only [VR] at hrf
  subst hrf
  refine callWith_K (K := KF w.params) (h₀ := g) C.gd.X (show keepIn (KF w.params) (.ref 461) = true by kernel_rfl) (spliced_more (hax _ fun aO h1 tk1 kb1 OO1 => ?_) hs) hs rfl
  have C1 := C.ext kb1
  refine spliced_more (nameA_ok (s := { s with heap := h1, toks := tk1 }) hnh K C1 fun r1 q1 => spliced_more (nameA_ok (s := { s with heap := h1, toks := tk1 }) hnm K C1 fun r2 q2 => spliced_none ?_))
  simp only [VR] at q1 q2
  subst q1 q2
  refine ⟨C1.gd.In (s := { s with heap := h1, toks := tk1 }) C1.sr, wpAny_call (done_ok (D := ⟨none, []⟩) (s := { s with heap := h1, toks := tk1 }) a C1.gd rfl C1.sr.bare (OO1.wide hcp fun b hb => absurd hb muts_bare) hos hlen (HH.kb kb1 fun z => nomatch z) muts_bare (MM.kb kb1 fun z => nomatch z) muts_bare fun aT h2 tk2 dT _ kb2 => ?_)⟩
  have kb2 : KB [] h1 h2 := kb2
  have kb := kb1.trans kb2
  refine k aT h2 tk2 ?_ (C1.ext kb2) kb
  obtain ⟨_, r, kk, t, m, gT, _, _, lr, lk⟩ := dT
  have two : ∀ {b : Addr} {j : Nat} {xs : List Int}, 2 < j → LI h2 b j xs → b ∉ muts D := by
    intro b j xs hj l q
    obtain ⟨x, y, l2⟩ := hD b q
    obtain ⟨o, q1, _, n1, q2⟩ := isList_kb l2 kb (fun z => nomatch z)
    obtain ⟨vs, ⟨o', r1, _, n2, r2⟩, _, r3⟩ := l.isList
    rw [q1] at r1
    cases r1
    rw [q2] at r2
    injection r2 with r2 _
    have := congrArg Array.size r2
    simp at this
    omega
  refine ⟨fun q => ?_, r, kk, t, m, gT, two (by decide) lr, two (by decide) lk, lr, lk⟩
  obtain ⟨x, y, l2⟩ := hD aT q
  obtain ⟨o, q1, q2, _⟩ := isList_kb l2 kb (fun z => nomatch z)
  rw [gT] at q1
  cases q1
  simp at q2
end
end Mine

namespace Mine
open PySem PySem.W PySem.Calls PyProof.Rows

section
variable {prog : Program} {w : World} {A : Around} {E : Value → Shared → Prop} {s : Shared} {D D2 : Dm} {g : Heap} {σ σ' : CS} {env : Env} {e : List (Str × V)}

/-- neighbours exchanged -/
theorem swapped_ok {p1 p2 p3 p4 p5 p6 p7 p8 p9 p10 p11 p12 p13 p14 p15 p16 p17 p18 p19 p20 p21 : Pos} {k1 k2 : Nat} {aC : Addr} {ch : List Ord} {i : Nat} {r : Rng} {x y : Ord} {Q : Value → Shared → Prop} (K : EnvOk env) (C : Cx w D g s.heap env e σ)
    (hnc : nameA w.params env.scope e "changed" = some (.ref aC)) (hns : nameA w.params env.scope e "spot" = some (.int (i : Int) r)) (OO : OrdL D s.heap aC ch) (hx : ch[i]? = some x) (hy : ch[i + 1]? = some y) (hlen : ch.length ≤ 1000)
    (k : ∀ a' h' tk, KB [] s.heap h' → OrdL D h' a' (ch.take i ++ [y, x] ++ ch.drop (i + 2)) → Q (.ref a') { s with heap := h', toks := tk }) :
    wpAny (model prog w) A (eval (.BinOp (.BinOp (.Subscript (.Name "changed" p1) (.Slice none (some (.Name "spot" p2)) none p3) p4) .Add
      (.List [.Subscript (.Name "changed" p5) (.BinOp (.Name "spot" p6) .Add (.Constant (.int 1) k1 p7) p8) p9, .Subscript (.Name "changed" p10) (.Name "spot" p11) p12] p13) p14) .Add
      (.Subscript (.Name "changed" p15) (.Slice (some (.BinOp (.Name "spot" p16) .Add (.Constant (.int 2) k2 p17) p18)) none none p19) p20) p21) env) Q E s := by
  obtain ⟨offC, rvs, n0, hl, lenr, hv, get⟩ := OO.get
  obtain ⟨rx, hrx, vx⟩ := get i x hx
  obtain ⟨ry, hry, vy⟩ := get (i + 1) y hy
  have hl' := seq_list hl
  have li : i + 1 < ch.length := (List.getElem?_eq_some_iff.mp hy).1
  refine wpAny_BinOp (wpAny_BinOp (wpAny_Subscript_Slice (T := "list") list_getitem_lookup (nameA_ok hnc K C fun ro hro => wpAny_Slice (wpAny_pure (nameA_ok hns K C fun ru hru => wpAny_pure ?_)))))
  simp only [VR] at hro hru
  subst hro
  obtain ⟨⟨t, rfl⟩, _⟩ := hru
  refine ⟨(hl'.push _).typeIs, slice_ok hl' .none (.int _ _) .none (by decide) (by simp; omega) fun a1 h1 kb1 n1 hp1 => ?_⟩
  rw [pick_upto rvs (by omega)] at hp1
  have C1 := C.ext kb1
  have hl1 := isList_kb hl' kb1 (fun z => nomatch z)
  refine List_ (spliced_more (Subscript_ (nameA_ok (s := { s with heap := h1 }) hnc K C1 fun ro hro => wpAny_BinOp (nameA_ok (s := { s with heap := h1 }) hns K C1 fun ru hru => wpAny_Constant_int ?_))))
  simp only [VR] at hro hru
  subst hro
  obtain ⟨⟨t2, rfl⟩, _⟩ := hru
  refine PyProof.Rows.add_int ?_
  have e1 : ((i : Int) + 1).toNat = i + 1 := by omega
  have hry' : rvs.toArray[((i : Int) + 1).toNat]? = some ry := by rw [e1]; simpa using hry
  refine tail_any hl1.typeIs slot_list_getitem.lookup (wpAny_getItem_list (x := ry) hl1 (by omega) (by omega) hry' ?_) rfl
  refine spliced_more (Subscript_ (nameA_ok (s := { s with heap := h1, toks := _ }) hnc K C1 fun ro hro => nameA_ok (s := { s with heap := h1, toks := _ }) hns K C1 fun ru hru => ?_))
  simp only [VR] at hro hru
  subst hro
  obtain ⟨⟨t3, rfl⟩, _⟩ := hru
  have e2 : ((i : Int)).toNat = i := by omega
  have hrx' : rvs.toArray[((i : Int)).toNat]? = some rx := by rw [e2]; simpa using hrx
  refine tail_any hl1.typeIs slot_list_getitem.lookup (wpAny_getItem_list (x := rx) hl1 (by omega) (by omega) hrx' ?_) rfl
  refine spliced_none (wpAny_newList ?_ (by rw [sizeLine_eq]; exact Nat.le_of_ble_eq_true rfl))
  have kb2 := KB.push h1 { cls := .type "list", data := .seq #[ry, rx] }
  have hn2 : (h1.push { cls := .type "list", data := .seq #[ry, rx] }).get? h1.objs.size = some (seqObj "list" [ry, rx] 0) := Heap.get?_push_size _ rfl
  obtain ⟨m1, hp1'⟩ := hp1
  have hp2 : (h1.push { cls := .type "list", data := .seq #[ry, rx] }).get? a1 = some (seqObj "list" (rvs.take i) m1) := kb2 _ _ (fun z => nomatch z) hp1'
  refine PySem.P.add_list (s := { s with heap := _, toks := _ }) hp2 hn2 ?_ (by rw [sizeLine_eq]; have : (16777216 : Nat) = 2 ^ 24 := rfl; simp; omega)
  show wpAny _ _ (eval _ _) _ _ { s with heap := (h1.push { cls := .type "list", data := .seq #[ry, rx] }).push { cls := .type "list", data := .seq ((rvs.take i).toArray ++ [ry, rx].toArray) }, toks := _ }
  generalize h1.push { cls := .type "list", data := .seq #[ry, rx] } = h2 at *
  have kb3 := KB.push h2 { cls := .type "list", data := .seq ((rvs.take i).toArray ++ [ry, rx].toArray) }
  have hn3 : (h2.push { cls := .type "list", data := .seq ((rvs.take i).toArray ++ [ry, rx].toArray) }).get? h2.objs.size = some (seqObj "list" (rvs.take i ++ [ry, rx]) 0) := by
    rw [show seqObj "list" (rvs.take i ++ [ry, rx]) 0 = { cls := .type "list", data := .seq ((rvs.take i).toArray ++ [ry, rx].toArray) } by simp]
    exact Heap.get?_push_size _ rfl
  generalize h2.push { cls := .type "list", data := .seq ((rvs.take i).toArray ++ [ry, rx].toArray) } = h3 at *
  generalize h2.objs.size = a3 at *
  have kb03 : KB [] s.heap h3 := kb1.trans (kb2.trans kb3)
  have C3 := C.ext kb03
  have hl3 := isList_kb hl' kb03 (fun z => nomatch z)
  refine wpAny_Subscript_Slice (T := "list") list_getitem_lookup (nameA_ok (s := { s with heap := h3, toks := _ }) hnc K C3 fun ro hro => wpAny_Slice (wpAny_BinOp (nameA_ok (s := { s with heap := h3, toks := _ }) hns K C3 fun ru hru => wpAny_Constant_int ?_)))
  simp only [VR] at hro hru
  subst hro
  obtain ⟨⟨t4, rfl⟩, _⟩ := hru
  refine PyProof.Rows.add_int (wpAny_pure (wpAny_pure ?_))
  refine ⟨(hl3.push _).typeIs, slice_ok (s := { s with heap := h3, toks := _ }) hl3 (.int _ _) .none .none (by decide) (by simp; omega) fun a5 h5 kb5 n5 hp5 => ?_⟩
  have kb5 : KB [] h3 h5 := kb5
  rw [show ((i : Int) + 2) = ((i + 2 : Nat) : Int) by omega, pick_from rvs (by omega)] at hp5
  obtain ⟨m5, hp5'⟩ := hp5
  have hp5'' : h5.get? a5 = some (seqObj "list" (rvs.drop (i + 2)) m5) := hp5'
  have hn5 := kb5 _ _ (fun z => nomatch z) hn3
  refine PySem.P.add_list (s := { s with heap := h5, toks := _ }) hn5 hp5'' ?_ (by rw [sizeLine_eq]; have : (16777216 : Nat) = 2 ^ 24 := rfl; simp; omega)
  have kb6 := KB.push h5 { cls := .type "list", data := .seq ((rvs.take i ++ [ry, rx]).toArray ++ (rvs.drop (i + 2)).toArray) }
  have kb06 := kb03.trans (kb5.trans kb6)
  refine k _ _ _ kb06 ?_
  unfold OrdL
  simp only [VR]
  refine ⟨_, (rvs.take i ++ [ry, rx]) ++ rvs.drop (i + 2), 0, rfl, (C3.ext kb5).sr.new_mut, ?_, ?_⟩
  · rw [show seqObj "list" ((rvs.take i ++ [ry, rx]) ++ rvs.drop (i + 2)) 0 = { cls := .type "list", data := .seq ((rvs.take i ++ [ry, rx]).toArray ++ (rvs.drop (i + 2)).toArray) } by simp]
    exact Heap.get?_push_size _ rfl
  · rw [List.map_append, List.map_append, List.map_take, List.map_drop]
    have hv' := VRs.keeps (.of_KB kb06.of_nil) _ _ hv
    refine VRs.append (VRs.append (hv'.take i) ?_) (hv'.drop (i + 2))
    simp only [List.map_cons, List.map_nil, VRs]
    exact ⟨ry, _, rfl, VR.keeps (.of_KB kb06.of_nil) _ _ vy, rx, _, rfl, VR.keeps (.of_KB kb06.of_nil) _ _ vx, rfl⟩
end
end Mine

namespace Mine
open PySem PySem.W PySem.Calls PyProof.Rows

section
variable {prog : Program} {w : World} {A : Around} {E : Value → Shared → Prop} {s : Shared} {D D2 : Dm} {g : Heap} {σ σ' : CS} {env : Env} {e : List (Str × V)}

/-! sequences that are not to change stay -/
noncomputable def SQ (D : Dm) (h h' : Heap) : Prop := ∀ a o, (∃ vs n, o.data = .seq vs n) → a ∉ muts D → h.get? a = some o → h'.get? a = some o
theorem SQ.refl (h : Heap) : SQ D h h := fun _ _ _ _ q => q
theorem SQ.trans {h h' h'' : Heap} (x : SQ D h h') (y : SQ D h' h'') : SQ D h h'' := fun a o k n q => y a o k n (x a o k n q)
theorem SQ.of_kb {h h' : Heap} (k : KB (muts D) h h') : SQ D h h' := fun a o _ n q => k a o n q
theorem SQ.of_kn {h h' : Heap} (k : KN h h') : SQ D h h' := fun a o q _ r => k a o (.inl q) r
theorem SQ.of_side {h h' : Heap} {I : Addr} (x : Side g h D I) (k : KB [I] h h') : SQ D h h' := fun a o q _ r => k a o (fun z => by
  obtain ⟨o', fs, x1, x2⟩ := x.at_
  rw [List.mem_singleton.mp z, x1] at r
  cases r
  obtain ⟨vs, n, q⟩ := q
  rw [q] at x2
  cases x2) r
theorem SQ.li {h h' : Heap} {a : Addr} {n : Nat} {xs : List Int} (k : SQ D h h') (na : a ∉ muts D) (y : LI h a n xs) : LI h' a n xs := by
  obtain ⟨y1, y2, vs, ⟨o, l1, l2, m, l3⟩, y4⟩ := y
  exact ⟨y1, y2, vs, ⟨o, k _ _ ⟨_, _, l3⟩ na l1, l2, m, l3⟩, y4⟩
theorem SQ.ord {h h' : Heap} {a : Addr} {os : List Ord} (k : SQ D h h') (y : OrdL D h a os) : OrdL D h' a os := OrdL.seq y fun a T rvs n na q => k a _ ⟨_, _, rfl⟩ na q
theorem SQ.done {h h' : Heap} {a : Addr} (k : SQ D h h') (x : Done D h a σ) : Done D h' a σ := by
  obtain ⟨x1, r, kk, t, n, x2, x3, x4, x5, x6⟩ := x
  exact ⟨x1, r, kk, t, n, k _ _ ⟨_, _, rfl⟩ x1 x2, x3, x4, k.li x3 x5, k.li x4 x6⟩

theorem list_ne_side {h : Heap} {a I : Addr} {items : Array Value} (l : h.IsList a items) (x : Side g h D I) : a ≠ I := by
  rintro rfl
  obtain ⟨o, q1, q2, n, q3⟩ := l
  obtain ⟨o', fs, x1, x2⟩ := x.at_
  rw [q1] at x1
  cases x1
  rw [q3] at x2
  cases x2
theorem Feed.side {h h' : Heap} {fA cA I : Addr} {cells : List Int} {N : Int} (F : Feed h fA cA cells N) (x : Side g h D I) (k : KB [I] h h') : Feed h' fA cA cells N := by
  obtain ⟨t, tk, a, b⟩ := F.at_
  obtain ⟨vs, c, d⟩ := F.cells
  refine F.kb k ?_ ?_
  · exact fun q => list_ne_side a x (List.mem_singleton.mp q)
  · exact fun q => list_ne_side c x (List.mem_singleton.mp q)
theorem put_ne' {x y : Str} {v : V} (h : y ≠ x) : (putA x v e).lookup y = e.lookup y := by
  unfold putA
  rw [List.lookup_cons]
  have : (y == x) = false := by simpa using h
  rw [this]
theorem max_some {a b : Int} {t u : Tok} (hb : 0 < b) : ∃ q v, (if b > a then (Value.int b u) else .int a t) = .int q v ∧ 0 < q := by
  split
  · exact ⟨_, _, rfl, hb⟩
  · exact ⟨_, _, rfl, by omega⟩

theorem turns_ok {R : Result → Shared → Prop} {n mN : Nat} {I fA cA aC : Addr} {os : List Ord} {cells : List Int} {N : Int} {τ : CS} {p0 p1 p2 p3 p4 p5 p6 p7 p8 p9 p10 q1 q2 q3 q4 q5 q6 q7 q8 q9 q10 q11 q12 q13 q14 q15 q16 r0 r1 r2 r3 r4 r5 r6 r7 r8 r9 r10 r11 r12 r13 r14 r15 r16 r17 r18 r19 r20 r21 r22 r23 r24 r25 : Pos} {k1 k2 k3 k4 k5 k6 : Nat}
    (a : AOk A (n + 100)) (hcp : D.cpu = none) (hf : fA ∈ D.ext) (hcA : cA ∉ muts D) (K : EnvOk env) (C : Cx w D g s.heap env e σ) (cR : CellsR D g s.heap env)
    (lt : env.scope.names.lookup ("turn" : Str) = some .local) (ls : env.scope.names.lookup ("spot" : Str) = some .local) (lc : env.scope.names.lookup ("changed" : Str) = some .local) (lm : env.scope.names.lookup ("max" : Str) = some .globalImplicit)
    (hnm : ∀ e' : List (Str × V), nameA w.params env.scope e' "_law_next" = some (.ref 435) ∧ nameA w.params env.scope e' "_law_meet" = some (.ref 454) ∧ nameA w.params env.scope e' "feed" = e'.lookup ("feed" : Str) ∧ nameA w.params env.scope e' "many" = e'.lookup ("many" : Str) ∧ nameA w.params env.scope e' "spot" = e'.lookup ("spot" : Str) ∧ nameA w.params env.scope e' "changed" = e'.lookup ("changed" : Str))
    (e1 : e.lookup ("feed" : Str) = some (.ref fA)) (e2 : e.lookup ("many" : Str) = some (.int (mN : Int) (some (1, 16)))) (e3 : e.lookup ("changed" : Str) = some (.ref aC))
    (OO : OrdL D s.heap aC os) (hos : ∀ o ∈ os, o ∈ ords) (hlen : os.length = mN) (hmN : mN ≤ 16) (F : Feed s.heap fA cA cells N) (hN : N ≤ 500) (hcl : cells.length ≤ 1000)
    (hI : IsRangeIter s.heap I 0 7 1) (gI : g.get? I = none) (nI : I ∉ muts D) (hτ : τ.R.length = 8)
    (hR : ∀ h' tk e' ch aC', Cx w D g h' env e' σ → CellsR D g h' env → (∀ y : Str, y ≠ "changed" → y ≠ "spot" → y ≠ "turn" → e'.lookup y = e.lookup y) → e'.lookup ("changed" : Str) = some (.ref aC') → OrdL D h' aC' ch → (∀ o ∈ ch, o ∈ ords) → ch.length = mN → runs w.params ch τ = runs w.params os τ → SQ D s.heap h' → R (.ok .next) { s with heap := h', toks := tk }) :
    codeAny (model prog w) A (.forLoop (.Name "turn" p0) (.ref I)
      [.Assign [.Name "spot" p1] (.Call (.Name "_law_next" p2) [.Name "feed" p3, .Call (.Name "max" p4) [.BinOp (.Name "many" p5) .Sub (.Constant (.int 1) k1 p6) p7, .Constant (.int 1) k2 p8] [] p9] [] p10) q1,
       .If (.BoolOp .And [.Compare (.BinOp (.Name "spot" q2) .Add (.Constant (.int 1) k3 q3) q4) [.Lt] [.Name "many" q5] q6,
          .UnaryOp .Not (.Call (.Name "_law_meet" q7) [.Subscript (.Name "changed" q8) (.Name "spot" q9) q10, .Subscript (.Name "changed" q11) (.BinOp (.Name "spot" q12) .Add (.Constant (.int 1) k4 q13) q14) q15] [] q16) r0] r1)
        [.Assign [.Name "changed" r2] (.BinOp (.BinOp (.Subscript (.Name "changed" r3) (.Slice none (some (.Name "spot" r4)) none r5) r6) .Add
          (.List [.Subscript (.Name "changed" r7) (.BinOp (.Name "spot" r8) .Add (.Constant (.int 1) k5 r9) r10) r11, .Subscript (.Name "changed" r12) (.Name "spot" r13) r14] r15) r16) .Add
          (.Subscript (.Name "changed" r17) (.Slice (some (.BinOp (.Name "spot" r18) .Add (.Constant (.int 2) k6 r19) r20)) none none r21) r22) r23) r24] [] r25] [] env) R s := by
  have tn := tch_nil hcp
  have W := Walks.range (prog := prog) (w := w) (A := A) a.hand I 0 1 7
  refine codeAny_forLoop
    (fun k s' => ∃ h' tk e' i ch aC', s' = { s with heap := h', toks := tk } ∧ Cx w D g h' env e' σ ∧ CellsR D g h' env ∧ (∀ y : Str, y ≠ "changed" → y ≠ "spot" → y ≠ "turn" → e'.lookup y = e.lookup y) ∧ e'.lookup ("changed" : Str) = some (.ref aC') ∧ OrdL D h' aC' ch ∧ (∀ o ∈ ch, o ∈ ords) ∧ ch.length = mN ∧ runs w.params ch τ = runs w.params os τ ∧ SQ D s.heap h' ∧
      Feed h' fA cA cells (N + (i : Nat)) ∧ IsRangeIter h' I (0 + (i : Nat) * 1) (((7 : Nat) : Int) - (i : Nat)) 1 ∧ i ≤ 7 ∧ k = 8 - i) ?_ 8
    ⟨s.heap, s.toks, e, 0, os, aC, rfl, C, cR, fun _ _ _ _ => rfl, e3, OO, hos, hlen, rfl, SQ.refl _, F.cast (by omega), hI, Nat.zero_le _, rfl⟩
  rintro k' s' ⟨H, tk, e', i, ch, aC', rfl, C', cR', le, lch, OO', hch, hcl', hru, sq, F', hI', hi, rfl⟩
  have sI : Side g H D I := ⟨⟨_, _, hI', rfl⟩, gI, nI⟩
  by_cases hlt : i < 7
  · refine W.item i _ _ _ hlt hI' fun v h1 tk1 hP hst1 hk1 => ?_
    obtain ⟨tv, rfl⟩ := hP
    have kb1 : KB [I] H h1 := fun b o n q => hk1 b o n q
    have C1 := C'.side sI kb1
    have cR1 := cR'.side sI kb1
    have OO1 := OO'.seq (.side sI kb1)
    have F1 := F'.side sI kb1
    have sq1 := sq.trans (.of_side sI kb1)
    have sI1 : Side g h1 D I := ⟨⟨_, _, hst1, rfl⟩, gI, nI⟩
    have neL : I ∉ [env.locals] := fun q => sI1.ne_loc C1 (List.mem_singleton.mp q)
    refine assign_Name (storeA_ok (s := { s with heap := h1, toks := tk1 }) (v := .int (0 + (i : Nat) * 1) (some (0 + (i : Nat) * 1, 0 + (i : Nat) * 1))) lt K C1 (vr_int ⟨Int.le_refl _, Int.le_refl _⟩) fun h2 tk2 C2 kb2 _ => ?_)
    rw [tn] at kb2
    have kn2 := KN.of_loc C1 kb2
    have OO2 := kn2.ord OO1
    have F2 := kn2.feed F1
    have cR2 := cR1.loc C1 kb2
    have sq2 : SQ D s.heap h2 := sq1.trans (.of_kn kn2)
    have hst2 : IsRangeIter h2 I _ _ _ := kb2 I _ neL hst1
    have le2 : ∀ y : Str, y ≠ "changed" → y ≠ "spot" → y ≠ "turn" → (putA "turn" (.int (0 + (i : Nat) * 1) (some (0 + (i : Nat) * 1, 0 + (i : Nat) * 1))) e').lookup y = e.lookup y := fun y y1 y2 y3 => (put_ne' y3).trans (le y y1 y2 y3)
    have lch2 : (putA "turn" (.int (0 + (i : Nat) * 1) (some (0 + (i : Nat) * 1, 0 + (i : Nat) * 1))) e').lookup ("changed" : Str) = some (.ref aC') := lch
    generalize putA "turn" (.int (0 + (i : Nat) * 1) (some (0 + (i : Nat) * 1, 0 + (i : Nat) * 1))) e' = eT at C2 le2 lch2
    clear C1 C' cR1 cR' OO1 OO' F1 F' sq1 sq lch le kn2
    obtain ⟨n1, n2, n3, n4, n5, n6⟩ := hnm eT
    have lf2 : eT.lookup ("feed" : Str) = some (.ref fA) := (le2 _ (by decide) (by decide) (by decide)).trans e1
    have lm2 : eT.lookup ("many" : Str) = some (.int (mN : Int) (some (1, 16))) := (le2 _ (by decide) (by decide) (by decide)).trans e2
    -- spot = _law_next(feed, max(many - 1, 1))
    refine wpAny_execs_cons (wpAny_Assign_Name (wpAny_Call_NameR (nameA_ok (s := { s with heap := h2, toks := tk2 }) n1 K C2 fun rf hrf => ?_)) (notComp_swaps rfl _ _))
    simp only [VR] at hrf
    subst hrf
    refine callWith_K (K := KF w.params) (h₀ := g) C2.gd.X (show keepIn (KF w.params) (.ref 435) = true by kernel_rfl) (spliced_more (nameA_ok (s := { s with heap := h2, toks := tk2 }) (n3.trans lf2) K C2 fun ro ho => spliced_more (wpAny_Call_NameR (nameB_ok (s := { s with heap := h2, toks := tk2 }) lm (m_max _) b_max (by decide) (by decide) K C2 (PyProof.Rows.callWith_builtin1 (spliced_more (wpAny_BinOp (nameA_ok (s := { s with heap := h2, toks := tk2 }) (n4.trans lm2) K C2 fun r1 h1 => wpAny_Constant_int ?_))) rfl rfl))))) rfl rfl
    simp only [VR] at ho h1
    subst ho
    obtain ⟨⟨t1, rfl⟩, _⟩ := h1
    refine PyProof.Rows.sub_int (spliced_more (wpAny_Constant_int (spliced_none (max_two_ints a.hand fun h3 tk3 kb3 => ?_))))
    obtain ⟨q, vq, hq, hq0⟩ := max_some (a := (mN : Int) - 1) (b := 1) (t := tk2 + 1) (u := tk2 + 1 + 1) (by decide)
    have kb3 : KB [] h2 h3 := fun b o _ z => kb3 b o z
    have C3 := C2.ext kb3
    have F3 := F2.kb kb3 (fun z => nomatch z) (fun z => nomatch z)
    have OO3 := OO2.kb kb3.of_nil
    have cR3 := cR2.mvm kb3.of_nil
    have sq3 : SQ D s.heap h3 := sq2.trans (.of_kb kb3.of_nil)
    have hst3 : IsRangeIter h3 I _ _ _ := kb3 I _ (fun z => nomatch z) hst2
    refine spliced_none ?_
    rw [show (if (1 : Int) > (mN : Int) - 1 then Value.int 1 _ else .int ((mN : Int) - 1) _) = .int q vq from hq]
    refine ⟨C3.gd.In (s := { s with heap := h3, toks := _ }) C3.sr, wpAny_call (next_ok (n := n + 80) (s := { s with heap := h3, toks := _ }) a C3.gd hcp hf hcA C3.sr F3 (by omega) hcl hq0 fun v tv h4 tk4 v0 v1 F4 S4 kb4 => ?_)⟩
    have C4 := C3.mvm S4 kb4
    have OO4 := OO3.kb kb4
    have cR4 := cR3.mvm kb4
    have sq4 : SQ D s.heap h4 := sq3.trans (.of_kb kb4)
    have hst4 : IsRangeIter h4 I _ _ _ := kb4 I _ nI hst3
    have kb4 : KB (muts D) h3 h4 := kb4
    obtain ⟨vN, rfl⟩ : ∃ vN : Nat, v = (vN : Int) := ⟨v.toNat, by omega⟩
    refine storeA_ok (s := { s with heap := h4, toks := tk4 }) (v := .int (vN : Int) (some ((vN : Int), (vN : Int)))) ls K C4 (vr_int ⟨Int.le_refl _, Int.le_refl _⟩) fun h5 tk5 C5 kb5 _ => ?_
    rw [tn] at kb5
    have kn5 := KN.of_loc C4 kb5
    have OO5 := kn5.ord OO4
    have F5 := (kn5.feed F4).cast (show N + (i : Nat) + 1 = N + ((i + 1 : Nat) : Int) by omega)
    have cR5 := cR4.loc C4 kb5
    have sq5 : SQ D s.heap h5 := sq4.trans (.of_kn kn5)
    have hst5 : IsRangeIter h5 I _ _ _ := kb5 I _ neL hst4
    have le5 : ∀ y : Str, y ≠ "changed" → y ≠ "spot" → y ≠ "turn" → (putA "spot" (.int (vN : Int) (some ((vN : Int), (vN : Int)))) eT).lookup y = e.lookup y := fun y y1 y2 y3 => (put_ne' y2).trans (le2 y y1 y2 y3)
    have lch5 : (putA "spot" (.int (vN : Int) (some ((vN : Int), (vN : Int)))) eT).lookup ("changed" : Str) = some (.ref aC') := lch2
    have lsp5 : (putA "spot" (.int (vN : Int) (some ((vN : Int), (vN : Int)))) eT).lookup ("spot" : Str) = some (.int (vN : Int) (some ((vN : Int), (vN : Int)))) := rfl
    generalize putA "spot" (.int (vN : Int) (some ((vN : Int), (vN : Int)))) eT = eS at C5 le5 lch5 lsp5
    clear C4 C3 C2 cR4 cR3 cR2 OO4 OO3 OO2 F4 F3 F2 sq4 sq3 sq2 hst4 hst3 hst2 le2 lch2 lf2 lm2 n1 n2 n3 n4 n5 n6 kn5 kb5 kb4 kb3 kb2 sI1 S4 hq neL
    obtain ⟨n1, n2, n3, n4, n5, n6⟩ := hnm eS
    have lm5 : eS.lookup ("many" : Str) = some (.int (mN : Int) (some (1, 16))) := (le5 _ (by decide) (by decide) (by decide)).trans e2
    have hst5 : IsRangeIter h5 I (0 + ((i + 1 : Nat) : Int) * 1) (((7 : Nat) : Int) - ((i + 1 : Nat) : Int)) 1 := hst5
    have stay : ∀ h6 tk6, KB [] h5 h6 → ∃ m, m < 8 - i ∧ ∃ h' tk e' i ch aC', ({ s with heap := h6, toks := tk6 } : Shared) = { s with heap := h', toks := tk } ∧ Cx w D g h' env e' σ ∧ CellsR D g h' env ∧ (∀ y : Str, y ≠ "changed" → y ≠ "spot" → y ≠ "turn" → e'.lookup y = e.lookup y) ∧ e'.lookup ("changed" : Str) = some (.ref aC') ∧ OrdL D h' aC' ch ∧ (∀ o ∈ ch, o ∈ ords) ∧ ch.length = mN ∧ runs w.params ch τ = runs w.params os τ ∧ SQ D s.heap h' ∧
      Feed h' fA cA cells (N + (i : Nat)) ∧ IsRangeIter h' I (0 + (i : Nat) * 1) (((7 : Nat) : Int) - (i : Nat)) 1 ∧ i ≤ 7 ∧ m = 8 - i := by
      intro h6 tk6 kb6
      exact ⟨8 - (i + 1), by omega, h6, tk6, eS, i + 1, ch, aC', rfl, C5.ext kb6, cR5.mvm kb6.of_nil, le5, lch5, OO5.kb kb6.of_nil, hch, hcl', hru, sq5.trans (.of_kb kb6.of_nil), F5.kb kb6 (fun z => nomatch z) (fun z => nomatch z), kb6 I _ (fun z => nomatch z) hst5, hlt, rfl⟩
    -- the test
    refine wpAny_execs_cons (wpAny_If (wpAny_isTrue_BoolOp (wpAny_allTrue_And_cons (wpAny_isTrue_Compare1 (wpAny_BinOp (nameA_ok (s := { s with heap := h5, toks := tk5 }) (n5.trans lsp5) K C5 fun r1 h1 => wpAny_Constant_int ?_))))))
    simp only [VR] at h1
    obtain ⟨⟨t1, rfl⟩, _⟩ := h1
    refine PyProof.Rows.add_int (nameA_ok (s := { s with heap := h5, toks := _ }) (n4.trans lm5) K C5 fun r2 h2 => ?_)
    simp only [VR] at h2
    obtain ⟨⟨t2, rfl⟩, _⟩ := h2
    refine PyProof.Rows.lt_int (wpAny_truthy_bool ?_)
    by_cases hv : (vN : Int) + 1 < (mN : Int)
    · rw [decide_eq_true hv]
      simp only [if_true]
      have hv1 : vN + 1 < ch.length := by omega
      obtain ⟨offC, rvs, n0, hl, lenr, hvr, get⟩ := OO5.get
      have hx : ch[vN]? = some ch[vN] := List.getElem?_eq_getElem _
      have hy : ch[vN + 1]? = some ch[vN + 1] := List.getElem?_eq_getElem _
      obtain ⟨rx, hrx, vx⟩ := get _ _ hx
      obtain ⟨ry, hry, vy⟩ := get _ _ hy
      have hl5 := seq_list hl
      refine wpAny_allTrue_And_cons (wpAny_isTrue_Not (wpAny_isTrue_value (wpAny_Call_NameR (nameA_ok (s := { s with heap := h5, toks := _ }) n2 K C5 fun rf hrf => ?_))))
      simp only [VR] at hrf
      subst hrf
      refine callWith_K (K := KF w.params) (h₀ := g) C5.gd.X (show keepIn (KF w.params) (.ref 454) = true by kernel_rfl) (spliced_more (Subscript_ (nameA_ok (s := { s with heap := h5, toks := _ }) (n6.trans lch5) K C5 fun ro hro => nameA_ok (s := { s with heap := h5, toks := _ }) (n5.trans lsp5) K C5 fun ru hru => ?_))) rfl rfl
      simp only [VR] at hro hru
      subst hro
      obtain ⟨⟨t3, rfl⟩, _⟩ := hru
      have z1 : ((vN : Int)).toNat = vN := by omega
      have z2 : ((vN : Int) + 1).toNat = vN + 1 := by omega
      have hrx' : rvs.toArray[((vN : Int)).toNat]? = some rx := by rw [z1]; simpa using hrx
      have hry' : rvs.toArray[((vN : Int) + 1).toNat]? = some ry := by rw [z2]; simpa using hry
      refine tail_any hl5.typeIs slot_list_getitem.lookup (wpAny_getItem_list (x := rx) hl5 (by omega) (by omega) hrx' ?_) rfl
      refine spliced_more (Subscript_ (nameA_ok (s := { s with heap := h5, toks := _ }) (n6.trans lch5) K C5 fun ro hro => wpAny_BinOp (nameA_ok (s := { s with heap := h5, toks := _ }) (n5.trans lsp5) K C5 fun ru hru => wpAny_Constant_int ?_)))
      simp only [VR] at hro hru
      subst hro
      obtain ⟨⟨t4, rfl⟩, _⟩ := hru
      refine PyProof.Rows.add_int (tail_any hl5.typeIs slot_list_getitem.lookup (wpAny_getItem_list (x := ry) hl5 (by omega) (by omega) hry' ?_) rfl)
      refine spliced_none ⟨C5.gd.In (s := { s with heap := h5, toks := _ }) C5.sr, wpAny_call (meet_ok (n := n + 40) (s := { s with heap := h5, toks := _ }) a C5.gd hcp C5.sr (hch _ (List.getElem_mem _)) (hch _ (List.getElem_mem _)) vx vy fun h6 tk6 S6 kb6 => wpAny_truthy_bool ?_)⟩
      have kb6 : KB [] h5 h6 := kb6
      cases hmb : meetB ch[vN] ch[vN + 1] with
      | true =>
        simp only [Bool.not_true, Bool.false_eq_true, if_false]
        exact wpAny_execs_nil (wpAny_execs_nil (stay h6 tk6 kb6))
      | false =>
        simp only [Bool.not_false, if_true]
        refine wpAny_allTrue_And_nil ?_
        simp only [if_true]
        have C6 := C5.ext kb6
        refine wpAny_execs_cons (wpAny_Assign_Name (swapped_ok (s := { s with heap := h6, toks := tk6 }) K C6 (n6.trans lch5) (n5.trans lsp5) (OO5.kb kb6.of_nil) hx hy (by omega) fun aN h7 tk7 kb7 OO7 => ?_) (notComp_swaps rfl _ _))
        have kb67 : KB [] h5 h7 := kb6.trans kb7
        have C7 := C5.ext kb67
        refine storeA_ok (s := { s with heap := h7, toks := tk7 }) (v := .ref aN) lc K C7 (by simp only [VR]) fun h8 tk8 C8 kb8 _ => ?_
        rw [tn] at kb8
        have kn8 := KN.of_loc C7 kb8
        have st7 : IsRangeIter h7 I _ _ _ := kb67 I _ (fun z => nomatch z) hst5
        have s7 : Side g h7 D I := ⟨⟨_, _, st7, rfl⟩, gI, nI⟩
        have ex := runs_exchange (P := w.params) hx hy (apart_of hmb) hτ
        refine wpAny_execs_nil (wpAny_execs_nil ⟨8 - (i + 1), by omega, h8, tk8, _, i + 1, _, aN, rfl, C8, (cR5.mvm kb67.of_nil).loc C7 kb8, fun y y1 y2 y3 => (put_ne' y1).trans (le5 y y1 y2 y3), rfl, kn8.ord OO7, ?_, ?_, ex.trans hru, (sq5.trans (.of_kb kb67.of_nil)).trans (.of_kn kn8), kn8.feed (F5.kb kb67 (fun z => nomatch z) (fun z => nomatch z)), kb8 I _ (fun q => s7.ne_loc C7 (List.mem_singleton.mp q)) st7, hlt, rfl⟩)
        · intro o ho
          refine hch o ?_
          simp only [List.mem_append, List.mem_cons, List.not_mem_nil, or_false] at ho
          rcases ho with (ho | rfl | rfl) | ho
          · exact List.mem_of_mem_take ho
          · exact List.getElem_mem _
          · exact List.getElem_mem _
          · exact List.mem_of_mem_drop ho
        · simp
          omega
    · rw [decide_eq_false hv]
      simp only [Bool.false_eq_true, if_false]
      exact wpAny_execs_nil (wpAny_execs_nil (stay h5 _ (KB.refl _ _)))
  · have hin : i = 7 := by omega
    subst hin
    refine W.done _ _ _ hI' fun h2 tk2 hk2 => wpAny_execs_nil ?_
    have kb1 : KB [I] H h2 := fun b o n q => hk2 b o n q
    exact hR h2 tk2 e' ch aC' (C'.side sI kb1) (cR'.side sI kb1) le lch (OO'.seq (.side sI kb1)) hch hcl' hru (sq.trans (.of_side sI kb1))
end
end Mine

namespace Mine
open PySem PySem.W PySem.Calls PyProof.Rows PyProof.V PySem.Spec PySem.SeqAt

theorem need_sub : ∀ (os : List Ord) (x : Str), ∀ o ∈ (need os x).1, o ∈ os
  | [], x, o, h => by simp [need] at h
  | p :: r, x, o, h => by
    unfold need at h
    dsimp only at h
    split at h
    · rcases List.mem_cons.mp h with rfl | h
      · exact List.mem_cons_self
      · exact List.mem_cons_of_mem _ (need_sub r x o h)
    · exact List.mem_cons_of_mem _ (need_sub r x o h)
theorem need_len : ∀ (os : List Ord) (x : Str), (need os x).1.length ≤ os.length
  | [], x => Nat.le_refl _
  | p :: r, x => by
    have ih := need_len r x
    unfold need
    dsimp only
    split
    · simpa using ih
    · exact Nat.le_succ_of_le ih

theorem shaped_done (R M : List Int) (st : Int) : shaped (.tuple [.list (R.map PyData.int), .list (M.map PyData.int), .int st]) = true := by
  have h1 := PySem.W.depthAll_ints R
  have h2 := PySem.W.depthAll_ints M
  show (PyData.canLay0 _ && decide (PyData.depth _ ≤ 64)) = true
  rw [Bool.and_eq_true]
  refine ⟨?_, decide_eq_true ?_⟩
  · simp only [PyData.canLay0, PyData.canLayAll0, canLayAll0_ints, Bool.and_self]
  · simp only [PyData.depth, PyData.depthAll]
    omega

section
variable {prog : Program} {w : World} {A : Around} {E : Value → Shared → Prop} {s : Shared} {D D2 : Dm} {g : Heap} {σ σ' : CS} {env : Env} {e : List (Str × V)}

theorem Done.reads {h : Heap} {a : Addr} (x : Done D h a σ) : ∃ as, Reads h (.ref a) (.tuple [.list (σ.R.map PyData.int), .list (σ.M.map PyData.int), .int σ.st]) as := by
  obtain ⟨_, r, k, t, n, g1, _, _, lr, lk⟩ := x
  obtain ⟨v1, l1, i1, _⟩ := lr.isList
  obtain ⟨v2, l2, i2, _⟩ := lk.isList
  exact ⟨_, reads_tuple_at g1 rfl rfl (.cons (reads_of_ints l1 i1) (.cons (reads_of_ints l2 i2) (.cons (.int _ _) .nil)))⟩
theorem ne_done {a1 a2 : Addr} {Q : Value → Shared → Prop} (d1 : Done D s.heap a1 σ) (d2 : Done D s.heap a2 σ) (hu : A.units + 64 < cLine) (k : Q (.bool false) s) : wpAny (model prog w) A (compareOp .NotEq (.ref a1) (.ref a2)) Q E s := by
  obtain ⟨_, r1⟩ := d1.reads
  obtain ⟨_, r2⟩ := d2.reads
  have sh := shaped_done σ.R σ.M σ.st
  refine ne_dataH r1 r2 sh sh hu ?_
  rw [eqv_refl _ (canLay_of_shaped sh)]
  exact k
theorem done_of_vr {h : Heap} {r k : Addr} {rv : Value} (hv : VR D h (.tup [.ref r, .ref k, .int σ.st none]) rv) (nr : r ∉ muts D) (nk : k ∉ muts D) (lr : LI h r 8 σ.R) (lk : LI h k 64 σ.M) : ∃ a, rv = .ref a ∧ Done D h a σ := by
  simp only [VR, VRs] at hv
  obtain ⟨a, rvs, n, rfl, off, g1, _, _, rfl, rfl, _, _, rfl, rfl, _, _, rfl, ⟨⟨t, rfl⟩, _⟩, rfl⟩ := hv
  exact ⟨a, rfl, off, r, k, t, n, g1, nr, nk, lr, lk⟩
theorem Done.vr {h : Heap} {a : Addr} (x : Done D h a σ) : ∃ r k, VR D h (.tup [.ref r, .ref k, .int σ.st none]) (.ref a) ∧ r ∉ muts D ∧ k ∉ muts D ∧ LI h r 8 σ.R ∧ LI h k 64 σ.M := by
  obtain ⟨off, r, k, t, n, g1, nr, nk, lr, lk⟩ := x
  refine ⟨r, k, ?_, nr, nk, lr, lk⟩
  simp only [VR, VRs]
  exact ⟨a, _, n, rfl, off, g1, _, _, rfl, rfl, _, _, rfl, rfl, _, _, rfl, ⟨⟨t, rfl⟩, trivial⟩, rfl⟩

/-- ''.join of letters that the list's own walk finds -/
theorem join_any {p1 p2 p3 : Pos} {kk : Nat} {x : PySem.Expr} {Q : Value → Shared → Prop} (hs : starEach [x] env = [(false, eval x env)]) (hline : (p2.endLine == p3.line) = true)
    (h : ∀ tk, wpAny (model prog w) A (eval x env) (fun rv s₁ => ∃ cs : List Nat, cs.length ≤ 2000 ∧ VR D s₁.heap (.lst (cs.map oneStr)) rv ∧ ∀ t tk, Q (.str ⟨cs.toArray⟩ t) { s₁ with toks := tk }) E { s with toks := tk }) :
    wpAny (model prog w) A (eval (.Call (.Attribute (.Constant (.str "") kk p1) "join" p2) [x] [] p3) env) Q E s := by
  refine PySem.Call_method1 rfl hs hline (Constant_str (SB.join (wpAny_mono (h _) (fun rv s₁ h₁ => ?_) fun _ _ z => z)))
  obtain ⟨cs, hn, hv, q⟩ := h₁
  simp only [VR] at hv
  obtain ⟨b, rvs, m, rfl, _, e1, v1⟩ := hv
  obtain ⟨l, rfl, hl⟩ := strs_of v1
  refine ⟨b, l, rfl, seq_list e1, _, hl, joinOk_of ?_, fun t' k => ?_⟩
  · have e : (((cs.map fun c => (⟨#[c]⟩ : Str)).map (·.length)).sum) = cs.length := by
      clear hl v1 h hn q
      induction cs with
      | nil => rfl
      | cons c cs ih => simp only [List.map_cons, List.sum_cons, List.length_cons, ih]; show 1 + _ = _; omega
    rw [e]
    have z : (Str.ofString "").length = 0 := rfl
    rw [List.length_map, z]
    omega
  · rw [joined]
    exact q t' k
end
end Mine

namespace Mine
open PySem PySem.W PySem.Calls PyProof.Rows

section
variable {prog : Program} {w : World} {A : Around} {E : Value → Shared → Prop} {s : Shared} {D D2 : Dm} {g : Heap} {σ σ' : CS} {env : Env} {e : List (Str × V)}

theorem names_test {x1 x2 : Nat} {p1 p2 p3 p4 p5 p6 p7 : Pos} {i : Nat} {v : Int} {r : Rng} (hw : nameA w.params env.scope e "wanted" = some (.int v r)) (ha : nameA w.params env.scope e "at" = some (.int (i : Int) (some (i, i)))) (K : EnvOk env) (C : Cx w D g s.heap env e σ) {Q : Bool → Shared → Prop} (k : ∀ b tk, Q b { s with toks := tk }) :
    wpAny (model prog w) A (isTrue (.Compare (.BinOp (.BinOp (.Name "wanted" p1) .RShift (.Name "at" p2) p3) .BitAnd (.Constant (.int 1) x1 p4) p5) [.Eq] [.Constant (.int 1) x2 p6] p7) env (eval (.Compare (.BinOp (.BinOp (.Name "wanted" p1) .RShift (.Name "at" p2) p3) .BitAnd (.Constant (.int 1) x1 p4) p5) [.Eq] [.Constant (.int 1) x2 p6] p7) env)) Q E s := by
  refine wpAny_isTrue_Compare1 (wpAny_BinOp (wpAny_BinOp (nameA_ok hw K C fun r1 h1 => nameA_ok ha K C fun r2 h2 => ?_)))
  simp only [VR] at h1 h2
  obtain ⟨⟨t1, rfl⟩, _⟩ := h1
  obtain ⟨⟨t2, rfl⟩, _⟩ := h2
  exact PyProof.Rows.rshift_int (by omega) (wpAny_Constant_int (PyProof.Rows.and_int (wpAny_Constant_int (PyProof.Rows.eq_int (wpAny_truthy_bool (k _ _))))))

set_option maxHeartbeats 1000000 in
theorem law_ok {R : Result → Shared → Prop} {n : Nat} {aS : Addr} {vs : List Value} {cells0 : List Int} (a : AOk A (n + 250)) (G : Gd w g) (S : SR g ⟨none, []⟩ ⟨[], [], 0⟩ s.heap) (hS : s.heap.IsList aS vs.toArray) (hI : IntsAre vs cells0) (hlen : cells0.length ≤ 63)
    (k : ∀ h' tk, KB [] s.heap h' → R (.ok (.ret (.bool true))) { s with heap := h', toks := tk }) :
    codeAny (model prog w) A (.call (.ref 471) ⟨[.ref aS], []⟩) R s := by
  refine enter (n := n + 249) (vs := [.ref aS]) (f := 471) rfl (by kernel_rfl) rfl rfl rfl a G S (by simp only [VRs, VR]; exact ⟨_, _, rfl, rfl, rfl⟩) ?_
  intro env h₁ tk hsc K a' C kb0 cR hcl
  have hu : (A.deeper env).units + 64 < cLine := by have := a'.units; have : cLine = 9900 := rfl; omega
  have cf := hcl "feed" rfl
  have cm := hcl "many" rfl
  have cw := hcl "wanted" rfl
  obtain ⟨c1, hc1⟩ := Option.isSome_iff_exists.mp cf
  obtain ⟨c2, hc2⟩ := Option.isSome_iff_exists.mp cm
  obtain ⟨c3, hc3⟩ := Option.isSome_iff_exists.mp cw
  generalize hg1 : below ⟨none, []⟩ s.heap = g1 at C cR
  have lvs : vs.length = cells0.length := IntsAre.length hI ▸ rfl
  have hS1 := isList_kb hS kb0 (fun z => nomatch z)
  -- feed = [script[:60], 0]
  refine wpAny_execs_cons (wpAny_Assign_Name (List_ (spliced_more (wpAny_Subscript_Slice (T := "list") list_getitem_lookup (nameA_ok (v := .ref aS) (by rw [hsc]; rfl) K C fun ro hro => wpAny_Slice (wpAny_pure (ev (n := 10) (v := .int 60 (some (60, 60))) (σ' := _) (by rw [hsc]; rfl) (a'.lower (by omega)) K C fun r6 h2 tk2 hv6 C2 kb2 => wpAny_pure ?_)))))) (notComp_swaps rfl _ _))
  simp only [VR] at hro hv6
  subst hro
  obtain ⟨⟨t6, rfl⟩, _⟩ := hv6
  have kb2 : KB [] h₁ h2 := kb2
  have hS2 := isList_kb hS1 kb2 (fun z => nomatch z)
  refine ⟨(hS2.push _).typeIs, slice_ok (s := { s with heap := h2, toks := tk2 }) hS2 .none (.int _ _) .none (by decide) (by simp; omega) fun cA h3 kb3 ncA hp3 => ?_⟩
  have C3 := C2.ext kb3
  refine spliced_more (wpAny_Constant_int (spliced_none (wpAny_newList ?_ (by rw [sizeLine_eq]; exact Nat.le_of_ble_eq_true rfl))))
  have kb4 := KB.push h3 { cls := .type "list", data := .seq #[.ref cA, .int 0 tk2] }
  have C4 := C3.ext kb4
  have kb14 : KB [] h₁ _ := kb2.trans (kb3.trans kb4)
  have fl4 : (h3.push { cls := .type "list", data := .seq #[.ref cA, .int 0 tk2] }).get? h3.objs.size = some { cls := .type "list", data := .seq #[.ref cA, .int 0 tk2] } := Heap.get?_push_size _ rfl
  have cl4 := plain_kb hp3 kb4 (fun z => nomatch z)
  have ltc : cA < h3.objs.size := by obtain ⟨_, y⟩ := hp3; exact Heap.lt_size y
  obtain ⟨f1, f2, f3⟩ := C3.sr.new (Nat.le_refl h3.objs.size)
  show wpAny _ _ (storeName env _ (.ref h3.objs.size)) _ _ { s with heap := h3.push { cls := .type "list", data := .seq #[.ref cA, .int 0 tk2] }, toks := tk2 + 1 }
  generalize h3.push { cls := .type "list", data := .seq #[.ref cA, .int 0 tk2] } = h4 at C4 kb14 fl4 cl4 ⊢
  generalize h3.objs.size = fA at fl4 ltc f1 f2 f3 ⊢
  refine cstore_ok (s := { s with heap := h4, toks := tk2 + 1 }) (y := "feed") (v := .ref fA) (by rw [hsc]; rfl) K C4 (cR.mvm kb14.of_nil) cf (show VR _ _ (.ref fA) (.ref fA) by simp only [VR]) fun h5 tk5 C5' cR5' kn5 => ?_
  -- the list of the draws may change from here on
  have fl5 : h5.IsList fA #[.ref cA, .int 0 tk2] := kn5.list ⟨_, fl4, rfl, _, rfl⟩
  have cl5 := kn5.list cl4.isList
  have nfl : fA ≠ env.locals := C5'.ne_list fl5
  have mD : ∀ b, b ∈ muts ⟨none, [fA]⟩ ↔ b = fA := fun b => by simp [muts, tch]
  have S5 : SR g1 ⟨none, [fA]⟩ ⟨[], [], 0⟩ h5 := by
    refine ⟨C5'.sr.keep, fun b hb => ?_, fun W hW => (nomatch hW), fun b hb => ?_⟩
    · rw [(mD b).mp hb]; exact f2
    · rw [List.mem_singleton.mp hb]; exact isList_some fl5
  have cR5 : CellsR ⟨none, [fA]⟩ g1 h5 env := fun y c hc => by
    obtain ⟨⟨v, ic⟩, _, gc⟩ := cR5' y c hc
    refine ⟨⟨v, ic⟩, fun q => ?_, gc⟩
    rw [(mD c).mp q] at ic
    obtain ⟨o, i1, i2⟩ := ic
    obtain ⟨o', j1, j2, nn, j3⟩ := fl5
    rw [i1] at j1
    cases j1
    rw [i2] at j3
    cases j3
  have C5 : Cx w ⟨none, [fA]⟩ g1 h5 env [("feed", .ref fA)] ⟨[], [], 0⟩ := by
    refine C5'.conv2 S5 (fun q => nfl ((mD _).mp q).symm) cR5 (conv_he fun p hp => ?_)
    simp only [List.mem_cons, List.not_mem_nil, or_false] at hp
    rcases hp with rfl
    exact ⟨_, rfl, fun rv q => by simpa only [VR] using q⟩
  have hcp : (⟨none, [fA]⟩ : Dm).cpu = none := rfl
  have hfe : fA ∈ (⟨none, [fA]⟩ : Dm).ext := List.mem_singleton.mpr rfl
  have hcA : cA ∉ muts ⟨none, [fA]⟩ := fun q => Nat.ne_of_lt ltc ((mD _).mp q)
  have pk := IntsAre.pick hI none (some 60) none
  have pl := length_pickNums_le hI none (some 60) none
  generalize pickNums cells0 none (some 60) none = cells at pk pl
  have F5 : Feed h5 fA cA cells 0 := ⟨⟨0, tk2, fl5, Int.le_refl _, Int.le_refl _⟩, ⟨_, by simpa using cl5, pk⟩, Nat.ne_of_lt ltc⟩
  have hcl1000 : cells.length ≤ 1000 := by omega
  clear kn5 C5' cR5' C4 C3 C2 C hS2 hS1 cl4 fl4 hp3 kb14 kb2 kb3 kb4
  generalize (⟨none, [fA]⟩ : Dm) = D at *
  -- many, wanted = (1 + _law_next(feed, 16), _law_next(feed, 256))
  show wpAny _ _ (execs _ _) _ _ _
  refine wpAny_execs_cons (Assign_Tuple (Tuple_ (spliced_more (wpAny_BinOp (wpAny_Constant_int (nextCall_ok (s := { s with heap := h5, toks := _ }) (n := n + 229) a' hcp hfe hcA (by rw [hsc]; rfl) (by rw [hsc]; rfl) K C5 F5 (by decide) hcl1000 (by decide) fun v0 t0 h6 tk6 v00 v01 F6 C6 kb6 => PyProof.Rows.add_int (spliced_more (nextCall_ok (s := { s with heap := h6, toks := _ }) (n := n + 229) a' hcp hfe hcA (by rw [hsc]; rfl) (by rw [hsc]; rfl) K C6 F6 (by decide) hcl1000 (by decide) fun v1 t1 h7 tk7 v10 v11 F7 C7 kb7 => spliced_none (wpAny_newTuple ?_ (by rw [sizeLine_eq]; exact Nat.le_of_ble_eq_true rfl))))))))) rfl (swap_ok (r := none) (by rw [hsc]; rfl)))
  refine wpAny_assign_Tuple a'.hand ⟨_, Heap.get?_push_size _ rfl, rfl, _, rfl⟩ rfl rfl fun h9 hx9 => ?_
  have kb79 : KB [] h7 h9 := (KB.push h7 _).trans (KB.of_ext hx9)
  have C9 := C7.ext kb79
  have cR9 : CellsR D g1 h9 env := ((cR5.mvm kb6).mvm kb7).mvm kb79.of_nil
  have F9 := F7.kb kb79 (fun z => nomatch z) (fun z => nomatch z)
  generalize hm : 1 + v0 = m
  have hm1 : 1 ≤ m ∧ m ≤ 16 := ⟨by omega, by omega⟩
  refine wpAny_assignInOrder_more (assign_Name (cstore_ok (s := { s with heap := h9, toks := tk7 }) (y := "many") (v := .int m (some (1, 16))) (by rw [hsc]; rfl) K C9 cR9 cm (vr_int ⟨hm1.1, hm1.2⟩) fun h10 tk10 C10 cR10 kn10 => ?_))
  refine wpAny_assignInOrder_more (assign_Name (cstore_ok (s := { s with heap := h10, toks := tk10 }) (y := "wanted") (v := .int v1 (some (0, 255))) (by rw [hsc]; rfl) K C10 cR10 cw (vr_int ⟨v10, by omega⟩) fun h11 tk11 C11 cR11 kn11 => wpAny_pure ?_))
  have F11 := (kn11.feed (kn10.feed F9)).cast (show (0 : Int) + 1 + 1 = 2 by decide)
  have C11 : Cx w D g1 h11 env [("wanted", .int v1 (some (0, 255))), ("many", .int m (some (1, 16))), ("feed", .ref fA)] ⟨[], [], 0⟩ := C11
  clear kn11 kn10 F9 F7 F6 cR10 cR9 C10 C9 C7 C6 C5 kb79 kb7 kb6 hx9 cR5 S5 F5
  -- held
  show wpAny _ _ (execs _ _) _ _ _
  refine wpAny_execs_cons (rangeComp_ok (s := { s with heap := h11, toks := tk11 }) (n := 8) (fr := "feed") (u := .ref fA) (by decide) hcp K a'.hand C11 cR11 (by rw [hsc]; rfl) rfl (fun Q' s' _ hq => wpAny_Constant_int (hq _ _)) (closure1 rfl hc1) (by decide) rfl (by decide) rfl (by decide) hc1 rfl (by rw [hsc]; rfl) (by unfold relabel Env.kindOf; rw [hsc]; rfl) (by rw [hsc]; rfl) ?_
    (heldTurns (n := n + 229) (N := 2) a' hcp hfe hcA C11 F11 (by decide) hcl1000 (fun e' => by unfold relabel Env.kindOf; rw [hsc]; rfl) (by unfold relabel Env.kindOf; rw [hsc]; rfl) (by decide)) ⟨⟨KB.refl _ _, C11.sr, F11⟩, Nat.zero_le _, [], .nil, rfl, by simp⟩ fun aH h12' h12 tk12 ysH mH jH gH knH nH neH C12 cR12 => ?_)
  · exact comp_swaps K (by rw [hsc]; rfl) (by decide)
  obtain ⟨djH, _, xsH, iH, lH, bH⟩ := jH
  have lenYH := IntsAre.length iH
  have LH12 : LI h12 aH 8 xsH := ⟨lH, bH, ysH, seq_list gH, iH⟩
  have F12 := (knH.feed djH.feed).cast (show (2 : Int) + ((8 : Nat) : Int) = 10 by decide)
  clear djH knH gH
  have C12 : Cx w D g1 h12 env [("held", .ref aH), ("wanted", .int v1 (some (0, 255))), ("many", .int m (some (1, 16))), ("feed", .ref fA)] ⟨[], [], 0⟩ := C12
  -- memory
  refine wpAny_execs_cons (rangeComp_ok (s := { s with heap := h12, toks := tk12 }) (n := 64) (fr := "many") (u := .int m (some (1, 16))) (by decide) hcp K a'.hand C12 cR12 (by rw [hsc]; rfl) rfl (fun Q' s' _ hq => wpAny_Constant_int (hq _ _)) (closure1 rfl hc2) (by decide) rfl (by decide) rfl (by decide) hc2 rfl (by rw [hsc]; rfl) (by unfold relabel Env.kindOf; rw [hsc]; rfl) (by rw [hsc]; rfl) (comp_swaps K (by rw [hsc]; rfl) (by decide))
    (memTurns (n := 0) (a'.lower (by omega)) hcp C12 F12 hm1 (fun i => by unfold relabel Env.kindOf; rw [hsc]; rfl)) ⟨⟨KB.refl _ _, C12.sr, F12⟩, Nat.zero_le _, [], .nil, rfl, by simp⟩ fun aM h13' h13 tk13 ysM mM jM gM knM nM neM C13 cR13 => ?_)
  obtain ⟨djM, _, xsM, iM, lM, bM⟩ := jM
  have LM13 : LI h13 aM 64 xsM := ⟨lM, bM, ysM, seq_list gM, iM⟩
  have F13 := knM.feed djM.feed
  have LH13 : LI h13 aH 8 xsH := knM.li (LH12.kb djM.kb nH)
  clear djM knM gM LH12
  have C13 : Cx w D g1 h13 env [("memory", .ref aM), ("held", .ref aH), ("wanted", .int v1 (some (0, 255))), ("many", .int m (some (1, 16))), ("feed", .ref fA)] ⟨[], [], 0⟩ := C13
  -- orders
  obtain ⟨mN, hmN⟩ : ∃ mN : Nat, m = (mN : Int) := ⟨m.toNat, by omega⟩
  subst hmN
  refine wpAny_execs_cons (rangeComp_ok (s := { s with heap := h13, toks := tk13 }) (n := mN) (fr := "feed") (u := .ref fA) (by omega) hcp K a'.hand C13 cR13 (by rw [hsc]; rfl) rfl ?_ (closure1 rfl hc1) (by decide) rfl (by decide) rfl (by decide) hc1 rfl (by rw [hsc]; rfl) (by unfold relabel Env.kindOf; rw [hsc]; rfl) (by rw [hsc]; rfl) (comp_swaps K (by rw [hsc]; rfl) (by decide))
    (orderTurns (n := n + 149) (N := 10) a' hcp hfe hcA C13 F13 (by decide) (by omega) hcl1000 (fun e' => by unfold relabel Env.kindOf; rw [hsc]; rfl) (by unfold relabel Env.kindOf; rw [hsc]; rfl) (by decide)) ⟨⟨KB.refl _ _, C13.sr, F13.cast (by omega)⟩, Nat.zero_le _, [], rfl, by simp, by simp [VRs]⟩ fun aO h14' h14 tk14 ysO mO jO gO knO nO neO C14 cR14 => ?_)
  · intro Q' s' hs' hq
    have C' : Cx w D g1 s'.heap env [("memory", .ref aM), ("held", .ref aH), ("wanted", .int v1 (some (0, 255))), ("many", .int (mN : Int) (some (1, 16))), ("feed", .ref fA)] ⟨[], [], 0⟩ := by rw [hs']; exact C13
    refine nameA_ok (v := .int (mN : Int) (some (1, 16))) (by rw [hsc]; rfl) K C' fun rv hv => ?_
    simp only [VR] at hv
    obtain ⟨⟨t, rfl⟩, _⟩ := hv
    exact hq t s'.toks
  obtain ⟨djO, _, os, lO, hos, vO⟩ := jO
  have OO14 : OrdL D h14 aO os := by
    unfold OrdL
    simp only [VR]
    exact ⟨aO, ysO, mO, rfl, nO, gO, VRs.keeps knO.seq _ _ vO⟩
  have F14 := knO.feed djO.feed
  have LH14 : LI h14 aH 8 xsH := knO.li (LH13.kb djO.kb nH)
  have LM14 : LI h14 aM 64 xsM := knO.li (LM13.kb djO.kb nM)
  clear djO knO gO LH13 LM13 vO
  have C14 : Cx w D g1 h14 env [("orders", .ref aO), ("memory", .ref aM), ("held", .ref aH), ("wanted", .int v1 (some (0, 255))), ("many", .int (mN : Int) (some (1, 16))), ("feed", .ref fA)] ⟨[], [], 0⟩ := C14
  -- due, changed
  obtain ⟨offO, rvsO, nO14, glO, lrO, vO14, _⟩ := OO14.get
  refine wpAny_execs_cons (Assign_Tuple_swapped (names := ["due", "changed"]) (Tuple_ (spliced_more (doneCall_ok (s := { s with heap := h14, toks := tk14 }) (n := n + 109) (os := os) (aH := aH) (aM := aM) (R0 := xsH) (M0 := xsM) a' hcp ?_ (by rw [hsc]; rfl) (by rw [hsc]; rfl) (by rw [hsc]; rfl) K C14 hos (by omega) LH14 LM14 rfl ?_ fun aT h15 tk15 dT C15 kb15 => ?_))) rfl (swap_ok (by rw [hsc]; rfl)))
  · intro b hb
    rw [(mD b).mp hb]
    obtain ⟨t, tk, l, _⟩ := F14.at_
    exact ⟨_, _, l⟩
  · intro Q' hq
    refine nameA_ok (s := { s with heap := h14, toks := tk14 }) (v := .ref aO) (by rw [hsc]; rfl) K C14 fun rv hv => ?_
    simp only [VR] at hv
    subst hv
    exact hq aO h14 tk14 (KB.refl _ _) OO14
  have kb15 : KB [] h14 h15 := kb15
  refine spliced_more (copyCall_ok (s := { s with heap := h15, toks := tk15 }) (a := aO) (items := rvsO.toArray) (by rw [hsc]; rfl) (by rw [hsc]; rfl) K C15 (isList_kb (seq_list glO) kb15 (fun z => nomatch z)) (by simp; omega) fun h16 kb16 hp16 => spliced_none (wpAny_newTuple ?_ (by rw [sizeLine_eq]; exact Nat.le_of_ble_eq_true rfl)))
  refine wpAny_unpackItems_tuple a'.hand (items := #[.ref aT, .ref h15.objs.size]) ⟨_, Heap.get?_push_size _ rfl, rfl, _, rfl⟩ fun h17 hx17 => ?_
  have kb16 : KB [] h15 h16 := kb16
  have kb67 : KB [] h16 h17 := (KB.push h16 _).trans (KB.of_ext hx17)
  have kb57 : KB [] h15 h17 := kb16.trans kb67
  have kb47 : KB [] h14 h17 := kb15.trans kb57
  have C17 := C15.ext kb57
  have dT17 := dT.kb kb57.of_nil
  have newC := C15.sr.new (Nat.le_refl h15.objs.size)
  have OC17 : OrdL D h17 h15.objs.size os := by
    obtain ⟨mm, hp⟩ := plain_kb hp16 kb67 (fun z => nomatch z)
    unfold OrdL
    simp only [VR]
    exact ⟨_, rvsO, mm, rfl, newC.1, by rw [hp], VRs.keeps (.of_KB kb47.of_nil) _ _ vO14⟩
  generalize h15.objs.size = aC at OC17 ⊢
  obtain ⟨offT, rD, kD, tD, nT, gT, nrD, nkD, lrD, lkD⟩ := dT17
  have vT17 : VR D h17 (.tup [.ref rD, .ref kD, .int (runs w.params os ⟨xsH, xsM, 0⟩).st none]) (.ref aT) := by
    simp only [VR, VRs]
    exact ⟨aT, _, nT, rfl, offT, gT, _, _, rfl, rfl, _, _, rfl, rfl, _, _, rfl, ⟨⟨_, rfl⟩, trivial⟩, rfl⟩
  refine binds_ok (s := { s with heap := h17, toks := _ }) K [("changed", .ref aC), ("due", .tup [.ref rD, .ref kD, .int (runs w.params os ⟨xsH, xsM, 0⟩).st none])] (by rw [hsc]; intro p hp; simp only [List.mem_cons, List.not_mem_nil, or_false] at hp; rcases hp with rfl | rfl <;> rfl)
    (by simp only [List.map_cons, List.map_nil]; exact ⟨.ref aC, _, rfl, (by simp only [VR]), .ref aT, _, rfl, vT17, rfl⟩) C17 fun h18 tk18 C18 kb18 => ?_
  have C18 : Cx w D g1 h18 env [("due", .tup [.ref rD, .ref kD, .int (runs w.params os ⟨xsH, xsM, 0⟩).st none]), ("changed", .ref aC), ("orders", .ref aO), ("memory", .ref aM), ("held", .ref aH), ("wanted", .int v1 (some (0, 255))), ("many", .int (mN : Int) (some (1, 16))), ("feed", .ref fA)] ⟨[], [], 0⟩ := C18
  rw [tch_nil hcp] at kb18
  have kn18 := KN.of_loc C17 kb18
  have OC18 := kn18.ord OC17
  have OO18 := kn18.ord (OO14.kb kb47.of_nil)
  have F18 := kn18.feed (F14.kb kb47 (fun z => nomatch z) (fun z => nomatch z))
  have LH18 := kn18.li (LH14.kb kb47 (fun z => nomatch z))
  have LM18 := kn18.li (LM14.kb kb47 (fun z => nomatch z))
  have lrD18 := kn18.li lrD
  have lkD18 := kn18.li lkD
  have cR18 : CellsR D g1 h18 env := (cR14.mvm kb47.of_nil).loc C17 kb18
  clear dT C15 kb15 kb16 kb67 kb57 kb47 hx17 hp16 C17 OC17 OO14 F14 LH14 LM14 vO14 glO C14 cR14 vT17 gT lrD lkD kn18 kb18 newC
  -- the seven turns
  show wpAny _ _ (execs _ _) _ _ _
  refine wpAny_execs_cons (wpAny_For (iterRange_ok (s := { s with heap := h18, toks := tk18 }) (n := 7) (by decide) K C18 (by rw [hsc]; rfl) rfl (fun Q' s' _ hq => wpAny_Constant_int (hq _ _)) fun I h19 tk19 kb19 nI19 hI19 ltI => ?_))
  obtain ⟨i1, i2, _⟩ := C18.sr.new nI19
  have kb19 : KB [] h18 h19 := kb19
  refine turns_ok (s := { s with heap := h19, toks := tk19 }) (n := n + 149) (mN := mN) (fA := fA) (cA := cA) (aC := aC) (os := os) (cells := cells) (N := 10 + 3 * mN) (τ := ⟨xsH, xsM, 0⟩) a' hcp hfe hcA K (C18.ext kb19) (cR18.mvm kb19.of_nil) (by rw [hsc]; rfl) (by rw [hsc]; rfl) (by rw [hsc]; rfl) (by rw [hsc]; rfl)
    (fun e' => by rw [hsc]; exact ⟨rfl, rfl, rfl, rfl, rfl, rfl⟩) rfl rfl rfl (OC18.kb kb19.of_nil) hos lO (by omega) (F18.kb kb19 (fun z => nomatch z) (fun z => nomatch z)) (by omega) hcl1000 hI19 i2 i1 LH18.len fun h20 tk20 e20 ch aC2 C20 cR20 le20 lch20 OC20 hch20 len20 hru20 sq20 => ?_
  have sq20 : SQ D h18 h20 := (SQ.of_kb kb19.of_nil).trans sq20
  have OO20 := (sq20.ord OO18).wide (D2 := ⟨none, []⟩) hcp (fun b hb => absurd hb muts_bare)
  have OC20' := OC20.wide (D2 := ⟨none, []⟩) hcp (fun b hb => absurd hb muts_bare)
  have LH20 := sq20.li nH LH18
  have LM20 := sq20.li nM LM18
  have lrD20 := sq20.li nrD lrD18
  have lkD20 := sq20.li nkD lkD18
  have cR21 : CellsR ⟨none, []⟩ g1 h20 env := fun y c hc => ⟨(cR20 y c hc).1, muts_bare, (cR20 y c hc).2.2⟩
  have C21 : Cx w ⟨none, []⟩ g1 h20 env [("changed", .ref aC2), ("due", .tup [.ref rD, .ref kD, .int (runs w.params os ⟨xsH, xsM, 0⟩).st none]), ("orders", .ref aO), ("memory", .ref aM), ("held", .ref aH), ("wanted", .int v1 (some (0, 255)))] ⟨[], [], 0⟩ := by
    refine C20.conv2 C20.sr.bare muts_bare cR21 (conv_he fun p hp => ?_)
    simp only [List.mem_cons, List.not_mem_nil, or_false] at hp
    rcases hp with rfl | rfl | rfl | rfl | rfl | rfl
    · exact ⟨_, lch20, fun rv q => VR.wide hcp (fun b hb => absurd hb muts_bare) _ _ q⟩
    · exact ⟨_, (le20 "due" (by decide) (by decide) (by decide)).trans rfl, fun rv q => VR.wide hcp (fun b hb => absurd hb muts_bare) _ _ q⟩
    · exact ⟨_, (le20 "orders" (by decide) (by decide) (by decide)).trans rfl, fun rv q => VR.wide hcp (fun b hb => absurd hb muts_bare) _ _ q⟩
    · exact ⟨_, (le20 "memory" (by decide) (by decide) (by decide)).trans rfl, fun rv q => VR.wide hcp (fun b hb => absurd hb muts_bare) _ _ q⟩
    · exact ⟨_, (le20 "held" (by decide) (by decide) (by decide)).trans rfl, fun rv q => VR.wide hcp (fun b hb => absurd hb muts_bare) _ _ q⟩
    · exact ⟨_, (le20 "wanted" (by decide) (by decide) (by decide)).trans rfl, fun rv q => VR.wide hcp (fun b hb => absurd hb muts_bare) _ _ q⟩
  clear C20 cR20 le20 lch20 OC20 C18 cR18 OC18 OO18 F18 LH18 LM18 lrD18 lkD18 sq20 kb19 hI19
  have hcp0 : (⟨none, []⟩ : Dm).cpu = none := rfl
  have hm0 : ∀ b, b ∉ muts (⟨none, []⟩ : Dm) := fun b => muts_bare
  have nil0 : ∀ {h h' : Heap}, KB (muts (⟨none, []⟩ : Dm)) h h' → KB [] h h' := fun k b o _ q => k b o (hm0 b) q
  generalize (⟨none, []⟩ : Dm) = D0 at C21 cR21 OC20' OO20 hcp0 hm0 nil0
  clear hcp hfe hcA mD nH nM neH neM nO neO nO14 offO i1 i2 nrD nkD offT
  -- if _law_done(changed, held, memory) != due
  show wpAny _ _ (execs _ _) _ _ _
  refine wpAny_execs_cons (wpAny_If (wpAny_isTrue_Compare1 (doneCall_ok (D := D0) (s := { s with heap := h20, toks := tk20 }) (n := n + 109) (os := ch) (aH := aH) (aM := aM) (R0 := xsH) (M0 := xsM) a' hcp0 (fun b hb => absurd hb (hm0 b)) (by rw [hsc]; rfl) (by rw [hsc]; rfl) (by rw [hsc]; rfl) K C21 hch20 (by omega) LH20 LM20 rfl ?_ fun aT2 h22 tk22 dT2 C22 kb22 => nameA_ok (s := { s with heap := h22, toks := tk22 }) (v := .tup [.ref rD, .ref kD, .int (runs w.params os ⟨xsH, xsM, 0⟩).st none]) (by rw [hsc]; rfl) K C22 fun rv hv => ?_)))
  · intro Q' hq
    refine nameA_ok (s := { s with heap := h20, toks := tk20 }) (v := .ref aC2) (by rw [hsc]; rfl) K C21 fun rv hv => ?_
    simp only [VR] at hv
    subst hv
    exact hq aC2 h20 tk20 (KB.refl _ _) OC20'
  have kb22 : KB [] h20 h22 := kb22
  rw [hru20] at dT2
  have lrD22 := lrD20.kb kb22 (fun z => nomatch z)
  have lkD22 := lkD20.kb kb22 (fun z => nomatch z)
  obtain ⟨aD, rfl, dD⟩ := done_of_vr hv (hm0 _) (hm0 _) lrD22 lkD22
  refine ne_done (s := { s with heap := h22, toks := tk22 }) dT2 dD hu (wpAny_truthy_bool ?_)
  simp only [Bool.false_eq_true, if_false]
  refine wpAny_execs_nil ?_
  have OO22 := OO20.kb kb22.of_nil
  have LH22 := LH20.kb kb22 (fun z => nomatch z)
  have LM22 := LM20.kb kb22 (fun z => nomatch z)
  have cR22 := cR21.mvm kb22.of_nil
  clear dT2 dD hv C21 cR21 OC20' OO20 LH20 LM20 lrD20 lkD20 kb22 hru20 hch20 len20
  -- names
  show wpAny _ _ (execs _ _) _ _ _
  refine wpAny_execs_cons (wpAny_Assign_Name (join_any (D := D0) (s := { s with heap := h22, toks := tk22 }) rfl rfl fun tk23 => namesComp_ok (s := { s with heap := h22, toks := tk23 }) (u := .int v1 (some (0, 255))) a'.hand hcp0 K C22 (by rw [hsc]; rfl) (by rw [hsc]; rfl) (closure1 rfl hc3) (by decide) rfl (by decide) rfl rfl hc3 rfl (by rw [hsc]; rfl) (by unfold relabel Env.kindOf; rw [hsc]; rfl) ?_ fun rv h24 tk24 cs lcs vcs C24 kb24 => ⟨cs, by omega, vcs, fun t25 tk25 => ?_⟩) (notComp_swaps rfl _ _))
  · rintro cA i s₃ E' hi K' ⟨cc, Cc⟩
    exact names_test (by show nameA _ (relabel _ env) _ _ = _; unfold relabel Env.kindOf; rw [hsc]; rfl) (by show nameA _ (relabel _ env) _ _ = _; unfold relabel Env.kindOf; rw [hsc]; rfl) K' Cc fun b tk => ⟨_, _, rfl, KB.refl _ _⟩
  have kb24 : KB [] h22 h24 := kb24
  generalize hnm : (⟨cs.toArray⟩ : Str) = nm
  have nml : nm.length ≤ 20 := by rw [← hnm]; show cs.toArray.size ≤ 20; rw [List.size_toArray]; omega
  refine storeA_ok (s := { s with heap := h24, toks := tk25 }) (v := .str nm) (by rw [hsc]; rfl) K C24 vr_str fun h26 tk26 C26 kb26 _ => ?_
  rw [tch_nil hcp0] at kb26
  have kn26 := KN.of_loc C24 kb26
  have OO26 := kn26.ord (OO22.kb kb24.of_nil)
  have LH26 := kn26.li (LH22.kb kb24 (fun z => nomatch z))
  have LM26 := kn26.li (LM22.kb kb24 (fun z => nomatch z))
  have lrD26 := kn26.li (lrD22.kb kb24 (fun z => nomatch z))
  have lkD26 := kn26.li (lkD22.kb kb24 (fun z => nomatch z))
  clear OO22 LH22 LM22 lrD22 lkD22 cR22 C22 C24 kn26 kb26 kb24 vcs
  -- found
  show wpAny _ _ (execs _ _) _ _ _
  refine wpAny_execs_cons (wpAny_Assign_Name (doneCall_ok (D := D0) (s := { s with heap := h26, toks := tk26 }) (n := n + 109) (os := (need os (nm ++ "M")).1) (aH := aH) (aM := aM) (R0 := xsH) (M0 := xsM) a' hcp0 (fun b hb => absurd hb (hm0 b)) (by rw [hsc]; rfl) (by rw [hsc]; rfl) (by rw [hsc]; rfl) K C26 (fun o ho => hos o (need_sub _ _ o ho)) (by have := need_len os (nm ++ "M"); omega) LH26 LM26 rfl ?_ fun aF h28 tk28 dF C28 kb28 => ?_) (notComp_swaps rfl _ _))
  · intro Q' hq
    refine wpAny_Call_NameR (nameA_ok (s := { s with heap := h26, toks := tk26 }) (v := .ref 466) (by rw [hsc]; rfl) K C26 fun rf hrf => ?_)
    simp only [VR] at hrf
    subst hrf
    refine callWith_K (K := KF w.params) (h₀ := g1) C26.gd.X (show keepIn (KF w.params) (.ref 466) = true by kernel_rfl) (spliced_more (nameA_ok (s := { s with heap := h26, toks := tk26 }) (v := .ref aO) (by rw [hsc]; rfl) K C26 fun ro ho => spliced_more (nameA_ok (s := { s with heap := h26, toks := tk26 }) (v := .str nm) (by rw [hsc]; rfl) K C26 fun rn hn => spliced_none ?_))) rfl rfl
    simp only [VR] at ho hn
    subst ho
    obtain ⟨tn, rfl⟩ := hn
    refine ⟨C26.gd.In (s := { s with heap := h26, toks := tk26 }) C26.sr, wpAny_call (needed_ok (D := D0) (s := { s with heap := h26, toks := tk26 }) (n := n + 189) a' C26.gd hcp0 C26.sr OO26 hos (by omega) nml fun rv h27 tk27 hv _ kb27 => ?_)⟩
    have hv' := hv
    simp only [VR] at hv
    obtain ⟨a9, rvs9, m9, rfl, _⟩ := hv
    exact hq a9 h27 tk27 (nil0 kb27) hv'
  have kb28 : KB [] h26 h28 := kb28
  have lrD28 := lrD26.kb kb28 (fun z => nomatch z)
  have lkD28 := lkD26.kb kb28 (fun z => nomatch z)
  obtain ⟨rF, kF, vF, nrF, nkF, lrF28, lkF28⟩ := dF.vr
  refine storeA_ok (s := { s with heap := h28, toks := tk28 }) (by rw [hsc]; rfl) K C28 vF fun h29 tk29 C29 kb29 _ => ?_
  rw [tch_nil hcp0] at kb29
  have kn29 := KN.of_loc C28 kb29
  have lrD29 := kn29.li lrD28
  have lkD29 := kn29.li lkD28
  have lrF29 := kn29.li lrF28
  have lkF29 := kn29.li lkF28
  clear lrD28 lkD28 lrF28 lkF28 lrD26 lkD26 LH26 LM26 OO26 C26 C28 kn29 kb29 kb28 vF dF
  -- the plain law of what is needed
  have hM : has (nm ++ "M") 77 = true := by
    rw [has_mem, app_cps]
    exact List.mem_append.mpr (.inr (by decide))
  have AG := need_ok (P := w.params) os (nm ++ "M") hM (fun o ho σ hl => inner_some (hos o ho) hl) ⟨xsH, xsM, 0⟩ ⟨xsH, xsM, 0⟩ lH (Agree.refl _ _)
  generalize runs w.params (need os (nm ++ "M")).1 ⟨xsH, xsM, 0⟩ = σF at *
  generalize runs w.params os ⟨xsH, xsM, 0⟩ = σD at *
  -- the last loop
  show wpAny _ _ (execs _ _) _ _ _
  refine wpAny_execs_cons (wpAny_For (enumLetters (s := { s with heap := h29, toks := tk29 }) a'.hand K C29 (by rw [hsc]; rfl) (by rw [hsc]; rfl) fun h30 tk30 tt kb30 en30 it30 sz30 W30 => ?_))
  have kb30 : KB [] h29 h30 := kb30
  obtain ⟨j1, j2, _⟩ := C29.sr.new (Nat.le_succ h29.objs.size)
  obtain ⟨q1, q2, _⟩ := C29.sr.new (Nat.le_refl h29.objs.size)
  have ltk : ∀ {k : Addr} {xs : List Int}, LI h29 k 64 xs → k < h29.objs.size := fun l => by
    obtain ⟨vs, x1, _⟩ := l.isList
    exact isList_lt x1
  have kF1 := ltk lkF29
  have kD1 := ltk lkD29
  refine lastFor_ok (s := { s with heap := h30, toks := tk30 }) (D := D0) (nm := nm) (rF := rF) (kF := kF) (rD := rD) (kD := kD) (σF := σF) (σD := σD) (fF := σF.st) (fD := σD.st) (a'.lower (by omega)) hcp0 K (C29.ext kb30) W30 j2 q2 j1 q1 ⟨⟨_, en30⟩, it30⟩ (by rw [hsc]; rfl) (by rw [hsc]; rfl) (fun e' => by rw [hsc]; exact ⟨rfl, rfl, rfl, rfl, rfl⟩) rfl rfl rfl (lrF29.kb kb30 fun z => nomatch z) (lrD29.kb kb30 fun z => nomatch z) (fun i c hc hh => (AG.reg i c hc ?_).symm) fun h31 tk31 e31 C31 lf31 ld31 keep31 => ?_
  · show has (nm ++ "M") c = true
    rw [has_mem] at hh ⊢
    rw [app_cps]
    exact List.mem_append.mpr (.inl hh)
  have lkF31 := keep31 kF 64 σF.M (Nat.ne_of_lt (Nat.lt_succ_of_lt kF1)) (Nat.ne_of_lt kF1) (lkF29.kb kb30 fun z => nomatch z)
  have lkD31 := keep31 kD 64 σD.M (Nat.ne_of_lt (Nat.lt_succ_of_lt kD1)) (Nat.ne_of_lt kD1) (lkD29.kb kb30 fun z => nomatch z)
  have C32 : Cx w D0 g1 h31 env [("found", .tup [.ref rF, .ref kF, .int σF.st none]), ("due", .tup [.ref rD, .ref kD, .int σD.st none])] _ := C31.pick fun p hp => by
    simp only [List.mem_cons, List.not_mem_nil, or_false] at hp
    rcases hp with rfl | rfl
    · exact lf31
    · exact ld31
  show wpAny _ _ (execs _ _) _ _ _
  refine wpAny_execs_cons (wpAny_Return_some (wpAny_Compare1 (ev (s := { s with heap := h31, toks := tk31 }) (n := 10) (v := .ref kF) (σ' := ⟨[], [], 0⟩) (by rw [hsc]; rfl) (a'.lower (by omega)) K C32 fun r1 h33 tk33 w1 C33 kb33 => ev (s := { s with heap := h33, toks := tk33 }) (n := 10) (v := .ref kD) (σ' := ⟨[], [], 0⟩) (by rw [hsc]; rfl) (a'.lower (by omega)) K C33 fun r2 h34 tk34 w2 C34 kb34 => ?_)))
  rw [tch_nil hcp0] at kb33 kb34
  simp only [VR] at w1 w2
  subst w1 w2
  have kb33 : KB [] h31 h33 := kb33
  have kb34 : KB [] h33 h34 := kb34
  obtain ⟨u1, l1, i1, _⟩ := (lkF31.kb (kb33.trans kb34) fun z => nomatch z).isList
  obtain ⟨u2, l2, i2, _⟩ := (lkD31.kb (kb33.trans kb34) fun z => nomatch z).isList
  refine eq_intsK (s := { s with heap := h34, toks := tk34 }) l1 i1 l2 i2 hu ?_
  rw [AG.mem hM, decide_eq_true rfl]
  refine k h34 tk34 ?_
  have kp := C34.sr.keep
  rw [← hg1] at kp
  exact below_KB (D := ⟨none, []⟩) kp
end
end Mine

open PySem PySem.W PySem.Calls PyProof.Rows PySem.Spec
set_option maxHeartbeats 4000000 in
theorem PySem.Challenge.cw_sm0124_01_holds : PySem.Challenge.rw_sm0124_01.Holds := by
  refine Mine.hd ?_
  intro w s₀ s₁ mg mb G Y fa o pm cd doc dV kV ho hd hcd hD hmg hg args vals as hpre hlay hrd hwl hlo
  have KX : (Mine.heapK w.params).In s₁.heap := kIn_of Y
  refine Ground.open G ?_
  intro T B D TE TW
  have hm : mg "law" = some (.ref 471) := Mine.nsIn_ns KX T.g (by kernel_rfl)
  have hfa : (some (Value.ref fa) : Option Value) = some (.ref 471) := hmg.symm.trans hm
  have hfa : fa = 471 := by
    injection hfa with hfa
    injection hfa
  subst hfa
  clear hmg hm hd hD ho hcd
  wrow_args hpre hlay hrd hwl hlo
  refine enter_call ?_
  refine Mine.law_ok (n := 0) (g := s₁.heap) ⟨rfl, by decide, by decide⟩ ⟨KX, _, _, _, _, topRead_of T⟩ ⟨fun b o q => q, fun b hb => absurd hb Mine.muts_bare, fun W hW => (by cases hW), fun b hb => (by simp at hb)⟩ ‹s₁.heap.IsList _ _› ‹IntsAre _ _› (by omega) fun h' tk kb => ?_
  refine ⟨.inl ⟨_, _, [], rfl, fun _ => rfl, ReadsW.bool true, ?_, fun _ => ⟨List.nodup_nil, fun _ hm => (nomatch hm)⟩⟩, .of_keep fun b o q => kb b o (fun z => nomatch z) q, rfl, .of_eq hg⟩
  wrow_post
