import PyProof.Rows.All
import Wide.All
import OpenK.AllK
import Wide.FinOn
import PySem.Challenge.RW_ok0174_01
open PySem PySem.W PyProof.Rows PySem.Calls
set_option Elab.async false
set_option maxRecDepth 100000
set_option rowWalk.seconds 0
set_option compiler.extract_closed false
set_option genInjectivity false
set_option genSizeOf false
set_option genSizeOfSpec false
set_option linter.all false
namespace Mine
set_option maxHeartbeats 8000000
noncomputable abbrev PP : Program := PySem.Challenge.pw_ok0174_01
noncomputable def envT : Env := { scope := PP.main.scope, locals := mainNs, globals := mainNs, cells := [], code := .ref 13, frame := some 14 }
noncomputable abbrev cT : Code := .body (behindTheImports PP) envT
noncomputable def evens {α : Type} : List α → List α
  | [] => []
  | [x] => [x]
  | x :: _ :: r => x :: evens r
noncomputable def odds {α : Type} : List α → List α
  | [] => []
  | [_] => []
  | _ :: y :: r => y :: odds r
noncomputable def treeOf : Nat → List Obj → BT
  | 0, _ => .nil
  | _ + 1, [] => .nil
  | f + 1, x :: r => .node x (treeOf f (evens r)) (treeOf f (odds r))
noncomputable abbrev bootS (w : World) (os : OsState) : Shared := ⟨boot_heap w.params, Array.mk [], boot_drawn, boot_toks, os⟩
noncomputable def SaF (w : World) (os : OsState) : Shared := match topGo treeTable PP w 11 (some (.ref 6)) 12 (bootS w os) (topStub PP) with
  | some (s, _) => s
  | none => bootS w os
noncomputable def SbF (w : World) (os : OsState) : Shared := match segRun treeTable PP w 11 (some (.ref 6)) 1 1 (SaF w os) (blockOf (behindTheImports PP) envT cT default [topFrame default]) with
  | some (_, s, _) => s
  | none => bootS w os
noncomputable def SbT (w : World) (os : OsState) : SharedT := ⟨treeOf 6 (SbF w os).heap.objs.toList, 15, {}, Array.mk [], {}, 187, os⟩
theorem runA (w : World) : (fun os => topGo treeTable PP w 11 (some (.ref 6)) 12 (bootS w os) (topStub PP)) = fun os => some (SaF w os, ⟨denote treeTable cT, cT, default, [topFrame default]⟩) := by kernel_rfl
theorem runB (w : World) : (fun os => segRun treeTable PP w 11 (some (.ref 6)) 1 1 (SaF w os) (blockOf (behindTheImports PP) envT cT default [topFrame default])) = fun os => some (.next, (SbT w os).abs, cT, default) := by kernel_rfl
noncomputable def dropAt {α : Type} : Nat → List Nat → List α → List α
  | _, _, [] => []
  | i, ks, x :: r => match ks.contains i with
    | true => dropAt (i + 1) ks r
    | false => x :: dropAt (i + 1) ks r
noncomputable def viewQ : Program := { PySem.Challenge.pw_ok0174_01 with main := { PySem.Challenge.pw_ok0174_01.main with body := dropAt 0 [1, 10, 11, 12, 14, 16, 22, 24, 27, 48, 57] PySem.Challenge.pw_ok0174_01.main.body } }
noncomputable def looseQ : List Str := [Str.ofString "GateError", Str.ofString "wrap", Str.ofString "signed", Str.ofString "Tnum", Str.ofString "Scalar", Str.ofString "value_reg", Str.ofString "room_reg"]


noncomputable abbrev oS := Str.ofString
noncomputable abbrev oR := Value.ref
noncomputable abbrev oT (s : Str) (t : Tok) : Value := .str s t
noncomputable abbrev oE (P : Params) (s : Str) (t : Tok) (v : Value) : DictEntry := ⟨PyData.keyHash P s, .str s t, v⟩
noncomputable def fnsIn : List Stmt → List (Nat × Arguments × List Stmt × Scope)
  | [] => []
  | .FunctionDef _ a b _ _ _ sc _ _ pos :: r => (pos.line, a, b, sc) :: fnsIn r
  | _ :: r => fnsIn r
noncomputable def fnsQ : List Stmt → List (Nat × Arguments × List Stmt × Scope)
  | [] => []
  | .FunctionDef _ a b _ _ _ sc _ _ pos :: r => (pos.line, a, b, sc) :: fnsQ r
  | .ClassDef _ _ _ b _ _ _ _ _ _ _ :: r => fnsIn b ++ fnsQ r
  | _ :: r => fnsQ r
noncomputable def fQ (l : Nat) : List (Nat × Arguments × List Stmt × Scope) → Arguments × List Stmt × Scope
  | [] => default
  | x :: r => match Nat.beq x.1 l with
    | true => x.2
    | false => fQ l r
noncomputable def oG (n q : Str) (l : Nat) (gl : Addr) (cl : List (Str × Addr)) (a b c d : Value) (an : Option Addr) (cd ct : Value) (bt : Addr) : FuncData :=
  ⟨n, q, (fQ l (fnsQ PP.main.body)).1, .stmts (fQ l (fnsQ PP.main.body)).2.1, (fQ l (fnsQ PP.main.body)).2.2, gl, cl, a, b, c, d, an, cd, ct, bt⟩
noncomputable def ob0 (P : Params) : List Obj := [
  (PySem.W.boot_o_0 P),
  (PySem.W.boot_o_1 P),
  (Obj.mk Value.none none (Data.dict #[(oE P (oS "type.__subclasses__.Exception.0") 244 (Value.int 46 0)), (oE P (oS "type.__subclasses__.Exception.n") 245 (Value.int 1 0))] 2) #[]),
  (Obj.mk (Value.type "dict") none (Data.dict #[(oE P (oS "__name__") 165 (oT (oS "law_ok0174_01") 1148)), (oE P (oS "__doc__") 166 Value.none), (oE P (oS "__package__") 167 Value.none), (oE P (oS "__loader__") 168 (Value.builtin "__main__.__loader__#opaque")), (oE P (oS "__spec__") 169 Value.none), (oE P (oS "__annotations__") 170 (oR 6)), (oE P (oS "__builtins__") 171 (oR 4)), (oE P (oS "__file__") 173 (oT (oS "/claim/cut.py") 172)), (oE P (oS "__cached__") 174 Value.none), (oE P (oS "_wall") 193 (oR 21)), (oE P (oS "U64") 197 (Value.int 18446744073709551615 196)), (oE P (oS "U32") 199 (Value.int 4294967295 198)), (oE P (oS "S64_MAX") 201 (Value.int 9223372036854775807 200)), (oE P (oS "S64_MIN") 204 (Value.int (Neg.neg 9223372036854775808) 203)), (oE P (oS "S32_MAX") 206 (Value.int 2147483647 205)), (oE P (oS "S32_MIN") 209 (Value.int (Neg.neg 2147483648) 208)), (oE P (oS "GateError") 247 (oR 46)), (oE P (oS "Refusal") 263 (oR 59)), (oE P (oS "wrap") 272 (oR 69)), (oE P (oS "signed") 282 (oR 77)), (oE P (oS "Tnum") 450 (oR 197)), (oE P (oS "Scalar") 640 (oR 310)), (oE P (oS "Reg") 699 (oR 339)), (oE P (oS "none") 705 (oR 350)), (oE P (oS "const_reg") 712 (oR 357)), (oE P (oS "any_number") 718 (oR 364)), (oE P (oS "context_reg") 724 (oR 371)), (oE P (oS "value_reg") 733 (oR 379)), (oE P (oS "stack_reg") 741 (oR 386)), (oE P (oS "room_reg") 750 (oR 394)), (oE P (oS "is_pointer") 757 (oR 401)), (oE P (oS "is_const") 764 (oR 408)), (oE P (oS "SLOT") 768 (Value.int 8 767)), (oE P (oS "STACK_OCTETS") 770 (Value.int 512 769)), (oE P (oS "UNWRITTEN") 772 (oT (oS "--------") 771)), (oE P (oS "SPILLED") 774 (oT (oS "ssssssss") 773)), (oE P (oS "REGISTERS") 776 (Value.int 11 775)), (oE P (oS "Cell") 821 (oR 440)), (oE P (oS "known_octet") 830 (oR 451)), (oE P (oS "unspilled") 840 (oR 458)), (oE P (oS "Frame") 903 (oR 501)), (oE P (oS "State") 1004 (oR 581)), (oE P (oS "new_frame") 1010 (oR 590)), (oE P (oS "first_state") 1017 (oR 597)), (oE P (oS "slot_of") 1024 (oR 604)), (oE P (oS "place_in_slot") 1031 (oR 611)), (oE P (oS "offset_of") 1038 (oR 618)), (oE P (oS "need_within") 1046 (oR 625)), (oE P (oS "is_whole") 1054 (oR 632)), (oE P (oS "put_letters") 1070 (oR 639)), (oE P (oS "letters_of") 1076 (oR 644)), (oE P (oS "stack_write") 1087 (oR 651)), (oE P (oS "MOST_FRAMES") 1091 (Value.int 8 1090)), (oE P (oS "LAST_ARGUMENT") 1093 (Value.int 5 1092)), (oE P (oS "need_number") 1101 (oR 658)), (oE P (oS "forget_arguments") 1109 (oR 665)), (oE P (oS "local_call") 1120 (oR 672)), (oE P (oS "points_to_frame") 1128 (oR 679)), (oE P (oS "check_main_exit") 1136 (oR 686)), (oE P (oS "leave") 1147 (oR 693)), (oE P (oS "_law_draw") 1162 (oR 700)), (oE P (oS "_law_word") 1172 (oR 707)), (oE P (oS "_law_reg") 1179 (oR 714)), (oE P (oS "_law_told") 1186 (oR 721)), (oE P (oS "_law_stands") 1192 (oR 726)), (oE P (oS "_law_heard") 1200 (oR 733)), (oE P (oS "_law_leave_due") 1217 (oR 740)), (oE P (oS "_law_deed") 1239 (oR 747)), (oE P (oS "law") 1245 (oR 752))] 69) #[]),
  (PySem.W.boot_o_4 P),
  (PySem.W.boot_o_5 P),
  (PySem.W.boot_o_6 P),
  (PySem.W.boot_o_7 P),
  (PySem.W.boot_o_8 P),
  (PySem.W.boot_o_9 P),
  (PySem.W.boot_o_10 P),
  (Obj.mk (Value.type "tuple") none (Data.seq #[] 0) #[]),
  (Obj.mk Value.none none (Data.fields #[(Value.int 1 0), (Value.int 0 0), (oR 20), (Value.int 11 0), (Value.int 0 0), (oR 27), (Value.int 20 0), (Value.int 0 0), (oR 55), (Value.int 22 0), (Value.int 0 0), (oR 68), (Value.int 24 0), (Value.int 0 0), (oR 76), (Value.int 28 0), (Value.int 0 0), (oR 83), (Value.int 76 0), (Value.int 0 0), (oR 207), (Value.int 129 0), (Value.int 0 0), (oR 320), (Value.int 143 0), (Value.int 0 0), (oR 349), (Value.int 145 0), (Value.int 0 0), (oR 356), (Value.int 147 0), (Value.int 0 0), (oR 363), (Value.int 149 0), (Value.int 0 0), (oR 370), (Value.int 151 0), (Value.int 0 0), (oR 378), (Value.int 153 0), (Value.int 0 0), (oR 385), (Value.int 155 0), (Value.int 0 0), (oR 393), (Value.int 157 0), (Value.int 0 0), (oR 400), (Value.int 159 0), (Value.int 0 0), (oR 407), (Value.int 167 0), (Value.int 0 0), (oR 414), (Value.int 178 0), (Value.int 0 0), (oR 450), (Value.int 185 0), (Value.int 0 0), (oR 457), (Value.int 193 0), (Value.int 0 0), (oR 464), (Value.int 215 0), (Value.int 0 0), (oR 511), (Value.int 254 0), (Value.int 0 0), (oR 589), (Value.int 258 0), (Value.int 0 0), (oR 596), (Value.int 262 0), (Value.int 0 0), (oR 603), (Value.int 264 0), (Value.int 0 0), (oR 610), (Value.int 266 0), (Value.int 0 0), (oR 617), (Value.int 268 0), (Value.int 0 0), (oR 624), (Value.int 271 0), (Value.int 0 0), (oR 631), (Value.int 273 0), (Value.int 0 0), (oR 638), (Value.int 282 0), (Value.int 0 0), (oR 643), (Value.int 287 0), (Value.int 0 0), (oR 650), (Value.int 298 0), (Value.int 0 0), (oR 657), (Value.int 303 0), (Value.int 0 0), (oR 664), (Value.int 306 0), (Value.int 0 0), (oR 671), (Value.int 314 0), (Value.int 0 0), (oR 678), (Value.int 316 0), (Value.int 0 0), (oR 685), (Value.int 320 0), (Value.int 0 0), (oR 692), (Value.int 334 0), (Value.int 0 0), (oR 699), (Value.int 349 0), (Value.int 0 0), (oR 706), (Value.int 362 0), (Value.int 0 0), (oR 713), (Value.int 374 0), (Value.int 0 0), (oR 720), (Value.int 386 0), (Value.int 0 0), (oR 725), (Value.int 399 0), (Value.int 0 0), (oR 732), (Value.int 404 0), (Value.int 0 0), (oR 739), (Value.int 420 0), (Value.int 0 0), (oR 746), (Value.int 453 0), (Value.int 0 0), (oR 751)]) #[]),
  (Obj.mk (Value.type "code") none (Data.fields #[(oT (oS "<module>") 182), (oT (oS "<module>") 183), (oT (oS "/claim/cut.py") 184), (Value.int 1 0), (Value.int 0 0), (Value.int 0 0), (Value.int 0 0), (Value.int 0 0), (oR 11), (Value.bool Bool.false), (Value.int 181 0), (oR 12), Value.none, Value.none, Value.none, Value.none, (Value.int 185 0), (Value.int 1 0), (oT (oS "/claim/cut.py") 186)]) #[]),
  (Obj.mk (Value.type "frame") none Data.plain #[(some (oR 13)), (some (oR 3)), (some (oR 3)), none, (some (oT (oS "__main__") 164)), none, (some (oR 0))]),
  (Obj.mk (Value.type "tuple") none (Data.seq #[] 0) #[]),
  (Obj.mk Value.none none (Data.fields #[]) #[]),
  (Obj.mk (Value.type "tuple") none (Data.seq #[(oT (oS "k") 190)] 0) #[]),
  (Obj.mk (Value.type "tuple") none (Data.seq #[] 0) #[]),
  (Obj.mk Value.none none (Data.func (oG (oS "_wall") (oS "_wall") 1 0 [] Value.none Value.none Value.none Value.none none Value.none Value.none 0)) #[]),
  (Obj.mk (Value.type "code") none (Data.fields #[(oT (oS "_wall") 187), (oT (oS "_wall") 188), (oT (oS "/claim/cut.py") 189), (Value.int 1 0), (Value.int 1 0), (Value.int 0 0), (Value.int 0 0), (Value.int 3 0), (oR 15), (Value.bool Bool.true), (Value.int 181 0), (oR 16), Value.none, (oR 17), (oR 18), (oR 19), (Value.int 191 0), (Value.int 1 0), (oT (oS "/claim/cut.py") 192)]) #[]),
  (Obj.mk (Value.type "function") none (Data.func (oG (oS "_wall") (oS "_wall") 1 3 [] Value.none Value.none Value.none (oT (oS "__main__") 164) none (oR 20) Value.none 0)) #[]),
  (Obj.mk (Value.type "tuple") none (Data.seq #[(Value.type "Exception")] 0) #[]),
  (Obj.mk (Value.type "builtin_function_or_method") none (Data.fields #[(Value.builtin "type.__prepare__"), (Value.type "type")]) #[]),
  (Obj.mk (Value.type "dict") none (Data.dict #[(oE P (oS "__module__") 217 (oT (oS "ringgate.basics") 194)), (oE P (oS "__qualname__") 219 (oT (oS "GateError") 218)), (oE P (oS "__firstlineno__") 221 (Value.int 11 220)), (oE P (oS "__init__") 230 (oR 36)), (oE P (oS "told") 237 (oR 43)), (oE P (oS "__static_attributes__") 240 (oR 44))] 6) #[]),
  (Obj.mk (Value.type "tuple") none (Data.seq #[] 0) #[]),
  (Obj.mk Value.none none (Data.fields #[(Value.int 13 0), (Value.int 4 0), (oR 35), (Value.int 18 0), (Value.int 4 0), (oR 42)]) #[]),
  (Obj.mk (Value.type "code") none (Data.fields #[(oT (oS "GateError") 212), (oT (oS "GateError") 213), (oT (oS "/claim/cut.py") 214), (Value.int 11 0), (Value.int 0 0), (Value.int 0 0), (Value.int 0 0), (Value.int 0 0), (oR 25), (Value.bool Bool.false), (Value.int 181 0), (oR 26), Value.none, Value.none, Value.none, Value.none, (Value.int 215 0), (Value.int 11 0), (oT (oS "/claim/cut.py") 216)]) #[]),
  (Obj.mk (Value.type "frame") none Data.plain #[(some (oR 27)), (some (oR 3)), (some (oR 24)), none, (some (oT (oS "ringgate.basics") 194)), none, (some (oR 0))]),
  (Obj.mk (Value.type "tuple") none (Data.seq #[Value.none] 0) #[]),
  (Obj.mk (Value.type "tuple") none (Data.seq #[] 0) #[]),
  (Obj.mk Value.none none (Data.fields #[]) #[]),
  (Obj.mk (Value.type "tuple") none (Data.seq #[(oT (oS "self") 225), (oT (oS "what") 226), (oT (oS "at") 227)] 0) #[]),
  (Obj.mk (Value.type "tuple") none (Data.seq #[] 0) #[]),
  (Obj.mk Value.none none (Data.func (oG (oS "__init__") (oS "GateError.__init__") 13 0 [] Value.none Value.none Value.none Value.none none Value.none Value.none 0)) #[]),
  (Obj.mk (Value.type "code") none (Data.fields #[(oT (oS "__init__") 222), (oT (oS "GateError.__init__") 223), (oT (oS "/claim/cut.py") 224), (Value.int 13 0), (Value.int 3 0), (Value.int 0 0), (Value.int 0 0), (Value.int 3 0), (oR 30), (Value.bool Bool.true), (Value.int 181 0), (oR 31), Value.none, (oR 32), (oR 33), (oR 34), (Value.int 228 0), (Value.int 13 0), (oT (oS "/claim/cut.py") 229)]) #[]),
  (Obj.mk (Value.type "function") none (Data.func (oG (oS "__init__") (oS "GateError.__init__") 13 3 [] (oR 29) Value.none Value.none (oT (oS "ringgate.basics") 194) none (oR 35) Value.none 0)) #[]),
  (Obj.mk (Value.type "tuple") none (Data.seq #[] 0) #[]),
  (Obj.mk Value.none none (Data.fields #[]) #[]),
  (Obj.mk (Value.type "tuple") none (Data.seq #[(oT (oS "self") 234)] 0) #[])]
noncomputable def ob1 (P : Params) : List Obj := [
  (Obj.mk (Value.type "tuple") none (Data.seq #[] 0) #[]),
  (Obj.mk Value.none none (Data.func (oG (oS "told") (oS "GateError.told") 18 0 [] Value.none Value.none Value.none Value.none none Value.none Value.none 0)) #[]),
  (Obj.mk (Value.type "code") none (Data.fields #[(oT (oS "told") 231), (oT (oS "GateError.told") 232), (oT (oS "/claim/cut.py") 233), (Value.int 18 0), (Value.int 1 0), (Value.int 0 0), (Value.int 0 0), (Value.int 3 0), (oR 37), (Value.bool Bool.true), (Value.int 181 0), (oR 38), Value.none, (oR 39), (oR 40), (oR 41), (Value.int 235 0), (Value.int 18 0), (oT (oS "/claim/cut.py") 236)]) #[]),
  (Obj.mk (Value.type "function") none (Data.func (oG (oS "told") (oS "GateError.told") 18 3 [] Value.none Value.none Value.none (oT (oS "ringgate.basics") 194) none (oR 42) Value.none 0)) #[]),
  (Obj.mk (Value.type "tuple") none (Data.seq #[(oT (oS "at") 238), (oT (oS "what") 239)] 0) #[]),
  (Obj.mk (Value.type "dict") none (Data.dict #[(oE P (oS "__module__") 217 (oT (oS "ringgate.basics") 194)), (oE P (oS "__firstlineno__") 221 (Value.int 11 220)), (oE P (oS "__init__") 230 (oR 36)), (oE P (oS "told") 237 (oR 43)), (oE P (oS "__static_attributes__") 240 (oR 44)), (oE P (oS "__weakref__") 242 (oR 47)), (oE P (oS "__doc__") 243 Value.none)] 3) #[]),
  (Obj.mk (Value.type "type") none (Data.cls (ClassData.mk (oS "GateError") [(Value.type "Exception")] [(oR 46), (Value.type "Exception"), (Value.type "BaseException"), (Value.type "object")] 45 (oS "GateError") Bool.true [] [(oR 59)] Bool.false none Bool.false)) #[(some (oR 22)), none, (some (oT (oS "GateError") 210)), (some (oT (oS "GateError") 218)), (some (Value.builtin "Exception.__new__")), (some (Value.bool Bool.true))]),
  (Obj.mk (Value.type "getset_descriptor") none (Data.fields #[(oT (oS "__weakref__") 241), (oR 46), (Value.builtin "ExceptionGroup.__weakref__"), Value.none]) #[]),
  (Obj.mk (Value.type "super") none (Data.fields #[(oR 46), (oR 46), (oR 46)]) #[]),
  (Obj.mk (Value.type "builtin_function_or_method") none (Data.fields #[(Value.builtin "object.__init_subclass__"), (oR 46)]) #[]),
  (Obj.mk (Value.type "tuple") none (Data.seq #[(oR 46)] 0) #[]),
  (Obj.mk (Value.type "builtin_function_or_method") none (Data.fields #[(Value.builtin "type.__prepare__"), (Value.type "type")]) #[]),
  (Obj.mk (Value.type "dict") none (Data.dict #[(oE P (oS "__module__") 255 (oT (oS "ringgate.basics") 194)), (oE P (oS "__qualname__") 257 (oT (oS "Refusal") 256)), (oE P (oS "__firstlineno__") 259 (Value.int 20 258)), (oE P (oS "__static_attributes__") 260 (oR 57))] 4) #[]),
  (Obj.mk (Value.type "tuple") none (Data.seq #[] 0) #[]),
  (Obj.mk Value.none none (Data.fields #[]) #[]),
  (Obj.mk (Value.type "code") none (Data.fields #[(oT (oS "Refusal") 250), (oT (oS "Refusal") 251), (oT (oS "/claim/cut.py") 252), (Value.int 20 0), (Value.int 0 0), (Value.int 0 0), (Value.int 0 0), (Value.int 0 0), (oR 53), (Value.bool Bool.false), (Value.int 181 0), (oR 54), Value.none, Value.none, Value.none, Value.none, (Value.int 253 0), (Value.int 20 0), (oT (oS "/claim/cut.py") 254)]) #[]),
  (Obj.mk (Value.type "frame") none Data.plain #[(some (oR 55)), (some (oR 3)), (some (oR 52)), none, (some (oT (oS "ringgate.basics") 194)), none, (some (oR 0))]),
  (Obj.mk (Value.type "tuple") none (Data.seq #[] 0) #[]),
  (Obj.mk (Value.type "dict") none (Data.dict #[(oE P (oS "__module__") 255 (oT (oS "ringgate.basics") 194)), (oE P (oS "__firstlineno__") 259 (Value.int 20 258)), (oE P (oS "__static_attributes__") 260 (oR 57)), (oE P (oS "__doc__") 261 Value.none)] 2) #[]),
  (Obj.mk (Value.type "type") none (Data.cls (ClassData.mk (oS "Refusal") [(oR 46)] [(oR 59), (oR 46), (Value.type "Exception"), (Value.type "BaseException"), (Value.type "object")] 58 (oS "Refusal") Bool.true [] [] Bool.false none Bool.false)) #[(some (oR 50)), none, (some (oT (oS "Refusal") 248)), (some (oT (oS "Refusal") 256)), (some (Value.builtin "Exception.__new__")), (some (Value.bool Bool.true))]),
  (Obj.mk (Value.type "super") none (Data.fields #[(oR 59), (oR 59), (oR 59)]) #[]),
  (Obj.mk (Value.type "builtin_function_or_method") none (Data.fields #[(Value.builtin "object.__init_subclass__"), (oR 59)]) #[]),
  (Obj.mk (Value.type "tuple") none (Data.seq #[(Value.int 64 264)] 0) #[]),
  (Obj.mk (Value.type "tuple") none (Data.seq #[] 0) #[]),
  (Obj.mk Value.none none (Data.fields #[]) #[]),
  (Obj.mk (Value.type "tuple") none (Data.seq #[(oT (oS "worth") 268), (oT (oS "size") 269)] 0) #[]),
  (Obj.mk (Value.type "tuple") none (Data.seq #[] 0) #[]),
  (Obj.mk Value.none none (Data.func (oG (oS "wrap") (oS "wrap") 22 0 [] Value.none Value.none Value.none Value.none none Value.none Value.none 0)) #[]),
  (Obj.mk (Value.type "code") none (Data.fields #[(oT (oS "wrap") 265), (oT (oS "wrap") 266), (oT (oS "/claim/cut.py") 267), (Value.int 22 0), (Value.int 2 0), (Value.int 0 0), (Value.int 0 0), (Value.int 3 0), (oR 63), (Value.bool Bool.true), (Value.int 181 0), (oR 64), Value.none, (oR 65), (oR 66), (oR 67), (Value.int 270 0), (Value.int 22 0), (oT (oS "/claim/cut.py") 271)]) #[]),
  (Obj.mk (Value.type "function") none (Data.func (oG (oS "wrap") (oS "wrap") 22 3 [] (oR 62) Value.none Value.none (oT (oS "ringgate.basics") 194) none (oR 68) Value.none 0)) #[]),
  (Obj.mk (Value.type "tuple") none (Data.seq #[(Value.int 64 273)] 0) #[]),
  (Obj.mk (Value.type "tuple") none (Data.seq #[] 0) #[]),
  (Obj.mk Value.none none (Data.fields #[]) #[]),
  (Obj.mk (Value.type "tuple") none (Data.seq #[(oT (oS "worth") 277), (oT (oS "size") 278), (oT (oS "low") 279)] 0) #[]),
  (Obj.mk (Value.type "tuple") none (Data.seq #[] 0) #[]),
  (Obj.mk Value.none none (Data.func (oG (oS "signed") (oS "signed") 24 0 [] Value.none Value.none Value.none Value.none none Value.none Value.none 0)) #[]),
  (Obj.mk (Value.type "code") none (Data.fields #[(oT (oS "signed") 274), (oT (oS "signed") 275), (oT (oS "/claim/cut.py") 276), (Value.int 24 0), (Value.int 2 0), (Value.int 0 0), (Value.int 0 0), (Value.int 3 0), (oR 71), (Value.bool Bool.true), (Value.int 181 0), (oR 72), Value.none, (oR 73), (oR 74), (oR 75), (Value.int 280 0), (Value.int 24 0), (oT (oS "/claim/cut.py") 281)]) #[]),
  (Obj.mk (Value.type "function") none (Data.func (oG (oS "signed") (oS "signed") 24 3 [] (oR 70) Value.none Value.none (oT (oS "ringgate.basics") 194) none (oR 76) Value.none 0)) #[]),
  (Obj.mk (Value.type "tuple") none (Data.seq #[] 0) #[]),
  (Obj.mk (Value.type "builtin_function_or_method") none (Data.fields #[(Value.builtin "type.__prepare__"), (Value.type "type")]) #[])]
noncomputable def ob2 (P : Params) : List Obj := [
  (Obj.mk (Value.type "dict") none (Data.dict #[(oE P (oS "__module__") 292 (oT (oS "ringgate.tnum") 283)), (oE P (oS "__qualname__") 294 (oT (oS "Tnum") 293)), (oE P (oS "__firstlineno__") 296 (Value.int 28 295)), (oE P (oS "__init__") 305 (oR 91)), (oE P (oS "const") 324 (oR 100)), (oE P (oS "unknown") 342 (oR 110)), (oE P (oS "span") 362 (oR 120)), (oE P (oS "contains") 370 (oR 128)), (oE P (oS "is_const") 377 (oR 135)), (oE P (oS "least") 384 (oR 142)), (oE P (oS "most") 391 (oR 149)), (oE P (oS "signed_least") 400 (oR 157)), (oE P (oS "signed_most") 409 (oR 165)), (oE P (oS "is_aligned") 417 (oR 172)), (oE P (oS "free_bits") 424 (oR 179)), (oE P (oS "told") 431 (oR 186)), (oE P (oS "show") 440 (oR 194)), (oE P (oS "__static_attributes__") 443 (oR 195))] 18) #[]),
  (Obj.mk (Value.type "tuple") none (Data.seq #[] 0) #[]),
  (Obj.mk Value.none none (Data.fields #[(Value.int 30 0), (Value.int 4 0), (oR 90), (Value.int 35 0), (Value.int 4 0), (oR 97), (Value.int 39 0), (Value.int 4 0), (oR 107), (Value.int 43 0), (Value.int 4 0), (oR 117), (Value.int 46 0), (Value.int 4 0), (oR 127), (Value.int 49 0), (Value.int 4 0), (oR 134), (Value.int 52 0), (Value.int 4 0), (oR 141), (Value.int 55 0), (Value.int 4 0), (oR 148), (Value.int 58 0), (Value.int 4 0), (oR 156), (Value.int 61 0), (Value.int 4 0), (oR 164), (Value.int 64 0), (Value.int 4 0), (oR 171), (Value.int 67 0), (Value.int 4 0), (oR 178), (Value.int 70 0), (Value.int 4 0), (oR 185), (Value.int 73 0), (Value.int 4 0), (oR 193)]) #[]),
  (Obj.mk (Value.type "code") none (Data.fields #[(oT (oS "Tnum") 287), (oT (oS "Tnum") 288), (oT (oS "/claim/cut.py") 289), (Value.int 28 0), (Value.int 0 0), (Value.int 0 0), (Value.int 0 0), (Value.int 0 0), (oR 81), (Value.bool Bool.false), (Value.int 181 0), (oR 82), Value.none, Value.none, Value.none, Value.none, (Value.int 290 0), (Value.int 28 0), (oT (oS "/claim/cut.py") 291)]) #[]),
  (Obj.mk (Value.type "frame") none Data.plain #[(some (oR 83)), (some (oR 3)), (some (oR 80)), none, (some (oT (oS "ringgate.tnum") 283)), none, (some (oR 0))]),
  (Obj.mk (Value.type "tuple") none (Data.seq #[] 0) #[]),
  (Obj.mk Value.none none (Data.fields #[]) #[]),
  (Obj.mk (Value.type "tuple") none (Data.seq #[(oT (oS "self") 300), (oT (oS "value") 301), (oT (oS "mask") 302)] 0) #[]),
  (Obj.mk (Value.type "tuple") none (Data.seq #[] 0) #[]),
  (Obj.mk Value.none none (Data.func (oG (oS "__init__") (oS "Tnum.__init__") 30 0 [] Value.none Value.none Value.none Value.none none Value.none Value.none 0)) #[]),
  (Obj.mk (Value.type "code") none (Data.fields #[(oT (oS "__init__") 297), (oT (oS "Tnum.__init__") 298), (oT (oS "/claim/cut.py") 299), (Value.int 30 0), (Value.int 3 0), (Value.int 0 0), (Value.int 0 0), (Value.int 3 0), (oR 85), (Value.bool Bool.true), (Value.int 181 0), (oR 86), Value.none, (oR 87), (oR 88), (oR 89), (Value.int 303 0), (Value.int 30 0), (oT (oS "/claim/cut.py") 304)]) #[]),
  (Obj.mk (Value.type "function") none (Data.func (oG (oS "__init__") (oS "Tnum.__init__") 30 3 [] Value.none Value.none Value.none (oT (oS "ringgate.tnum") 283) none (oR 90) Value.none 0)) #[]),
  (Obj.mk (Value.type "tuple") none (Data.seq #[] 0) #[]),
  (Obj.mk Value.none none (Data.fields #[]) #[]),
  (Obj.mk (Value.type "tuple") none (Data.seq #[(oT (oS "worth") 309)] 0) #[]),
  (Obj.mk (Value.type "tuple") none (Data.seq #[] 0) #[]),
  (Obj.mk Value.none none (Data.func (oG (oS "const") (oS "Tnum.const") 35 0 [] Value.none Value.none Value.none Value.none none Value.none Value.none 0)) #[]),
  (Obj.mk (Value.type "code") none (Data.fields #[(oT (oS "const") 306), (oT (oS "Tnum.const") 307), (oT (oS "/claim/cut.py") 308), (Value.int 34 0), (Value.int 1 0), (Value.int 0 0), (Value.int 0 0), (Value.int 3 0), (oR 92), (Value.bool Bool.true), (Value.int 181 0), (oR 93), Value.none, (oR 94), (oR 95), (oR 96), (Value.int 310 0), (Value.int 34 0), (oT (oS "/claim/cut.py") 311)]) #[]),
  (Obj.mk (Value.type "function") none (Data.func (oG (oS "const") (oS "Tnum.const") 35 3 [] Value.none Value.none Value.none (oT (oS "ringgate.tnum") 283) (some 101) (oR 97) Value.none 0)) #[]),
  (Obj.mk (Value.type "dict") none (Data.dict #[(oE P (oS "__module__") 313 (oT (oS "ringgate.tnum") 283)), (oE P (oS "__name__") 316 (oT (oS "const") 315)), (oE P (oS "__qualname__") 319 (oT (oS "Tnum.const") 318)), (oE P (oS "__doc__") 321 Value.none), (oE P (oS "__annotations__") 323 (oR 101))] 5) #[]),
  (Obj.mk (Value.type "staticmethod") (some 99) (Data.fields #[(oR 98), (Value.bool Bool.false)]) #[]),
  (Obj.mk (Value.type "dict") none (Data.dict #[] 0) #[]),
  (Obj.mk (Value.type "tuple") none (Data.seq #[] 0) #[]),
  (Obj.mk Value.none none (Data.fields #[]) #[]),
  (Obj.mk (Value.type "tuple") none (Data.seq #[] 0) #[]),
  (Obj.mk (Value.type "tuple") none (Data.seq #[] 0) #[]),
  (Obj.mk Value.none none (Data.func (oG (oS "unknown") (oS "Tnum.unknown") 39 0 [] Value.none Value.none Value.none Value.none none Value.none Value.none 0)) #[]),
  (Obj.mk (Value.type "code") none (Data.fields #[(oT (oS "unknown") 325), (oT (oS "Tnum.unknown") 326), (oT (oS "/claim/cut.py") 327), (Value.int 38 0), (Value.int 0 0), (Value.int 0 0), (Value.int 0 0), (Value.int 3 0), (oR 102), (Value.bool Bool.true), (Value.int 181 0), (oR 103), Value.none, (oR 104), (oR 105), (oR 106), (Value.int 328 0), (Value.int 38 0), (oT (oS "/claim/cut.py") 329)]) #[]),
  (Obj.mk (Value.type "function") none (Data.func (oG (oS "unknown") (oS "Tnum.unknown") 39 3 [] Value.none Value.none Value.none (oT (oS "ringgate.tnum") 283) (some 111) (oR 107) Value.none 0)) #[]),
  (Obj.mk (Value.type "dict") none (Data.dict #[(oE P (oS "__module__") 331 (oT (oS "ringgate.tnum") 283)), (oE P (oS "__name__") 334 (oT (oS "unknown") 333)), (oE P (oS "__qualname__") 337 (oT (oS "Tnum.unknown") 336)), (oE P (oS "__doc__") 339 Value.none), (oE P (oS "__annotations__") 341 (oR 111))] 5) #[]),
  (Obj.mk (Value.type "staticmethod") (some 109) (Data.fields #[(oR 108), (Value.bool Bool.false)]) #[]),
  (Obj.mk (Value.type "dict") none (Data.dict #[] 0) #[]),
  (Obj.mk (Value.type "tuple") none (Data.seq #[] 0) #[]),
  (Obj.mk Value.none none (Data.fields #[]) #[]),
  (Obj.mk (Value.type "tuple") none (Data.seq #[(oT (oS "least") 346), (oT (oS "most") 347)] 0) #[]),
  (Obj.mk (Value.type "tuple") none (Data.seq #[] 0) #[]),
  (Obj.mk Value.none none (Data.func (oG (oS "span") (oS "Tnum.span") 43 0 [] Value.none Value.none Value.none Value.none none Value.none Value.none 0)) #[]),
  (Obj.mk (Value.type "code") none (Data.fields #[(oT (oS "span") 343), (oT (oS "Tnum.span") 344), (oT (oS "/claim/cut.py") 345), (Value.int 42 0), (Value.int 2 0), (Value.int 0 0), (Value.int 0 0), (Value.int 3 0), (oR 112), (Value.bool Bool.true), (Value.int 181 0), (oR 113), Value.none, (oR 114), (oR 115), (oR 116), (Value.int 348 0), (Value.int 42 0), (oT (oS "/claim/cut.py") 349)]) #[]),
  (Obj.mk (Value.type "function") none (Data.func (oG (oS "span") (oS "Tnum.span") 43 3 [] Value.none Value.none Value.none (oT (oS "ringgate.tnum") 283) (some 121) (oR 117) Value.none 0)) #[]),
  (Obj.mk (Value.type "dict") none (Data.dict #[(oE P (oS "__module__") 351 (oT (oS "ringgate.tnum") 283)), (oE P (oS "__name__") 354 (oT (oS "span") 353)), (oE P (oS "__qualname__") 357 (oT (oS "Tnum.span") 356)), (oE P (oS "__doc__") 359 Value.none), (oE P (oS "__annotations__") 361 (oR 121))] 5) #[])]
noncomputable def ob3 (P : Params) : List Obj := [
  (Obj.mk (Value.type "staticmethod") (some 119) (Data.fields #[(oR 118), (Value.bool Bool.false)]) #[]),
  (Obj.mk (Value.type "dict") none (Data.dict #[] 0) #[]),
  (Obj.mk (Value.type "tuple") none (Data.seq #[] 0) #[]),
  (Obj.mk Value.none none (Data.fields #[]) #[]),
  (Obj.mk (Value.type "tuple") none (Data.seq #[(oT (oS "self") 366), (oT (oS "worth") 367)] 0) #[]),
  (Obj.mk (Value.type "tuple") none (Data.seq #[] 0) #[]),
  (Obj.mk Value.none none (Data.func (oG (oS "contains") (oS "Tnum.contains") 46 0 [] Value.none Value.none Value.none Value.none none Value.none Value.none 0)) #[]),
  (Obj.mk (Value.type "code") none (Data.fields #[(oT (oS "contains") 363), (oT (oS "Tnum.contains") 364), (oT (oS "/claim/cut.py") 365), (Value.int 46 0), (Value.int 2 0), (Value.int 0 0), (Value.int 0 0), (Value.int 3 0), (oR 122), (Value.bool Bool.true), (Value.int 181 0), (oR 123), Value.none, (oR 124), (oR 125), (oR 126), (Value.int 368 0), (Value.int 46 0), (oT (oS "/claim/cut.py") 369)]) #[]),
  (Obj.mk (Value.type "function") none (Data.func (oG (oS "contains") (oS "Tnum.contains") 46 3 [] Value.none Value.none Value.none (oT (oS "ringgate.tnum") 283) none (oR 127) Value.none 0)) #[]),
  (Obj.mk (Value.type "tuple") none (Data.seq #[] 0) #[]),
  (Obj.mk Value.none none (Data.fields #[]) #[]),
  (Obj.mk (Value.type "tuple") none (Data.seq #[(oT (oS "self") 374)] 0) #[]),
  (Obj.mk (Value.type "tuple") none (Data.seq #[] 0) #[]),
  (Obj.mk Value.none none (Data.func (oG (oS "is_const") (oS "Tnum.is_const") 49 0 [] Value.none Value.none Value.none Value.none none Value.none Value.none 0)) #[]),
  (Obj.mk (Value.type "code") none (Data.fields #[(oT (oS "is_const") 371), (oT (oS "Tnum.is_const") 372), (oT (oS "/claim/cut.py") 373), (Value.int 49 0), (Value.int 1 0), (Value.int 0 0), (Value.int 0 0), (Value.int 3 0), (oR 129), (Value.bool Bool.true), (Value.int 181 0), (oR 130), Value.none, (oR 131), (oR 132), (oR 133), (Value.int 375 0), (Value.int 49 0), (oT (oS "/claim/cut.py") 376)]) #[]),
  (Obj.mk (Value.type "function") none (Data.func (oG (oS "is_const") (oS "Tnum.is_const") 49 3 [] Value.none Value.none Value.none (oT (oS "ringgate.tnum") 283) none (oR 134) Value.none 0)) #[]),
  (Obj.mk (Value.type "tuple") none (Data.seq #[] 0) #[]),
  (Obj.mk Value.none none (Data.fields #[]) #[]),
  (Obj.mk (Value.type "tuple") none (Data.seq #[(oT (oS "self") 381)] 0) #[]),
  (Obj.mk (Value.type "tuple") none (Data.seq #[] 0) #[]),
  (Obj.mk Value.none none (Data.func (oG (oS "least") (oS "Tnum.least") 52 0 [] Value.none Value.none Value.none Value.none none Value.none Value.none 0)) #[]),
  (Obj.mk (Value.type "code") none (Data.fields #[(oT (oS "least") 378), (oT (oS "Tnum.least") 379), (oT (oS "/claim/cut.py") 380), (Value.int 52 0), (Value.int 1 0), (Value.int 0 0), (Value.int 0 0), (Value.int 3 0), (oR 136), (Value.bool Bool.true), (Value.int 181 0), (oR 137), Value.none, (oR 138), (oR 139), (oR 140), (Value.int 382 0), (Value.int 52 0), (oT (oS "/claim/cut.py") 383)]) #[]),
  (Obj.mk (Value.type "function") none (Data.func (oG (oS "least") (oS "Tnum.least") 52 3 [] Value.none Value.none Value.none (oT (oS "ringgate.tnum") 283) none (oR 141) Value.none 0)) #[]),
  (Obj.mk (Value.type "tuple") none (Data.seq #[] 0) #[]),
  (Obj.mk Value.none none (Data.fields #[]) #[]),
  (Obj.mk (Value.type "tuple") none (Data.seq #[(oT (oS "self") 388)] 0) #[]),
  (Obj.mk (Value.type "tuple") none (Data.seq #[] 0) #[]),
  (Obj.mk Value.none none (Data.func (oG (oS "most") (oS "Tnum.most") 55 0 [] Value.none Value.none Value.none Value.none none Value.none Value.none 0)) #[]),
  (Obj.mk (Value.type "code") none (Data.fields #[(oT (oS "most") 385), (oT (oS "Tnum.most") 386), (oT (oS "/claim/cut.py") 387), (Value.int 55 0), (Value.int 1 0), (Value.int 0 0), (Value.int 0 0), (Value.int 3 0), (oR 143), (Value.bool Bool.true), (Value.int 181 0), (oR 144), Value.none, (oR 145), (oR 146), (oR 147), (Value.int 389 0), (Value.int 55 0), (oT (oS "/claim/cut.py") 390)]) #[]),
  (Obj.mk (Value.type "function") none (Data.func (oG (oS "most") (oS "Tnum.most") 55 3 [] Value.none Value.none Value.none (oT (oS "ringgate.tnum") 283) none (oR 148) Value.none 0)) #[]),
  (Obj.mk (Value.type "tuple") none (Data.seq #[(Value.int 64 392)] 0) #[]),
  (Obj.mk (Value.type "tuple") none (Data.seq #[] 0) #[]),
  (Obj.mk Value.none none (Data.fields #[]) #[]),
  (Obj.mk (Value.type "tuple") none (Data.seq #[(oT (oS "self") 396), (oT (oS "size") 397)] 0) #[]),
  (Obj.mk (Value.type "tuple") none (Data.seq #[] 0) #[]),
  (Obj.mk Value.none none (Data.func (oG (oS "signed_least") (oS "Tnum.signed_least") 58 0 [] Value.none Value.none Value.none Value.none none Value.none Value.none 0)) #[]),
  (Obj.mk (Value.type "code") none (Data.fields #[(oT (oS "signed_least") 393), (oT (oS "Tnum.signed_least") 394), (oT (oS "/claim/cut.py") 395), (Value.int 58 0), (Value.int 2 0), (Value.int 0 0), (Value.int 0 0), (Value.int 3 0), (oR 151), (Value.bool Bool.true), (Value.int 181 0), (oR 152), Value.none, (oR 153), (oR 154), (oR 155), (Value.int 398 0), (Value.int 58 0), (oT (oS "/claim/cut.py") 399)]) #[]),
  (Obj.mk (Value.type "function") none (Data.func (oG (oS "signed_least") (oS "Tnum.signed_least") 58 3 [] (oR 150) Value.none Value.none (oT (oS "ringgate.tnum") 283) none (oR 156) Value.none 0)) #[]),
  (Obj.mk (Value.type "tuple") none (Data.seq #[(Value.int 64 401)] 0) #[]),
  (Obj.mk (Value.type "tuple") none (Data.seq #[] 0) #[])]
noncomputable def ob4 (P : Params) : List Obj := [
  (Obj.mk Value.none none (Data.fields #[]) #[]),
  (Obj.mk (Value.type "tuple") none (Data.seq #[(oT (oS "self") 405), (oT (oS "size") 406)] 0) #[]),
  (Obj.mk (Value.type "tuple") none (Data.seq #[] 0) #[]),
  (Obj.mk Value.none none (Data.func (oG (oS "signed_most") (oS "Tnum.signed_most") 61 0 [] Value.none Value.none Value.none Value.none none Value.none Value.none 0)) #[]),
  (Obj.mk (Value.type "code") none (Data.fields #[(oT (oS "signed_most") 402), (oT (oS "Tnum.signed_most") 403), (oT (oS "/claim/cut.py") 404), (Value.int 61 0), (Value.int 2 0), (Value.int 0 0), (Value.int 0 0), (Value.int 3 0), (oR 159), (Value.bool Bool.true), (Value.int 181 0), (oR 160), Value.none, (oR 161), (oR 162), (oR 163), (Value.int 407 0), (Value.int 61 0), (oT (oS "/claim/cut.py") 408)]) #[]),
  (Obj.mk (Value.type "function") none (Data.func (oG (oS "signed_most") (oS "Tnum.signed_most") 61 3 [] (oR 158) Value.none Value.none (oT (oS "ringgate.tnum") 283) none (oR 164) Value.none 0)) #[]),
  (Obj.mk (Value.type "tuple") none (Data.seq #[] 0) #[]),
  (Obj.mk Value.none none (Data.fields #[]) #[]),
  (Obj.mk (Value.type "tuple") none (Data.seq #[(oT (oS "self") 413), (oT (oS "width") 414)] 0) #[]),
  (Obj.mk (Value.type "tuple") none (Data.seq #[] 0) #[]),
  (Obj.mk Value.none none (Data.func (oG (oS "is_aligned") (oS "Tnum.is_aligned") 64 0 [] Value.none Value.none Value.none Value.none none Value.none Value.none 0)) #[]),
  (Obj.mk (Value.type "code") none (Data.fields #[(oT (oS "is_aligned") 410), (oT (oS "Tnum.is_aligned") 411), (oT (oS "/claim/cut.py") 412), (Value.int 64 0), (Value.int 2 0), (Value.int 0 0), (Value.int 0 0), (Value.int 3 0), (oR 166), (Value.bool Bool.true), (Value.int 181 0), (oR 167), Value.none, (oR 168), (oR 169), (oR 170), (Value.int 415 0), (Value.int 64 0), (oT (oS "/claim/cut.py") 416)]) #[]),
  (Obj.mk (Value.type "function") none (Data.func (oG (oS "is_aligned") (oS "Tnum.is_aligned") 64 3 [] Value.none Value.none Value.none (oT (oS "ringgate.tnum") 283) none (oR 171) Value.none 0)) #[]),
  (Obj.mk (Value.type "tuple") none (Data.seq #[] 0) #[]),
  (Obj.mk Value.none none (Data.fields #[]) #[]),
  (Obj.mk (Value.type "tuple") none (Data.seq #[(oT (oS "self") 421)] 0) #[]),
  (Obj.mk (Value.type "tuple") none (Data.seq #[] 0) #[]),
  (Obj.mk Value.none none (Data.func (oG (oS "free_bits") (oS "Tnum.free_bits") 67 0 [] Value.none Value.none Value.none Value.none none Value.none Value.none 0)) #[]),
  (Obj.mk (Value.type "code") none (Data.fields #[(oT (oS "free_bits") 418), (oT (oS "Tnum.free_bits") 419), (oT (oS "/claim/cut.py") 420), (Value.int 67 0), (Value.int 1 0), (Value.int 0 0), (Value.int 0 0), (Value.int 3 0), (oR 173), (Value.bool Bool.true), (Value.int 181 0), (oR 174), Value.none, (oR 175), (oR 176), (oR 177), (Value.int 422 0), (Value.int 67 0), (oT (oS "/claim/cut.py") 423)]) #[]),
  (Obj.mk (Value.type "function") none (Data.func (oG (oS "free_bits") (oS "Tnum.free_bits") 67 3 [] Value.none Value.none Value.none (oT (oS "ringgate.tnum") 283) none (oR 178) Value.none 0)) #[]),
  (Obj.mk (Value.type "tuple") none (Data.seq #[] 0) #[]),
  (Obj.mk Value.none none (Data.fields #[]) #[]),
  (Obj.mk (Value.type "tuple") none (Data.seq #[(oT (oS "self") 428)] 0) #[]),
  (Obj.mk (Value.type "tuple") none (Data.seq #[] 0) #[]),
  (Obj.mk Value.none none (Data.func (oG (oS "told") (oS "Tnum.told") 70 0 [] Value.none Value.none Value.none Value.none none Value.none Value.none 0)) #[]),
  (Obj.mk (Value.type "code") none (Data.fields #[(oT (oS "told") 425), (oT (oS "Tnum.told") 426), (oT (oS "/claim/cut.py") 427), (Value.int 70 0), (Value.int 1 0), (Value.int 0 0), (Value.int 0 0), (Value.int 3 0), (oR 180), (Value.bool Bool.true), (Value.int 181 0), (oR 181), Value.none, (oR 182), (oR 183), (oR 184), (Value.int 429 0), (Value.int 70 0), (oT (oS "/claim/cut.py") 430)]) #[]),
  (Obj.mk (Value.type "function") none (Data.func (oG (oS "told") (oS "Tnum.told") 70 3 [] Value.none Value.none Value.none (oT (oS "ringgate.tnum") 283) none (oR 185) Value.none 0)) #[]),
  (Obj.mk (Value.type "tuple") none (Data.seq #[(Value.int 64 432)] 0) #[]),
  (Obj.mk (Value.type "tuple") none (Data.seq #[] 0) #[]),
  (Obj.mk Value.none none (Data.fields #[]) #[]),
  (Obj.mk (Value.type "tuple") none (Data.seq #[(oT (oS "self") 436), (oT (oS "size") 437)] 0) #[]),
  (Obj.mk (Value.type "tuple") none (Data.seq #[] 0) #[]),
  (Obj.mk Value.none none (Data.func (oG (oS "show") (oS "Tnum.show") 73 0 [] Value.none Value.none Value.none Value.none none Value.none Value.none 0)) #[]),
  (Obj.mk (Value.type "code") none (Data.fields #[(oT (oS "show") 433), (oT (oS "Tnum.show") 434), (oT (oS "/claim/cut.py") 435), (Value.int 73 0), (Value.int 2 0), (Value.int 0 0), (Value.int 0 0), (Value.int 3 0), (oR 188), (Value.bool Bool.true), (Value.int 181 0), (oR 189), Value.none, (oR 190), (oR 191), (oR 192), (Value.int 438 0), (Value.int 73 0), (oT (oS "/claim/cut.py") 439)]) #[]),
  (Obj.mk (Value.type "function") none (Data.func (oG (oS "show") (oS "Tnum.show") 73 3 [] (oR 187) Value.none Value.none (oT (oS "ringgate.tnum") 283) none (oR 193) Value.none 0)) #[]),
  (Obj.mk (Value.type "tuple") none (Data.seq #[(oT (oS "mask") 441), (oT (oS "value") 442)] 0) #[]),
  (Obj.mk (Value.type "dict") none (Data.dict #[(oE P (oS "__module__") 292 (oT (oS "ringgate.tnum") 283)), (oE P (oS "__firstlineno__") 296 (Value.int 28 295)), (oE P (oS "__init__") 305 (oR 91)), (oE P (oS "const") 324 (oR 100)), (oE P (oS "unknown") 342 (oR 110)), (oE P (oS "span") 362 (oR 120)), (oE P (oS "contains") 370 (oR 128)), (oE P (oS "is_const") 377 (oR 135)), (oE P (oS "least") 384 (oR 142)), (oE P (oS "most") 391 (oR 149)), (oE P (oS "signed_least") 400 (oR 157)), (oE P (oS "signed_most") 409 (oR 165)), (oE P (oS "is_aligned") 417 (oR 172)), (oE P (oS "free_bits") 424 (oR 179)), (oE P (oS "told") 431 (oR 186)), (oE P (oS "show") 440 (oR 194)), (oE P (oS "__static_attributes__") 443 (oR 195)), (oE P (oS "__dict__") 445 (oR 198)), (oE P (oS "__weakref__") 447 (oR 199)), (oE P (oS "__doc__") 448 Value.none)] 4) #[]),
  (Obj.mk (Value.type "type") none (Data.cls (ClassData.mk (oS "Tnum") [(Value.type "object")] [(oR 197), (Value.type "object")] 196 (oS "Tnum") Bool.true [] [] Bool.false none Bool.false)) #[none, none, (some (oT (oS "Tnum") 285)), (some (oT (oS "Tnum") 293)), (some (Value.builtin "object.__new__")), (some (Value.bool Bool.true))]),
  (Obj.mk (Value.type "getset_descriptor") none (Data.fields #[(oT (oS "__dict__") 444), (oR 197), (Value.builtin "function.__dict__"), (Value.builtin "function.__dict__#set")]) #[]),
  (Obj.mk (Value.type "getset_descriptor") none (Data.fields #[(oT (oS "__weakref__") 446), (oR 197), (Value.builtin "ExceptionGroup.__weakref__"), Value.none]) #[])]
noncomputable def ob5 (P : Params) : List Obj := [
  (Obj.mk (Value.type "super") none (Data.fields #[(oR 197), (oR 197), (oR 197)]) #[]),
  (Obj.mk (Value.type "builtin_function_or_method") none (Data.fields #[(Value.builtin "object.__init_subclass__"), (oR 197)]) #[]),
  (Obj.mk (Value.type "tuple") none (Data.seq #[] 0) #[]),
  (Obj.mk (Value.type "builtin_function_or_method") none (Data.fields #[(Value.builtin "type.__prepare__"), (Value.type "type")]) #[]),
  (Obj.mk (Value.type "dict") none (Data.dict #[(oE P (oS "__module__") 460 (oT (oS "ringgate.ranges") 451)), (oE P (oS "__qualname__") 462 (oT (oS "Scalar") 461)), (oE P (oS "__firstlineno__") 464 (Value.int 76 463)), (oE P (oS "__init__") 480 (oR 215)), (oE P (oS "unknown") 498 (oR 224)), (oE P (oS "const") 521 (oR 234)), (oE P (oS "unsigned") 541 (oR 244)), (oE P (oS "with_sign") 561 (oR 254)), (oE P (oS "of_bits") 580 (oR 264)), (oE P (oS "contains") 588 (oR 272)), (oE P (oS "is_const") 595 (oR 279)), (oE P (oS "worth") 602 (oR 286)), (oE P (oS "is_unknown") 609 (oR 293)), (oE P (oS "ends") 616 (oR 300)), (oE P (oS "told") 623 (oR 307)), (oE P (oS "__static_attributes__") 633 (oR 308))] 16) #[]),
  (Obj.mk (Value.type "tuple") none (Data.seq #[] 0) #[]),
  (Obj.mk Value.none none (Data.fields #[(Value.int 78 0), (Value.int 4 0), (oR 214), (Value.int 90 0), (Value.int 4 0), (oR 221), (Value.int 94 0), (Value.int 4 0), (oR 231), (Value.int 100 0), (Value.int 4 0), (oR 241), (Value.int 104 0), (Value.int 4 0), (oR 251), (Value.int 108 0), (Value.int 4 0), (oR 261), (Value.int 111 0), (Value.int 4 0), (oR 271), (Value.int 114 0), (Value.int 4 0), (oR 278), (Value.int 117 0), (Value.int 4 0), (oR 285), (Value.int 120 0), (Value.int 4 0), (oR 292), (Value.int 123 0), (Value.int 4 0), (oR 299), (Value.int 126 0), (Value.int 4 0), (oR 306)]) #[]),
  (Obj.mk (Value.type "code") none (Data.fields #[(oT (oS "Scalar") 455), (oT (oS "Scalar") 456), (oT (oS "/claim/cut.py") 457), (Value.int 76 0), (Value.int 0 0), (Value.int 0 0), (Value.int 0 0), (Value.int 0 0), (oR 205), (Value.bool Bool.false), (Value.int 181 0), (oR 206), Value.none, Value.none, Value.none, Value.none, (Value.int 458 0), (Value.int 76 0), (oT (oS "/claim/cut.py") 459)]) #[]),
  (Obj.mk (Value.type "frame") none Data.plain #[(some (oR 207)), (some (oR 3)), (some (oR 204)), none, (some (oT (oS "ringgate.ranges") 451)), none, (some (oR 0))]),
  (Obj.mk (Value.type "tuple") none (Data.seq #[] 0) #[]),
  (Obj.mk Value.none none (Data.fields #[]) #[]),
  (Obj.mk (Value.type "tuple") none (Data.seq #[(oT (oS "self") 468), (oT (oS "bits") 469), (oT (oS "umin") 470), (oT (oS "umax") 471), (oT (oS "smin") 472), (oT (oS "smax") 473), (oT (oS "umin32") 474), (oT (oS "umax32") 475), (oT (oS "smin32") 476), (oT (oS "smax32") 477)] 0) #[]),
  (Obj.mk (Value.type "tuple") none (Data.seq #[] 0) #[]),
  (Obj.mk Value.none none (Data.func (oG (oS "__init__") (oS "Scalar.__init__") 78 0 [] Value.none Value.none Value.none Value.none none Value.none Value.none 0)) #[]),
  (Obj.mk (Value.type "code") none (Data.fields #[(oT (oS "__init__") 465), (oT (oS "Scalar.__init__") 466), (oT (oS "/claim/cut.py") 467), (Value.int 78 0), (Value.int 10 0), (Value.int 0 0), (Value.int 0 0), (Value.int 3 0), (oR 209), (Value.bool Bool.true), (Value.int 181 0), (oR 210), Value.none, (oR 211), (oR 212), (oR 213), (Value.int 478 0), (Value.int 78 0), (oT (oS "/claim/cut.py") 479)]) #[]),
  (Obj.mk (Value.type "function") none (Data.func (oG (oS "__init__") (oS "Scalar.__init__") 78 3 [] Value.none Value.none Value.none (oT (oS "ringgate.ranges") 451) none (oR 214) Value.none 0)) #[]),
  (Obj.mk (Value.type "tuple") none (Data.seq #[] 0) #[]),
  (Obj.mk Value.none none (Data.fields #[]) #[]),
  (Obj.mk (Value.type "tuple") none (Data.seq #[] 0) #[]),
  (Obj.mk (Value.type "tuple") none (Data.seq #[] 0) #[]),
  (Obj.mk Value.none none (Data.func (oG (oS "unknown") (oS "Scalar.unknown") 90 0 [] Value.none Value.none Value.none Value.none none Value.none Value.none 0)) #[]),
  (Obj.mk (Value.type "code") none (Data.fields #[(oT (oS "unknown") 481), (oT (oS "Scalar.unknown") 482), (oT (oS "/claim/cut.py") 483), (Value.int 89 0), (Value.int 0 0), (Value.int 0 0), (Value.int 0 0), (Value.int 3 0), (oR 216), (Value.bool Bool.true), (Value.int 181 0), (oR 217), Value.none, (oR 218), (oR 219), (oR 220), (Value.int 484 0), (Value.int 89 0), (oT (oS "/claim/cut.py") 485)]) #[]),
  (Obj.mk (Value.type "function") none (Data.func (oG (oS "unknown") (oS "Scalar.unknown") 90 3 [] Value.none Value.none Value.none (oT (oS "ringgate.ranges") 451) (some 225) (oR 221) Value.none 0)) #[]),
  (Obj.mk (Value.type "dict") none (Data.dict #[(oE P (oS "__module__") 487 (oT (oS "ringgate.ranges") 451)), (oE P (oS "__name__") 490 (oT (oS "unknown") 489)), (oE P (oS "__qualname__") 493 (oT (oS "Scalar.unknown") 492)), (oE P (oS "__doc__") 495 Value.none), (oE P (oS "__annotations__") 497 (oR 225))] 5) #[]),
  (Obj.mk (Value.type "staticmethod") (some 223) (Data.fields #[(oR 222), (Value.bool Bool.false)]) #[]),
  (Obj.mk (Value.type "dict") none (Data.dict #[] 0) #[]),
  (Obj.mk (Value.type "tuple") none (Data.seq #[] 0) #[]),
  (Obj.mk Value.none none (Data.fields #[]) #[]),
  (Obj.mk (Value.type "tuple") none (Data.seq #[(oT (oS "worth") 502), (oT (oS "low") 503), (oT (oS "half") 504), (oT (oS "whole") 505), (oT (oS "part") 506)] 0) #[]),
  (Obj.mk (Value.type "tuple") none (Data.seq #[] 0) #[]),
  (Obj.mk Value.none none (Data.func (oG (oS "const") (oS "Scalar.const") 94 0 [] Value.none Value.none Value.none Value.none none Value.none Value.none 0)) #[]),
  (Obj.mk (Value.type "code") none (Data.fields #[(oT (oS "const") 499), (oT (oS "Scalar.const") 500), (oT (oS "/claim/cut.py") 501), (Value.int 93 0), (Value.int 1 0), (Value.int 0 0), (Value.int 0 0), (Value.int 3 0), (oR 226), (Value.bool Bool.true), (Value.int 181 0), (oR 227), Value.none, (oR 228), (oR 229), (oR 230), (Value.int 507 0), (Value.int 93 0), (oT (oS "/claim/cut.py") 508)]) #[]),
  (Obj.mk (Value.type "function") none (Data.func (oG (oS "const") (oS "Scalar.const") 94 3 [] Value.none Value.none Value.none (oT (oS "ringgate.ranges") 451) (some 235) (oR 231) Value.none 0)) #[]),
  (Obj.mk (Value.type "dict") none (Data.dict #[(oE P (oS "__module__") 510 (oT (oS "ringgate.ranges") 451)), (oE P (oS "__name__") 513 (oT (oS "const") 512)), (oE P (oS "__qualname__") 516 (oT (oS "Scalar.const") 515)), (oE P (oS "__doc__") 518 Value.none), (oE P (oS "__annotations__") 520 (oR 235))] 5) #[]),
  (Obj.mk (Value.type "staticmethod") (some 233) (Data.fields #[(oR 232), (Value.bool Bool.false)]) #[]),
  (Obj.mk (Value.type "dict") none (Data.dict #[] 0) #[]),
  (Obj.mk (Value.type "tuple") none (Data.seq #[] 0) #[]),
  (Obj.mk Value.none none (Data.fields #[]) #[]),
  (Obj.mk (Value.type "tuple") none (Data.seq #[(oT (oS "least") 525), (oT (oS "most") 526)] 0) #[]),
  (Obj.mk (Value.type "tuple") none (Data.seq #[] 0) #[])]
noncomputable def ob6 (P : Params) : List Obj := [
  (Obj.mk Value.none none (Data.func (oG (oS "unsigned") (oS "Scalar.unsigned") 100 0 [] Value.none Value.none Value.none Value.none none Value.none Value.none 0)) #[]),
  (Obj.mk (Value.type "code") none (Data.fields #[(oT (oS "unsigned") 522), (oT (oS "Scalar.unsigned") 523), (oT (oS "/claim/cut.py") 524), (Value.int 99 0), (Value.int 2 0), (Value.int 0 0), (Value.int 0 0), (Value.int 3 0), (oR 236), (Value.bool Bool.true), (Value.int 181 0), (oR 237), Value.none, (oR 238), (oR 239), (oR 240), (Value.int 527 0), (Value.int 99 0), (oT (oS "/claim/cut.py") 528)]) #[]),
  (Obj.mk (Value.type "function") none (Data.func (oG (oS "unsigned") (oS "Scalar.unsigned") 100 3 [] Value.none Value.none Value.none (oT (oS "ringgate.ranges") 451) (some 245) (oR 241) Value.none 0)) #[]),
  (Obj.mk (Value.type "dict") none (Data.dict #[(oE P (oS "__module__") 530 (oT (oS "ringgate.ranges") 451)), (oE P (oS "__name__") 533 (oT (oS "unsigned") 532)), (oE P (oS "__qualname__") 536 (oT (oS "Scalar.unsigned") 535)), (oE P (oS "__doc__") 538 Value.none), (oE P (oS "__annotations__") 540 (oR 245))] 5) #[]),
  (Obj.mk (Value.type "staticmethod") (some 243) (Data.fields #[(oR 242), (Value.bool Bool.false)]) #[]),
  (Obj.mk (Value.type "dict") none (Data.dict #[] 0) #[]),
  (Obj.mk (Value.type "tuple") none (Data.seq #[] 0) #[]),
  (Obj.mk Value.none none (Data.fields #[]) #[]),
  (Obj.mk (Value.type "tuple") none (Data.seq #[(oT (oS "least") 545), (oT (oS "most") 546)] 0) #[]),
  (Obj.mk (Value.type "tuple") none (Data.seq #[] 0) #[]),
  (Obj.mk Value.none none (Data.func (oG (oS "with_sign") (oS "Scalar.with_sign") 104 0 [] Value.none Value.none Value.none Value.none none Value.none Value.none 0)) #[]),
  (Obj.mk (Value.type "code") none (Data.fields #[(oT (oS "with_sign") 542), (oT (oS "Scalar.with_sign") 543), (oT (oS "/claim/cut.py") 544), (Value.int 103 0), (Value.int 2 0), (Value.int 0 0), (Value.int 0 0), (Value.int 3 0), (oR 246), (Value.bool Bool.true), (Value.int 181 0), (oR 247), Value.none, (oR 248), (oR 249), (oR 250), (Value.int 547 0), (Value.int 103 0), (oT (oS "/claim/cut.py") 548)]) #[]),
  (Obj.mk (Value.type "function") none (Data.func (oG (oS "with_sign") (oS "Scalar.with_sign") 104 3 [] Value.none Value.none Value.none (oT (oS "ringgate.ranges") 451) (some 255) (oR 251) Value.none 0)) #[]),
  (Obj.mk (Value.type "dict") none (Data.dict #[(oE P (oS "__module__") 550 (oT (oS "ringgate.ranges") 451)), (oE P (oS "__name__") 553 (oT (oS "with_sign") 552)), (oE P (oS "__qualname__") 556 (oT (oS "Scalar.with_sign") 555)), (oE P (oS "__doc__") 558 Value.none), (oE P (oS "__annotations__") 560 (oR 255))] 5) #[]),
  (Obj.mk (Value.type "staticmethod") (some 253) (Data.fields #[(oR 252), (Value.bool Bool.false)]) #[]),
  (Obj.mk (Value.type "dict") none (Data.dict #[] 0) #[]),
  (Obj.mk (Value.type "tuple") none (Data.seq #[] 0) #[]),
  (Obj.mk Value.none none (Data.fields #[]) #[]),
  (Obj.mk (Value.type "tuple") none (Data.seq #[(oT (oS "bits") 565)] 0) #[]),
  (Obj.mk (Value.type "tuple") none (Data.seq #[] 0) #[]),
  (Obj.mk Value.none none (Data.func (oG (oS "of_bits") (oS "Scalar.of_bits") 108 0 [] Value.none Value.none Value.none Value.none none Value.none Value.none 0)) #[]),
  (Obj.mk (Value.type "code") none (Data.fields #[(oT (oS "of_bits") 562), (oT (oS "Scalar.of_bits") 563), (oT (oS "/claim/cut.py") 564), (Value.int 107 0), (Value.int 1 0), (Value.int 0 0), (Value.int 0 0), (Value.int 3 0), (oR 256), (Value.bool Bool.true), (Value.int 181 0), (oR 257), Value.none, (oR 258), (oR 259), (oR 260), (Value.int 566 0), (Value.int 107 0), (oT (oS "/claim/cut.py") 567)]) #[]),
  (Obj.mk (Value.type "function") none (Data.func (oG (oS "of_bits") (oS "Scalar.of_bits") 108 3 [] Value.none Value.none Value.none (oT (oS "ringgate.ranges") 451) (some 265) (oR 261) Value.none 0)) #[]),
  (Obj.mk (Value.type "dict") none (Data.dict #[(oE P (oS "__module__") 569 (oT (oS "ringgate.ranges") 451)), (oE P (oS "__name__") 572 (oT (oS "of_bits") 571)), (oE P (oS "__qualname__") 575 (oT (oS "Scalar.of_bits") 574)), (oE P (oS "__doc__") 577 Value.none), (oE P (oS "__annotations__") 579 (oR 265))] 5) #[]),
  (Obj.mk (Value.type "staticmethod") (some 263) (Data.fields #[(oR 262), (Value.bool Bool.false)]) #[]),
  (Obj.mk (Value.type "dict") none (Data.dict #[] 0) #[]),
  (Obj.mk (Value.type "tuple") none (Data.seq #[] 0) #[]),
  (Obj.mk Value.none none (Data.fields #[]) #[]),
  (Obj.mk (Value.type "tuple") none (Data.seq #[(oT (oS "self") 584), (oT (oS "worth") 585)] 0) #[]),
  (Obj.mk (Value.type "tuple") none (Data.seq #[] 0) #[]),
  (Obj.mk Value.none none (Data.func (oG (oS "contains") (oS "Scalar.contains") 111 0 [] Value.none Value.none Value.none Value.none none Value.none Value.none 0)) #[]),
  (Obj.mk (Value.type "code") none (Data.fields #[(oT (oS "contains") 581), (oT (oS "Scalar.contains") 582), (oT (oS "/claim/cut.py") 583), (Value.int 111 0), (Value.int 2 0), (Value.int 0 0), (Value.int 0 0), (Value.int 3 0), (oR 266), (Value.bool Bool.true), (Value.int 181 0), (oR 267), Value.none, (oR 268), (oR 269), (oR 270), (Value.int 586 0), (Value.int 111 0), (oT (oS "/claim/cut.py") 587)]) #[]),
  (Obj.mk (Value.type "function") none (Data.func (oG (oS "contains") (oS "Scalar.contains") 111 3 [] Value.none Value.none Value.none (oT (oS "ringgate.ranges") 451) none (oR 271) Value.none 0)) #[]),
  (Obj.mk (Value.type "tuple") none (Data.seq #[] 0) #[]),
  (Obj.mk Value.none none (Data.fields #[]) #[]),
  (Obj.mk (Value.type "tuple") none (Data.seq #[(oT (oS "self") 592)] 0) #[]),
  (Obj.mk (Value.type "tuple") none (Data.seq #[] 0) #[]),
  (Obj.mk Value.none none (Data.func (oG (oS "is_const") (oS "Scalar.is_const") 114 0 [] Value.none Value.none Value.none Value.none none Value.none Value.none 0)) #[]),
  (Obj.mk (Value.type "code") none (Data.fields #[(oT (oS "is_const") 589), (oT (oS "Scalar.is_const") 590), (oT (oS "/claim/cut.py") 591), (Value.int 114 0), (Value.int 1 0), (Value.int 0 0), (Value.int 0 0), (Value.int 3 0), (oR 273), (Value.bool Bool.true), (Value.int 181 0), (oR 274), Value.none, (oR 275), (oR 276), (oR 277), (Value.int 593 0), (Value.int 114 0), (oT (oS "/claim/cut.py") 594)]) #[]),
  (Obj.mk (Value.type "function") none (Data.func (oG (oS "is_const") (oS "Scalar.is_const") 114 3 [] Value.none Value.none Value.none (oT (oS "ringgate.ranges") 451) none (oR 278) Value.none 0)) #[])]
noncomputable def ob7 (P : Params) : List Obj := [
  (Obj.mk (Value.type "tuple") none (Data.seq #[] 0) #[]),
  (Obj.mk Value.none none (Data.fields #[]) #[]),
  (Obj.mk (Value.type "tuple") none (Data.seq #[(oT (oS "self") 599)] 0) #[]),
  (Obj.mk (Value.type "tuple") none (Data.seq #[] 0) #[]),
  (Obj.mk Value.none none (Data.func (oG (oS "worth") (oS "Scalar.worth") 117 0 [] Value.none Value.none Value.none Value.none none Value.none Value.none 0)) #[]),
  (Obj.mk (Value.type "code") none (Data.fields #[(oT (oS "worth") 596), (oT (oS "Scalar.worth") 597), (oT (oS "/claim/cut.py") 598), (Value.int 117 0), (Value.int 1 0), (Value.int 0 0), (Value.int 0 0), (Value.int 3 0), (oR 280), (Value.bool Bool.true), (Value.int 181 0), (oR 281), Value.none, (oR 282), (oR 283), (oR 284), (Value.int 600 0), (Value.int 117 0), (oT (oS "/claim/cut.py") 601)]) #[]),
  (Obj.mk (Value.type "function") none (Data.func (oG (oS "worth") (oS "Scalar.worth") 117 3 [] Value.none Value.none Value.none (oT (oS "ringgate.ranges") 451) none (oR 285) Value.none 0)) #[]),
  (Obj.mk (Value.type "tuple") none (Data.seq #[] 0) #[]),
  (Obj.mk Value.none none (Data.fields #[]) #[]),
  (Obj.mk (Value.type "tuple") none (Data.seq #[(oT (oS "self") 606)] 0) #[]),
  (Obj.mk (Value.type "tuple") none (Data.seq #[] 0) #[]),
  (Obj.mk Value.none none (Data.func (oG (oS "is_unknown") (oS "Scalar.is_unknown") 120 0 [] Value.none Value.none Value.none Value.none none Value.none Value.none 0)) #[]),
  (Obj.mk (Value.type "code") none (Data.fields #[(oT (oS "is_unknown") 603), (oT (oS "Scalar.is_unknown") 604), (oT (oS "/claim/cut.py") 605), (Value.int 120 0), (Value.int 1 0), (Value.int 0 0), (Value.int 0 0), (Value.int 3 0), (oR 287), (Value.bool Bool.true), (Value.int 181 0), (oR 288), Value.none, (oR 289), (oR 290), (oR 291), (Value.int 607 0), (Value.int 120 0), (oT (oS "/claim/cut.py") 608)]) #[]),
  (Obj.mk (Value.type "function") none (Data.func (oG (oS "is_unknown") (oS "Scalar.is_unknown") 120 3 [] Value.none Value.none Value.none (oT (oS "ringgate.ranges") 451) none (oR 292) Value.none 0)) #[]),
  (Obj.mk (Value.type "tuple") none (Data.seq #[] 0) #[]),
  (Obj.mk Value.none none (Data.fields #[]) #[]),
  (Obj.mk (Value.type "tuple") none (Data.seq #[(oT (oS "self") 613)] 0) #[]),
  (Obj.mk (Value.type "tuple") none (Data.seq #[] 0) #[]),
  (Obj.mk Value.none none (Data.func (oG (oS "ends") (oS "Scalar.ends") 123 0 [] Value.none Value.none Value.none Value.none none Value.none Value.none 0)) #[]),
  (Obj.mk (Value.type "code") none (Data.fields #[(oT (oS "ends") 610), (oT (oS "Scalar.ends") 611), (oT (oS "/claim/cut.py") 612), (Value.int 123 0), (Value.int 1 0), (Value.int 0 0), (Value.int 0 0), (Value.int 3 0), (oR 294), (Value.bool Bool.true), (Value.int 181 0), (oR 295), Value.none, (oR 296), (oR 297), (oR 298), (Value.int 614 0), (Value.int 123 0), (oT (oS "/claim/cut.py") 615)]) #[]),
  (Obj.mk (Value.type "function") none (Data.func (oG (oS "ends") (oS "Scalar.ends") 123 3 [] Value.none Value.none Value.none (oT (oS "ringgate.ranges") 451) none (oR 299) Value.none 0)) #[]),
  (Obj.mk (Value.type "tuple") none (Data.seq #[] 0) #[]),
  (Obj.mk Value.none none (Data.fields #[]) #[]),
  (Obj.mk (Value.type "tuple") none (Data.seq #[(oT (oS "self") 620)] 0) #[]),
  (Obj.mk (Value.type "tuple") none (Data.seq #[] 0) #[]),
  (Obj.mk Value.none none (Data.func (oG (oS "told") (oS "Scalar.told") 126 0 [] Value.none Value.none Value.none Value.none none Value.none Value.none 0)) #[]),
  (Obj.mk (Value.type "code") none (Data.fields #[(oT (oS "told") 617), (oT (oS "Scalar.told") 618), (oT (oS "/claim/cut.py") 619), (Value.int 126 0), (Value.int 1 0), (Value.int 0 0), (Value.int 0 0), (Value.int 3 0), (oR 301), (Value.bool Bool.true), (Value.int 181 0), (oR 302), Value.none, (oR 303), (oR 304), (oR 305), (Value.int 621 0), (Value.int 126 0), (oT (oS "/claim/cut.py") 622)]) #[]),
  (Obj.mk (Value.type "function") none (Data.func (oG (oS "told") (oS "Scalar.told") 126 3 [] Value.none Value.none Value.none (oT (oS "ringgate.ranges") 451) none (oR 306) Value.none 0)) #[]),
  (Obj.mk (Value.type "tuple") none (Data.seq #[(oT (oS "bits") 624), (oT (oS "smax") 625), (oT (oS "smax32") 626), (oT (oS "smin") 627), (oT (oS "smin32") 628), (oT (oS "umax") 629), (oT (oS "umax32") 630), (oT (oS "umin") 631), (oT (oS "umin32") 632)] 0) #[]),
  (Obj.mk (Value.type "dict") none (Data.dict #[(oE P (oS "__module__") 460 (oT (oS "ringgate.ranges") 451)), (oE P (oS "__firstlineno__") 464 (Value.int 76 463)), (oE P (oS "__init__") 480 (oR 215)), (oE P (oS "unknown") 498 (oR 224)), (oE P (oS "const") 521 (oR 234)), (oE P (oS "unsigned") 541 (oR 244)), (oE P (oS "with_sign") 561 (oR 254)), (oE P (oS "of_bits") 580 (oR 264)), (oE P (oS "contains") 588 (oR 272)), (oE P (oS "is_const") 595 (oR 279)), (oE P (oS "worth") 602 (oR 286)), (oE P (oS "is_unknown") 609 (oR 293)), (oE P (oS "ends") 616 (oR 300)), (oE P (oS "told") 623 (oR 307)), (oE P (oS "__static_attributes__") 633 (oR 308)), (oE P (oS "__dict__") 635 (oR 311)), (oE P (oS "__weakref__") 637 (oR 312)), (oE P (oS "__doc__") 638 Value.none)] 4) #[]),
  (Obj.mk (Value.type "type") none (Data.cls (ClassData.mk (oS "Scalar") [(Value.type "object")] [(oR 310), (Value.type "object")] 309 (oS "Scalar") Bool.true [] [] Bool.false none Bool.false)) #[none, none, (some (oT (oS "Scalar") 453)), (some (oT (oS "Scalar") 461)), (some (Value.builtin "object.__new__")), (some (Value.bool Bool.true))]),
  (Obj.mk (Value.type "getset_descriptor") none (Data.fields #[(oT (oS "__dict__") 634), (oR 310), (Value.builtin "function.__dict__"), (Value.builtin "function.__dict__#set")]) #[]),
  (Obj.mk (Value.type "getset_descriptor") none (Data.fields #[(oT (oS "__weakref__") 636), (oR 310), (Value.builtin "ExceptionGroup.__weakref__"), Value.none]) #[]),
  (Obj.mk (Value.type "super") none (Data.fields #[(oR 310), (oR 310), (oR 310)]) #[]),
  (Obj.mk (Value.type "builtin_function_or_method") none (Data.fields #[(Value.builtin "object.__init_subclass__"), (oR 310)]) #[]),
  (Obj.mk (Value.type "tuple") none (Data.seq #[] 0) #[]),
  (Obj.mk (Value.type "builtin_function_or_method") none (Data.fields #[(Value.builtin "type.__prepare__"), (Value.type "type")]) #[]),
  (Obj.mk (Value.type "dict") none (Data.dict #[(oE P (oS "__module__") 650 (oT (oS "ringgate.kinds") 641)), (oE P (oS "__qualname__") 652 (oT (oS "Reg") 651)), (oE P (oS "__firstlineno__") 654 (Value.int 129 653)), (oE P (oS "__init__") 676 (oR 329)), (oE P (oS "told") 683 (oR 336)), (oE P (oS "__static_attributes__") 692 (oR 337))] 6) #[]),
  (Obj.mk (Value.type "tuple") none (Data.seq #[] 0) #[]),
  (Obj.mk Value.none none (Data.fields #[(Value.int 131 0), (Value.int 4 0), (oR 328), (Value.int 141 0), (Value.int 4 0), (oR 335)]) #[])]
noncomputable def ob8 (P : Params) : List Obj := [
  (Obj.mk (Value.type "code") none (Data.fields #[(oT (oS "Reg") 645), (oT (oS "Reg") 646), (oT (oS "/claim/cut.py") 647), (Value.int 129 0), (Value.int 0 0), (Value.int 0 0), (Value.int 0 0), (Value.int 0 0), (oR 318), (Value.bool Bool.false), (Value.int 181 0), (oR 319), Value.none, Value.none, Value.none, Value.none, (Value.int 648 0), (Value.int 129 0), (oT (oS "/claim/cut.py") 649)]) #[]),
  (Obj.mk (Value.type "frame") none Data.plain #[(some (oR 320)), (some (oR 3)), (some (oR 317)), none, (some (oT (oS "ringgate.kinds") 641)), none, (some (oR 0))]),
  (Obj.mk (Value.type "tuple") none (Data.seq #[(Value.int 0 655), Value.none, (Value.int 0 656), (Value.int (Neg.neg 1) 658), (Value.int 0 659), (Value.int 0 660), (Value.int 0 661)] 0) #[]),
  (Obj.mk (Value.type "tuple") none (Data.seq #[] 0) #[]),
  (Obj.mk Value.none none (Data.fields #[]) #[]),
  (Obj.mk (Value.type "tuple") none (Data.seq #[(oT (oS "self") 665), (oT (oS "kind") 666), (oT (oS "off") 667), (oT (oS "scalar") 668), (oT (oS "number") 669), (oT (oS "map_number") 670), (oT (oS "reach") 671), (oT (oS "room") 672), (oT (oS "frame") 673)] 0) #[]),
  (Obj.mk (Value.type "tuple") none (Data.seq #[] 0) #[]),
  (Obj.mk Value.none none (Data.func (oG (oS "__init__") (oS "Reg.__init__") 131 0 [] Value.none Value.none Value.none Value.none none Value.none Value.none 0)) #[]),
  (Obj.mk (Value.type "code") none (Data.fields #[(oT (oS "__init__") 662), (oT (oS "Reg.__init__") 663), (oT (oS "/claim/cut.py") 664), (Value.int 131 0), (Value.int 9 0), (Value.int 0 0), (Value.int 0 0), (Value.int 3 0), (oR 323), (Value.bool Bool.true), (Value.int 181 0), (oR 324), Value.none, (oR 325), (oR 326), (oR 327), (Value.int 674 0), (Value.int 131 0), (oT (oS "/claim/cut.py") 675)]) #[]),
  (Obj.mk (Value.type "function") none (Data.func (oG (oS "__init__") (oS "Reg.__init__") 131 3 [] (oR 322) Value.none Value.none (oT (oS "ringgate.kinds") 641) none (oR 328) Value.none 0)) #[]),
  (Obj.mk (Value.type "tuple") none (Data.seq #[] 0) #[]),
  (Obj.mk Value.none none (Data.fields #[]) #[]),
  (Obj.mk (Value.type "tuple") none (Data.seq #[(oT (oS "self") 680)] 0) #[]),
  (Obj.mk (Value.type "tuple") none (Data.seq #[] 0) #[]),
  (Obj.mk Value.none none (Data.func (oG (oS "told") (oS "Reg.told") 141 0 [] Value.none Value.none Value.none Value.none none Value.none Value.none 0)) #[]),
  (Obj.mk (Value.type "code") none (Data.fields #[(oT (oS "told") 677), (oT (oS "Reg.told") 678), (oT (oS "/claim/cut.py") 679), (Value.int 141 0), (Value.int 1 0), (Value.int 0 0), (Value.int 0 0), (Value.int 3 0), (oR 330), (Value.bool Bool.true), (Value.int 181 0), (oR 331), Value.none, (oR 332), (oR 333), (oR 334), (Value.int 681 0), (Value.int 141 0), (oT (oS "/claim/cut.py") 682)]) #[]),
  (Obj.mk (Value.type "function") none (Data.func (oG (oS "told") (oS "Reg.told") 141 3 [] Value.none Value.none Value.none (oT (oS "ringgate.kinds") 641) none (oR 335) Value.none 0)) #[]),
  (Obj.mk (Value.type "tuple") none (Data.seq #[(oT (oS "frame") 684), (oT (oS "kind") 685), (oT (oS "map_number") 686), (oT (oS "number") 687), (oT (oS "off") 688), (oT (oS "reach") 689), (oT (oS "room") 690), (oT (oS "scalar") 691)] 0) #[]),
  (Obj.mk (Value.type "dict") none (Data.dict #[(oE P (oS "__module__") 650 (oT (oS "ringgate.kinds") 641)), (oE P (oS "__firstlineno__") 654 (Value.int 129 653)), (oE P (oS "__init__") 676 (oR 329)), (oE P (oS "told") 683 (oR 336)), (oE P (oS "__static_attributes__") 692 (oR 337)), (oE P (oS "__dict__") 694 (oR 340)), (oE P (oS "__weakref__") 696 (oR 341)), (oE P (oS "__doc__") 697 Value.none)] 4) #[]),
  (Obj.mk (Value.type "type") none (Data.cls (ClassData.mk (oS "Reg") [(Value.type "object")] [(oR 339), (Value.type "object")] 338 (oS "Reg") Bool.true [] [] Bool.false none Bool.false)) #[none, none, (some (oT (oS "Reg") 643)), (some (oT (oS "Reg") 651)), (some (Value.builtin "object.__new__")), (some (Value.bool Bool.true))]),
  (Obj.mk (Value.type "getset_descriptor") none (Data.fields #[(oT (oS "__dict__") 693), (oR 339), (Value.builtin "function.__dict__"), (Value.builtin "function.__dict__#set")]) #[]),
  (Obj.mk (Value.type "getset_descriptor") none (Data.fields #[(oT (oS "__weakref__") 695), (oR 339), (Value.builtin "ExceptionGroup.__weakref__"), Value.none]) #[]),
  (Obj.mk (Value.type "super") none (Data.fields #[(oR 339), (oR 339), (oR 339)]) #[]),
  (Obj.mk (Value.type "builtin_function_or_method") none (Data.fields #[(Value.builtin "object.__init_subclass__"), (oR 339)]) #[]),
  (Obj.mk (Value.type "tuple") none (Data.seq #[] 0) #[]),
  (Obj.mk Value.none none (Data.fields #[]) #[]),
  (Obj.mk (Value.type "tuple") none (Data.seq #[] 0) #[]),
  (Obj.mk (Value.type "tuple") none (Data.seq #[] 0) #[]),
  (Obj.mk Value.none none (Data.func (oG (oS "none") (oS "none") 143 0 [] Value.none Value.none Value.none Value.none none Value.none Value.none 0)) #[]),
  (Obj.mk (Value.type "code") none (Data.fields #[(oT (oS "none") 700), (oT (oS "none") 701), (oT (oS "/claim/cut.py") 702), (Value.int 143 0), (Value.int 0 0), (Value.int 0 0), (Value.int 0 0), (Value.int 3 0), (oR 344), (Value.bool Bool.true), (Value.int 181 0), (oR 345), Value.none, (oR 346), (oR 347), (oR 348), (Value.int 703 0), (Value.int 143 0), (oT (oS "/claim/cut.py") 704)]) #[]),
  (Obj.mk (Value.type "function") none (Data.func (oG (oS "none") (oS "none") 143 3 [] Value.none Value.none Value.none (oT (oS "ringgate.kinds") 641) none (oR 349) Value.none 0)) #[]),
  (Obj.mk (Value.type "tuple") none (Data.seq #[] 0) #[]),
  (Obj.mk Value.none none (Data.fields #[]) #[]),
  (Obj.mk (Value.type "tuple") none (Data.seq #[(oT (oS "worth") 709)] 0) #[]),
  (Obj.mk (Value.type "tuple") none (Data.seq #[] 0) #[]),
  (Obj.mk Value.none none (Data.func (oG (oS "const_reg") (oS "const_reg") 145 0 [] Value.none Value.none Value.none Value.none none Value.none Value.none 0)) #[]),
  (Obj.mk (Value.type "code") none (Data.fields #[(oT (oS "const_reg") 706), (oT (oS "const_reg") 707), (oT (oS "/claim/cut.py") 708), (Value.int 145 0), (Value.int 1 0), (Value.int 0 0), (Value.int 0 0), (Value.int 3 0), (oR 351), (Value.bool Bool.true), (Value.int 181 0), (oR 352), Value.none, (oR 353), (oR 354), (oR 355), (Value.int 710 0), (Value.int 145 0), (oT (oS "/claim/cut.py") 711)]) #[]),
  (Obj.mk (Value.type "function") none (Data.func (oG (oS "const_reg") (oS "const_reg") 145 3 [] Value.none Value.none Value.none (oT (oS "ringgate.kinds") 641) none (oR 356) Value.none 0)) #[]),
  (Obj.mk (Value.type "tuple") none (Data.seq #[] 0) #[]),
  (Obj.mk Value.none none (Data.fields #[]) #[])]
noncomputable def ob9 (P : Params) : List Obj := [
  (Obj.mk (Value.type "tuple") none (Data.seq #[] 0) #[]),
  (Obj.mk (Value.type "tuple") none (Data.seq #[] 0) #[]),
  (Obj.mk Value.none none (Data.func (oG (oS "any_number") (oS "any_number") 147 0 [] Value.none Value.none Value.none Value.none none Value.none Value.none 0)) #[]),
  (Obj.mk (Value.type "code") none (Data.fields #[(oT (oS "any_number") 713), (oT (oS "any_number") 714), (oT (oS "/claim/cut.py") 715), (Value.int 147 0), (Value.int 0 0), (Value.int 0 0), (Value.int 0 0), (Value.int 3 0), (oR 358), (Value.bool Bool.true), (Value.int 181 0), (oR 359), Value.none, (oR 360), (oR 361), (oR 362), (Value.int 716 0), (Value.int 147 0), (oT (oS "/claim/cut.py") 717)]) #[]),
  (Obj.mk (Value.type "function") none (Data.func (oG (oS "any_number") (oS "any_number") 147 3 [] Value.none Value.none Value.none (oT (oS "ringgate.kinds") 641) none (oR 363) Value.none 0)) #[]),
  (Obj.mk (Value.type "tuple") none (Data.seq #[] 0) #[]),
  (Obj.mk Value.none none (Data.fields #[]) #[]),
  (Obj.mk (Value.type "tuple") none (Data.seq #[] 0) #[]),
  (Obj.mk (Value.type "tuple") none (Data.seq #[] 0) #[]),
  (Obj.mk Value.none none (Data.func (oG (oS "context_reg") (oS "context_reg") 149 0 [] Value.none Value.none Value.none Value.none none Value.none Value.none 0)) #[]),
  (Obj.mk (Value.type "code") none (Data.fields #[(oT (oS "context_reg") 719), (oT (oS "context_reg") 720), (oT (oS "/claim/cut.py") 721), (Value.int 149 0), (Value.int 0 0), (Value.int 0 0), (Value.int 0 0), (Value.int 3 0), (oR 365), (Value.bool Bool.true), (Value.int 181 0), (oR 366), Value.none, (oR 367), (oR 368), (oR 369), (Value.int 722 0), (Value.int 149 0), (oT (oS "/claim/cut.py") 723)]) #[]),
  (Obj.mk (Value.type "function") none (Data.func (oG (oS "context_reg") (oS "context_reg") 149 3 [] Value.none Value.none Value.none (oT (oS "ringgate.kinds") 641) none (oR 370) Value.none 0)) #[]),
  (Obj.mk (Value.type "tuple") none (Data.seq #[(Value.bool Bool.false)] 0) #[]),
  (Obj.mk (Value.type "tuple") none (Data.seq #[] 0) #[]),
  (Obj.mk Value.none none (Data.fields #[]) #[]),
  (Obj.mk (Value.type "tuple") none (Data.seq #[(oT (oS "map_number") 728), (oT (oS "number") 729), (oT (oS "is_sure") 730)] 0) #[]),
  (Obj.mk (Value.type "tuple") none (Data.seq #[] 0) #[]),
  (Obj.mk Value.none none (Data.func (oG (oS "value_reg") (oS "value_reg") 151 0 [] Value.none Value.none Value.none Value.none none Value.none Value.none 0)) #[]),
  (Obj.mk (Value.type "code") none (Data.fields #[(oT (oS "value_reg") 725), (oT (oS "value_reg") 726), (oT (oS "/claim/cut.py") 727), (Value.int 151 0), (Value.int 3 0), (Value.int 0 0), (Value.int 0 0), (Value.int 3 0), (oR 373), (Value.bool Bool.true), (Value.int 181 0), (oR 374), Value.none, (oR 375), (oR 376), (oR 377), (Value.int 731 0), (Value.int 151 0), (oT (oS "/claim/cut.py") 732)]) #[]),
  (Obj.mk (Value.type "function") none (Data.func (oG (oS "value_reg") (oS "value_reg") 151 3 [] (oR 372) Value.none Value.none (oT (oS "ringgate.kinds") 641) none (oR 378) Value.none 0)) #[]),
  (Obj.mk (Value.type "tuple") none (Data.seq #[] 0) #[]),
  (Obj.mk Value.none none (Data.fields #[]) #[]),
  (Obj.mk (Value.type "tuple") none (Data.seq #[(oT (oS "off") 737), (oT (oS "frame") 738)] 0) #[]),
  (Obj.mk (Value.type "tuple") none (Data.seq #[] 0) #[]),
  (Obj.mk Value.none none (Data.func (oG (oS "stack_reg") (oS "stack_reg") 153 0 [] Value.none Value.none Value.none Value.none none Value.none Value.none 0)) #[]),
  (Obj.mk (Value.type "code") none (Data.fields #[(oT (oS "stack_reg") 734), (oT (oS "stack_reg") 735), (oT (oS "/claim/cut.py") 736), (Value.int 153 0), (Value.int 2 0), (Value.int 0 0), (Value.int 0 0), (Value.int 3 0), (oR 380), (Value.bool Bool.true), (Value.int 181 0), (oR 381), Value.none, (oR 382), (oR 383), (oR 384), (Value.int 739 0), (Value.int 153 0), (oT (oS "/claim/cut.py") 740)]) #[]),
  (Obj.mk (Value.type "function") none (Data.func (oG (oS "stack_reg") (oS "stack_reg") 153 3 [] Value.none Value.none Value.none (oT (oS "ringgate.kinds") 641) none (oR 385) Value.none 0)) #[]),
  (Obj.mk (Value.type "tuple") none (Data.seq #[(Value.bool Bool.false)] 0) #[]),
  (Obj.mk (Value.type "tuple") none (Data.seq #[] 0) #[]),
  (Obj.mk Value.none none (Data.fields #[]) #[]),
  (Obj.mk (Value.type "tuple") none (Data.seq #[(oT (oS "room") 745), (oT (oS "number") 746), (oT (oS "is_sure") 747)] 0) #[]),
  (Obj.mk (Value.type "tuple") none (Data.seq #[] 0) #[]),
  (Obj.mk Value.none none (Data.func (oG (oS "room_reg") (oS "room_reg") 155 0 [] Value.none Value.none Value.none Value.none none Value.none Value.none 0)) #[]),
  (Obj.mk (Value.type "code") none (Data.fields #[(oT (oS "room_reg") 742), (oT (oS "room_reg") 743), (oT (oS "/claim/cut.py") 744), (Value.int 155 0), (Value.int 3 0), (Value.int 0 0), (Value.int 0 0), (Value.int 3 0), (oR 388), (Value.bool Bool.true), (Value.int 181 0), (oR 389), Value.none, (oR 390), (oR 391), (oR 392), (Value.int 748 0), (Value.int 155 0), (oT (oS "/claim/cut.py") 749)]) #[]),
  (Obj.mk (Value.type "function") none (Data.func (oG (oS "room_reg") (oS "room_reg") 155 3 [] (oR 387) Value.none Value.none (oT (oS "ringgate.kinds") 641) none (oR 393) Value.none 0)) #[]),
  (Obj.mk (Value.type "tuple") none (Data.seq #[] 0) #[]),
  (Obj.mk Value.none none (Data.fields #[]) #[]),
  (Obj.mk (Value.type "tuple") none (Data.seq #[(oT (oS "reg") 754)] 0) #[]),
  (Obj.mk (Value.type "tuple") none (Data.seq #[] 0) #[]),
  (Obj.mk Value.none none (Data.func (oG (oS "is_pointer") (oS "is_pointer") 157 0 [] Value.none Value.none Value.none Value.none none Value.none Value.none 0)) #[])]
noncomputable def ob10 (P : Params) : List Obj := [
  (Obj.mk (Value.type "code") none (Data.fields #[(oT (oS "is_pointer") 751), (oT (oS "is_pointer") 752), (oT (oS "/claim/cut.py") 753), (Value.int 157 0), (Value.int 1 0), (Value.int 0 0), (Value.int 0 0), (Value.int 3 0), (oR 395), (Value.bool Bool.true), (Value.int 181 0), (oR 396), Value.none, (oR 397), (oR 398), (oR 399), (Value.int 755 0), (Value.int 157 0), (oT (oS "/claim/cut.py") 756)]) #[]),
  (Obj.mk (Value.type "function") none (Data.func (oG (oS "is_pointer") (oS "is_pointer") 157 3 [] Value.none Value.none Value.none (oT (oS "ringgate.kinds") 641) none (oR 400) Value.none 0)) #[]),
  (Obj.mk (Value.type "tuple") none (Data.seq #[] 0) #[]),
  (Obj.mk Value.none none (Data.fields #[]) #[]),
  (Obj.mk (Value.type "tuple") none (Data.seq #[(oT (oS "reg") 761)] 0) #[]),
  (Obj.mk (Value.type "tuple") none (Data.seq #[] 0) #[]),
  (Obj.mk Value.none none (Data.func (oG (oS "is_const") (oS "is_const") 159 0 [] Value.none Value.none Value.none Value.none none Value.none Value.none 0)) #[]),
  (Obj.mk (Value.type "code") none (Data.fields #[(oT (oS "is_const") 758), (oT (oS "is_const") 759), (oT (oS "/claim/cut.py") 760), (Value.int 159 0), (Value.int 1 0), (Value.int 0 0), (Value.int 0 0), (Value.int 3 0), (oR 402), (Value.bool Bool.true), (Value.int 181 0), (oR 403), Value.none, (oR 404), (oR 405), (oR 406), (Value.int 762 0), (Value.int 159 0), (oT (oS "/claim/cut.py") 763)]) #[]),
  (Obj.mk (Value.type "function") none (Data.func (oG (oS "is_const") (oS "is_const") 159 3 [] Value.none Value.none Value.none (oT (oS "ringgate.kinds") 641) none (oR 407) Value.none 0)) #[]),
  (Obj.mk (Value.type "tuple") none (Data.seq #[] 0) #[]),
  (Obj.mk (Value.type "builtin_function_or_method") none (Data.fields #[(Value.builtin "type.__prepare__"), (Value.type "type")]) #[]),
  (Obj.mk (Value.type "dict") none (Data.dict #[(oE P (oS "__module__") 784 (oT (oS "ringgate.cells") 765)), (oE P (oS "__qualname__") 786 (oT (oS "Cell") 785)), (oE P (oS "__firstlineno__") 788 (Value.int 167 787)), (oE P (oS "__init__") 797 (oR 423)), (oE P (oS "told") 804 (oR 430)), (oE P (oS "is_spilled") 811 (oR 437)), (oE P (oS "__static_attributes__") 814 (oR 438))] 7) #[]),
  (Obj.mk (Value.type "tuple") none (Data.seq #[] 0) #[]),
  (Obj.mk Value.none none (Data.fields #[(Value.int 169 0), (Value.int 4 0), (oR 422), (Value.int 173 0), (Value.int 4 0), (oR 429), (Value.int 176 0), (Value.int 4 0), (oR 436)]) #[]),
  (Obj.mk (Value.type "code") none (Data.fields #[(oT (oS "Cell") 779), (oT (oS "Cell") 780), (oT (oS "/claim/cut.py") 781), (Value.int 167 0), (Value.int 0 0), (Value.int 0 0), (Value.int 0 0), (Value.int 0 0), (oR 412), (Value.bool Bool.false), (Value.int 181 0), (oR 413), Value.none, Value.none, Value.none, Value.none, (Value.int 782 0), (Value.int 167 0), (oT (oS "/claim/cut.py") 783)]) #[]),
  (Obj.mk (Value.type "frame") none Data.plain #[(some (oR 414)), (some (oR 3)), (some (oR 411)), none, (some (oT (oS "ringgate.cells") 765)), none, (some (oR 0))]),
  (Obj.mk (Value.type "tuple") none (Data.seq #[Value.none] 0) #[]),
  (Obj.mk (Value.type "tuple") none (Data.seq #[] 0) #[]),
  (Obj.mk Value.none none (Data.fields #[]) #[]),
  (Obj.mk (Value.type "tuple") none (Data.seq #[(oT (oS "self") 792), (oT (oS "kinds") 793), (oT (oS "reg") 794)] 0) #[]),
  (Obj.mk (Value.type "tuple") none (Data.seq #[] 0) #[]),
  (Obj.mk Value.none none (Data.func (oG (oS "__init__") (oS "Cell.__init__") 169 0 [] Value.none Value.none Value.none Value.none none Value.none Value.none 0)) #[]),
  (Obj.mk (Value.type "code") none (Data.fields #[(oT (oS "__init__") 789), (oT (oS "Cell.__init__") 790), (oT (oS "/claim/cut.py") 791), (Value.int 169 0), (Value.int 3 0), (Value.int 0 0), (Value.int 0 0), (Value.int 3 0), (oR 417), (Value.bool Bool.true), (Value.int 181 0), (oR 418), Value.none, (oR 419), (oR 420), (oR 421), (Value.int 795 0), (Value.int 169 0), (oT (oS "/claim/cut.py") 796)]) #[]),
  (Obj.mk (Value.type "function") none (Data.func (oG (oS "__init__") (oS "Cell.__init__") 169 3 [] (oR 416) Value.none Value.none (oT (oS "ringgate.cells") 765) none (oR 422) Value.none 0)) #[]),
  (Obj.mk (Value.type "tuple") none (Data.seq #[] 0) #[]),
  (Obj.mk Value.none none (Data.fields #[]) #[]),
  (Obj.mk (Value.type "tuple") none (Data.seq #[(oT (oS "self") 801)] 0) #[]),
  (Obj.mk (Value.type "tuple") none (Data.seq #[] 0) #[]),
  (Obj.mk Value.none none (Data.func (oG (oS "told") (oS "Cell.told") 173 0 [] Value.none Value.none Value.none Value.none none Value.none Value.none 0)) #[]),
  (Obj.mk (Value.type "code") none (Data.fields #[(oT (oS "told") 798), (oT (oS "Cell.told") 799), (oT (oS "/claim/cut.py") 800), (Value.int 173 0), (Value.int 1 0), (Value.int 0 0), (Value.int 0 0), (Value.int 3 0), (oR 424), (Value.bool Bool.true), (Value.int 181 0), (oR 425), Value.none, (oR 426), (oR 427), (oR 428), (Value.int 802 0), (Value.int 173 0), (oT (oS "/claim/cut.py") 803)]) #[]),
  (Obj.mk (Value.type "function") none (Data.func (oG (oS "told") (oS "Cell.told") 173 3 [] Value.none Value.none Value.none (oT (oS "ringgate.cells") 765) none (oR 429) Value.none 0)) #[]),
  (Obj.mk (Value.type "tuple") none (Data.seq #[] 0) #[]),
  (Obj.mk Value.none none (Data.fields #[]) #[]),
  (Obj.mk (Value.type "tuple") none (Data.seq #[(oT (oS "self") 808)] 0) #[]),
  (Obj.mk (Value.type "tuple") none (Data.seq #[] 0) #[]),
  (Obj.mk Value.none none (Data.func (oG (oS "is_spilled") (oS "Cell.is_spilled") 176 0 [] Value.none Value.none Value.none Value.none none Value.none Value.none 0)) #[]),
  (Obj.mk (Value.type "code") none (Data.fields #[(oT (oS "is_spilled") 805), (oT (oS "Cell.is_spilled") 806), (oT (oS "/claim/cut.py") 807), (Value.int 176 0), (Value.int 1 0), (Value.int 0 0), (Value.int 0 0), (Value.int 3 0), (oR 431), (Value.bool Bool.true), (Value.int 181 0), (oR 432), Value.none, (oR 433), (oR 434), (oR 435), (Value.int 809 0), (Value.int 176 0), (oT (oS "/claim/cut.py") 810)]) #[]),
  (Obj.mk (Value.type "function") none (Data.func (oG (oS "is_spilled") (oS "Cell.is_spilled") 176 3 [] Value.none Value.none Value.none (oT (oS "ringgate.cells") 765) none (oR 436) Value.none 0)) #[]),
  (Obj.mk (Value.type "tuple") none (Data.seq #[(oT (oS "kinds") 812), (oT (oS "reg") 813)] 0) #[]),
  (Obj.mk (Value.type "dict") none (Data.dict #[(oE P (oS "__module__") 784 (oT (oS "ringgate.cells") 765)), (oE P (oS "__firstlineno__") 788 (Value.int 167 787)), (oE P (oS "__init__") 797 (oR 423)), (oE P (oS "told") 804 (oR 430)), (oE P (oS "is_spilled") 811 (oR 437)), (oE P (oS "__static_attributes__") 814 (oR 438)), (oE P (oS "__dict__") 816 (oR 441)), (oE P (oS "__weakref__") 818 (oR 442)), (oE P (oS "__doc__") 819 Value.none)] 4) #[])]
noncomputable def ob11 (P : Params) : List Obj := [
  (Obj.mk (Value.type "type") none (Data.cls (ClassData.mk (oS "Cell") [(Value.type "object")] [(oR 440), (Value.type "object")] 439 (oS "Cell") Bool.true [] [] Bool.false none Bool.false)) #[none, none, (some (oT (oS "Cell") 777)), (some (oT (oS "Cell") 785)), (some (Value.builtin "object.__new__")), (some (Value.bool Bool.true))]),
  (Obj.mk (Value.type "getset_descriptor") none (Data.fields #[(oT (oS "__dict__") 815), (oR 440), (Value.builtin "function.__dict__"), (Value.builtin "function.__dict__#set")]) #[]),
  (Obj.mk (Value.type "getset_descriptor") none (Data.fields #[(oT (oS "__weakref__") 817), (oR 440), (Value.builtin "ExceptionGroup.__weakref__"), Value.none]) #[]),
  (Obj.mk (Value.type "super") none (Data.fields #[(oR 440), (oR 440), (oR 440)]) #[]),
  (Obj.mk (Value.type "builtin_function_or_method") none (Data.fields #[(Value.builtin "object.__init_subclass__"), (oR 440)]) #[]),
  (Obj.mk (Value.type "tuple") none (Data.seq #[] 0) #[]),
  (Obj.mk Value.none none (Data.fields #[]) #[]),
  (Obj.mk (Value.type "tuple") none (Data.seq #[(oT (oS "cell") 825), (oT (oS "place") 826), (oT (oS "letter") 827)] 0) #[]),
  (Obj.mk (Value.type "tuple") none (Data.seq #[] 0) #[]),
  (Obj.mk Value.none none (Data.func (oG (oS "known_octet") (oS "known_octet") 178 0 [] Value.none Value.none Value.none Value.none none Value.none Value.none 0)) #[]),
  (Obj.mk (Value.type "code") none (Data.fields #[(oT (oS "known_octet") 822), (oT (oS "known_octet") 823), (oT (oS "/claim/cut.py") 824), (Value.int 178 0), (Value.int 2 0), (Value.int 0 0), (Value.int 0 0), (Value.int 3 0), (oR 445), (Value.bool Bool.true), (Value.int 181 0), (oR 446), Value.none, (oR 447), (oR 448), (oR 449), (Value.int 828 0), (Value.int 178 0), (oT (oS "/claim/cut.py") 829)]) #[]),
  (Obj.mk (Value.type "function") none (Data.func (oG (oS "known_octet") (oS "known_octet") 178 3 [] Value.none Value.none Value.none (oT (oS "ringgate.cells") 765) none (oR 450) Value.none 0)) #[]),
  (Obj.mk (Value.type "tuple") none (Data.seq #[] 0) #[]),
  (Obj.mk Value.none none (Data.fields #[]) #[]),
  (Obj.mk (Value.type "tuple") none (Data.seq #[(oT (oS "cell") 834), (oT (oS "letters") 835), (oT (oS "place") 836), (oT (oS "letter") 837)] 0) #[]),
  (Obj.mk (Value.type "tuple") none (Data.seq #[] 0) #[]),
  (Obj.mk Value.none none (Data.func (oG (oS "unspilled") (oS "unspilled") 185 0 [] Value.none Value.none Value.none Value.none none Value.none Value.none 0)) #[]),
  (Obj.mk (Value.type "code") none (Data.fields #[(oT (oS "unspilled") 831), (oT (oS "unspilled") 832), (oT (oS "/claim/cut.py") 833), (Value.int 185 0), (Value.int 1 0), (Value.int 0 0), (Value.int 0 0), (Value.int 3 0), (oR 452), (Value.bool Bool.true), (Value.int 181 0), (oR 453), Value.none, (oR 454), (oR 455), (oR 456), (Value.int 838 0), (Value.int 185 0), (oT (oS "/claim/cut.py") 839)]) #[]),
  (Obj.mk (Value.type "function") none (Data.func (oG (oS "unspilled") (oS "unspilled") 185 3 [] Value.none Value.none Value.none (oT (oS "ringgate.cells") 765) none (oR 457) Value.none 0)) #[]),
  (Obj.mk (Value.type "tuple") none (Data.seq #[] 0) #[]),
  (Obj.mk (Value.type "builtin_function_or_method") none (Data.fields #[(Value.builtin "type.__prepare__"), (Value.type "type")]) #[]),
  (Obj.mk (Value.type "dict") none (Data.dict #[(oE P (oS "__module__") 848 (oT (oS "ringgate.cells") 765)), (oE P (oS "__qualname__") 850 (oT (oS "Frame") 849)), (oE P (oS "__firstlineno__") 852 (Value.int 193 851)), (oE P (oS "__init__") 862 (oR 472)), (oE P (oS "copy") 869 (oR 479)), (oE P (oS "cell") 877 (oR 486)), (oE P (oS "put_cell") 886 (oR 493)), (oE P (oS "told") 892 (oR 498)), (oE P (oS "__static_attributes__") 896 (oR 499))] 9) #[]),
  (Obj.mk (Value.type "tuple") none (Data.seq #[] 0) #[]),
  (Obj.mk Value.none none (Data.fields #[(Value.int 195 0), (Value.int 4 0), (oR 471), (Value.int 200 0), (Value.int 4 0), (oR 478), (Value.int 203 0), (Value.int 4 0), (oR 485), (Value.int 206 0), (Value.int 4 0), (oR 492), (Value.int 212 0), (Value.int 4 0), (oR 497)]) #[]),
  (Obj.mk (Value.type "code") none (Data.fields #[(oT (oS "Frame") 843), (oT (oS "Frame") 844), (oT (oS "/claim/cut.py") 845), (Value.int 193 0), (Value.int 0 0), (Value.int 0 0), (Value.int 0 0), (Value.int 0 0), (oR 462), (Value.bool Bool.false), (Value.int 181 0), (oR 463), Value.none, Value.none, Value.none, Value.none, (Value.int 846 0), (Value.int 193 0), (oT (oS "/claim/cut.py") 847)]) #[]),
  (Obj.mk (Value.type "frame") none Data.plain #[(some (oR 464)), (some (oR 3)), (some (oR 461)), none, (some (oT (oS "ringgate.cells") 765)), none, (some (oR 0))]),
  (Obj.mk (Value.type "tuple") none (Data.seq #[] 0) #[]),
  (Obj.mk Value.none none (Data.fields #[]) #[]),
  (Obj.mk (Value.type "tuple") none (Data.seq #[(oT (oS "self") 856), (oT (oS "regs") 857), (oT (oS "cells") 858), (oT (oS "back") 859)] 0) #[]),
  (Obj.mk (Value.type "tuple") none (Data.seq #[] 0) #[]),
  (Obj.mk Value.none none (Data.func (oG (oS "__init__") (oS "Frame.__init__") 195 0 [] Value.none Value.none Value.none Value.none none Value.none Value.none 0)) #[]),
  (Obj.mk (Value.type "code") none (Data.fields #[(oT (oS "__init__") 853), (oT (oS "Frame.__init__") 854), (oT (oS "/claim/cut.py") 855), (Value.int 195 0), (Value.int 4 0), (Value.int 0 0), (Value.int 0 0), (Value.int 3 0), (oR 466), (Value.bool Bool.true), (Value.int 181 0), (oR 467), Value.none, (oR 468), (oR 469), (oR 470), (Value.int 860 0), (Value.int 195 0), (oT (oS "/claim/cut.py") 861)]) #[]),
  (Obj.mk (Value.type "function") none (Data.func (oG (oS "__init__") (oS "Frame.__init__") 195 3 [] Value.none Value.none Value.none (oT (oS "ringgate.cells") 765) none (oR 471) Value.none 0)) #[]),
  (Obj.mk (Value.type "tuple") none (Data.seq #[] 0) #[]),
  (Obj.mk Value.none none (Data.fields #[]) #[]),
  (Obj.mk (Value.type "tuple") none (Data.seq #[(oT (oS "self") 866)] 0) #[]),
  (Obj.mk (Value.type "tuple") none (Data.seq #[] 0) #[]),
  (Obj.mk Value.none none (Data.func (oG (oS "copy") (oS "Frame.copy") 200 0 [] Value.none Value.none Value.none Value.none none Value.none Value.none 0)) #[]),
  (Obj.mk (Value.type "code") none (Data.fields #[(oT (oS "copy") 863), (oT (oS "Frame.copy") 864), (oT (oS "/claim/cut.py") 865), (Value.int 200 0), (Value.int 1 0), (Value.int 0 0), (Value.int 0 0), (Value.int 3 0), (oR 473), (Value.bool Bool.true), (Value.int 181 0), (oR 474), Value.none, (oR 475), (oR 476), (oR 477), (Value.int 867 0), (Value.int 200 0), (oT (oS "/claim/cut.py") 868)]) #[]),
  (Obj.mk (Value.type "function") none (Data.func (oG (oS "copy") (oS "Frame.copy") 200 3 [] Value.none Value.none Value.none (oT (oS "ringgate.cells") 765) none (oR 478) Value.none 0)) #[])]
noncomputable def ob12 (P : Params) : List Obj := [
  (Obj.mk (Value.type "tuple") none (Data.seq #[] 0) #[]),
  (Obj.mk Value.none none (Data.fields #[]) #[]),
  (Obj.mk (Value.type "tuple") none (Data.seq #[(oT (oS "self") 873), (oT (oS "slot") 874)] 0) #[]),
  (Obj.mk (Value.type "tuple") none (Data.seq #[] 0) #[]),
  (Obj.mk Value.none none (Data.func (oG (oS "cell") (oS "Frame.cell") 203 0 [] Value.none Value.none Value.none Value.none none Value.none Value.none 0)) #[]),
  (Obj.mk (Value.type "code") none (Data.fields #[(oT (oS "cell") 870), (oT (oS "Frame.cell") 871), (oT (oS "/claim/cut.py") 872), (Value.int 203 0), (Value.int 2 0), (Value.int 0 0), (Value.int 0 0), (Value.int 3 0), (oR 480), (Value.bool Bool.true), (Value.int 181 0), (oR 481), Value.none, (oR 482), (oR 483), (oR 484), (Value.int 875 0), (Value.int 203 0), (oT (oS "/claim/cut.py") 876)]) #[]),
  (Obj.mk (Value.type "function") none (Data.func (oG (oS "cell") (oS "Frame.cell") 203 3 [] Value.none Value.none Value.none (oT (oS "ringgate.cells") 765) none (oR 485) Value.none 0)) #[]),
  (Obj.mk (Value.type "tuple") none (Data.seq #[] 0) #[]),
  (Obj.mk Value.none none (Data.fields #[]) #[]),
  (Obj.mk (Value.type "tuple") none (Data.seq #[(oT (oS "self") 881), (oT (oS "slot") 882), (oT (oS "cell") 883)] 0) #[]),
  (Obj.mk (Value.type "tuple") none (Data.seq #[] 0) #[]),
  (Obj.mk Value.none none (Data.func (oG (oS "put_cell") (oS "Frame.put_cell") 206 0 [] Value.none Value.none Value.none Value.none none Value.none Value.none 0)) #[]),
  (Obj.mk (Value.type "code") none (Data.fields #[(oT (oS "put_cell") 878), (oT (oS "Frame.put_cell") 879), (oT (oS "/claim/cut.py") 880), (Value.int 206 0), (Value.int 3 0), (Value.int 0 0), (Value.int 0 0), (Value.int 3 0), (oR 487), (Value.bool Bool.true), (Value.int 181 0), (oR 488), Value.none, (oR 489), (oR 490), (oR 491), (Value.int 884 0), (Value.int 206 0), (oT (oS "/claim/cut.py") 885)]) #[]),
  (Obj.mk (Value.type "function") none (Data.func (oG (oS "put_cell") (oS "Frame.put_cell") 206 3 [] Value.none Value.none Value.none (oT (oS "ringgate.cells") 765) none (oR 492) Value.none 0)) #[]),
  (Obj.mk (Value.type "tuple") none (Data.seq #[] 0) #[]),
  (Obj.mk Value.none none (Data.fields #[]) #[]),
  (Obj.mk Value.none none (Data.func (oG (oS "told") (oS "Frame.told") 212 0 [] Value.none Value.none Value.none Value.none none Value.none Value.none 0)) #[]),
  (Obj.mk (Value.type "code") none (Data.fields #[(oT (oS "told") 887), (oT (oS "Frame.told") 888), (oT (oS "/claim/cut.py") 889), (Value.int 212 0), (Value.int 1 0), (Value.int 0 0), (Value.int 0 0), (Value.int 3 0), (oR 494), (Value.bool Bool.true), (Value.int 181 0), (oR 495), Value.none, Value.none, Value.none, (oR 496), (Value.int 890 0), (Value.int 212 0), (oT (oS "/claim/cut.py") 891)]) #[]),
  (Obj.mk (Value.type "function") none (Data.func (oG (oS "told") (oS "Frame.told") 212 3 [] Value.none Value.none Value.none (oT (oS "ringgate.cells") 765) none (oR 497) Value.none 0)) #[]),
  (Obj.mk (Value.type "tuple") none (Data.seq #[(oT (oS "back") 893), (oT (oS "cells") 894), (oT (oS "regs") 895)] 0) #[]),
  (Obj.mk (Value.type "dict") none (Data.dict #[(oE P (oS "__module__") 848 (oT (oS "ringgate.cells") 765)), (oE P (oS "__firstlineno__") 852 (Value.int 193 851)), (oE P (oS "__init__") 862 (oR 472)), (oE P (oS "copy") 869 (oR 479)), (oE P (oS "cell") 877 (oR 486)), (oE P (oS "put_cell") 886 (oR 493)), (oE P (oS "told") 892 (oR 498)), (oE P (oS "__static_attributes__") 896 (oR 499)), (oE P (oS "__dict__") 898 (oR 502)), (oE P (oS "__weakref__") 900 (oR 503)), (oE P (oS "__doc__") 901 Value.none)] 4) #[]),
  (Obj.mk (Value.type "type") none (Data.cls (ClassData.mk (oS "Frame") [(Value.type "object")] [(oR 501), (Value.type "object")] 500 (oS "Frame") Bool.true [] [] Bool.false none Bool.false)) #[none, none, (some (oT (oS "Frame") 841)), (some (oT (oS "Frame") 849)), (some (Value.builtin "object.__new__")), (some (Value.bool Bool.true))]),
  (Obj.mk (Value.type "getset_descriptor") none (Data.fields #[(oT (oS "__dict__") 897), (oR 501), (Value.builtin "function.__dict__"), (Value.builtin "function.__dict__#set")]) #[]),
  (Obj.mk (Value.type "getset_descriptor") none (Data.fields #[(oT (oS "__weakref__") 899), (oR 501), (Value.builtin "ExceptionGroup.__weakref__"), Value.none]) #[]),
  (Obj.mk (Value.type "super") none (Data.fields #[(oR 501), (oR 501), (oR 501)]) #[]),
  (Obj.mk (Value.type "builtin_function_or_method") none (Data.fields #[(Value.builtin "object.__init_subclass__"), (oR 501)]) #[]),
  (Obj.mk (Value.type "tuple") none (Data.seq #[] 0) #[]),
  (Obj.mk (Value.type "builtin_function_or_method") none (Data.fields #[(Value.builtin "type.__prepare__"), (Value.type "type")]) #[]),
  (Obj.mk (Value.type "dict") none (Data.dict #[(oE P (oS "__module__") 911 (oT (oS "ringgate.cells") 765)), (oE P (oS "__qualname__") 913 (oT (oS "State") 912)), (oE P (oS "__firstlineno__") 915 (Value.int 215 914)), (oE P (oS "__init__") 925 (oR 519)), (oE P (oS "copy") 931 (oR 524)), (oE P (oS "top") 938 (oR 531)), (oE P (oS "depth") 945 (oR 538)), (oE P (oS "reg") 953 (oR 545)), (oE P (oS "put") 962 (oR 552)), (oE P (oS "fresh") 969 (oR 559)), (oE P (oS "told") 975 (oR 564)), (oE P (oS "all_regs") 985 (oR 571)), (oE P (oS "turn_all") 993 (oR 578)), (oE P (oS "__static_attributes__") 997 (oR 579))] 14) #[]),
  (Obj.mk (Value.type "tuple") none (Data.seq #[] 0) #[]),
  (Obj.mk Value.none none (Data.fields #[(Value.int 217 0), (Value.int 4 0), (oR 518), (Value.int 222 0), (Value.int 4 0), (oR 523), (Value.int 225 0), (Value.int 4 0), (oR 530), (Value.int 228 0), (Value.int 4 0), (oR 537), (Value.int 231 0), (Value.int 4 0), (oR 544), (Value.int 234 0), (Value.int 4 0), (oR 551), (Value.int 237 0), (Value.int 4 0), (oR 558), (Value.int 240 0), (Value.int 4 0), (oR 563), (Value.int 243 0), (Value.int 4 0), (oR 570), (Value.int 252 0), (Value.int 4 0), (oR 577)]) #[]),
  (Obj.mk (Value.type "code") none (Data.fields #[(oT (oS "State") 906), (oT (oS "State") 907), (oT (oS "/claim/cut.py") 908), (Value.int 215 0), (Value.int 0 0), (Value.int 0 0), (Value.int 0 0), (Value.int 0 0), (oR 509), (Value.bool Bool.false), (Value.int 181 0), (oR 510), Value.none, Value.none, Value.none, Value.none, (Value.int 909 0), (Value.int 215 0), (oT (oS "/claim/cut.py") 910)]) #[]),
  (Obj.mk (Value.type "frame") none Data.plain #[(some (oR 511)), (some (oR 3)), (some (oR 508)), none, (some (oT (oS "ringgate.cells") 765)), none, (some (oR 0))]),
  (Obj.mk (Value.type "tuple") none (Data.seq #[] 0) #[]),
  (Obj.mk Value.none none (Data.fields #[]) #[]),
  (Obj.mk (Value.type "tuple") none (Data.seq #[(oT (oS "self") 919), (oT (oS "frames") 920), (oT (oS "next_number") 921), (oT (oS "rooms") 922)] 0) #[]),
  (Obj.mk (Value.type "tuple") none (Data.seq #[] 0) #[]),
  (Obj.mk Value.none none (Data.func (oG (oS "__init__") (oS "State.__init__") 217 0 [] Value.none Value.none Value.none Value.none none Value.none Value.none 0)) #[]),
  (Obj.mk (Value.type "code") none (Data.fields #[(oT (oS "__init__") 916), (oT (oS "State.__init__") 917), (oT (oS "/claim/cut.py") 918), (Value.int 217 0), (Value.int 4 0), (Value.int 0 0), (Value.int 0 0), (Value.int 3 0), (oR 513), (Value.bool Bool.true), (Value.int 181 0), (oR 514), Value.none, (oR 515), (oR 516), (oR 517), (Value.int 923 0), (Value.int 217 0), (oT (oS "/claim/cut.py") 924)]) #[]),
  (Obj.mk (Value.type "function") none (Data.func (oG (oS "__init__") (oS "State.__init__") 217 3 [] Value.none Value.none Value.none (oT (oS "ringgate.cells") 765) none (oR 518) Value.none 0)) #[])]
noncomputable def ob13 (P : Params) : List Obj := [
  (Obj.mk (Value.type "tuple") none (Data.seq #[] 0) #[]),
  (Obj.mk Value.none none (Data.fields #[]) #[]),
  (Obj.mk Value.none none (Data.func (oG (oS "copy") (oS "State.copy") 222 0 [] Value.none Value.none Value.none Value.none none Value.none Value.none 0)) #[]),
  (Obj.mk (Value.type "code") none (Data.fields #[(oT (oS "copy") 926), (oT (oS "State.copy") 927), (oT (oS "/claim/cut.py") 928), (Value.int 222 0), (Value.int 1 0), (Value.int 0 0), (Value.int 0 0), (Value.int 3 0), (oR 520), (Value.bool Bool.true), (Value.int 181 0), (oR 521), Value.none, Value.none, Value.none, (oR 522), (Value.int 929 0), (Value.int 222 0), (oT (oS "/claim/cut.py") 930)]) #[]),
  (Obj.mk (Value.type "function") none (Data.func (oG (oS "copy") (oS "State.copy") 222 3 [] Value.none Value.none Value.none (oT (oS "ringgate.cells") 765) none (oR 523) Value.none 0)) #[]),
  (Obj.mk (Value.type "tuple") none (Data.seq #[] 0) #[]),
  (Obj.mk Value.none none (Data.fields #[]) #[]),
  (Obj.mk (Value.type "tuple") none (Data.seq #[(oT (oS "self") 935)] 0) #[]),
  (Obj.mk (Value.type "tuple") none (Data.seq #[] 0) #[]),
  (Obj.mk Value.none none (Data.func (oG (oS "top") (oS "State.top") 225 0 [] Value.none Value.none Value.none Value.none none Value.none Value.none 0)) #[]),
  (Obj.mk (Value.type "code") none (Data.fields #[(oT (oS "top") 932), (oT (oS "State.top") 933), (oT (oS "/claim/cut.py") 934), (Value.int 225 0), (Value.int 1 0), (Value.int 0 0), (Value.int 0 0), (Value.int 3 0), (oR 525), (Value.bool Bool.true), (Value.int 181 0), (oR 526), Value.none, (oR 527), (oR 528), (oR 529), (Value.int 936 0), (Value.int 225 0), (oT (oS "/claim/cut.py") 937)]) #[]),
  (Obj.mk (Value.type "function") none (Data.func (oG (oS "top") (oS "State.top") 225 3 [] Value.none Value.none Value.none (oT (oS "ringgate.cells") 765) none (oR 530) Value.none 0)) #[]),
  (Obj.mk (Value.type "tuple") none (Data.seq #[] 0) #[]),
  (Obj.mk Value.none none (Data.fields #[]) #[]),
  (Obj.mk (Value.type "tuple") none (Data.seq #[(oT (oS "self") 942)] 0) #[]),
  (Obj.mk (Value.type "tuple") none (Data.seq #[] 0) #[]),
  (Obj.mk Value.none none (Data.func (oG (oS "depth") (oS "State.depth") 228 0 [] Value.none Value.none Value.none Value.none none Value.none Value.none 0)) #[]),
  (Obj.mk (Value.type "code") none (Data.fields #[(oT (oS "depth") 939), (oT (oS "State.depth") 940), (oT (oS "/claim/cut.py") 941), (Value.int 228 0), (Value.int 1 0), (Value.int 0 0), (Value.int 0 0), (Value.int 3 0), (oR 532), (Value.bool Bool.true), (Value.int 181 0), (oR 533), Value.none, (oR 534), (oR 535), (oR 536), (Value.int 943 0), (Value.int 228 0), (oT (oS "/claim/cut.py") 944)]) #[]),
  (Obj.mk (Value.type "function") none (Data.func (oG (oS "depth") (oS "State.depth") 228 3 [] Value.none Value.none Value.none (oT (oS "ringgate.cells") 765) none (oR 537) Value.none 0)) #[]),
  (Obj.mk (Value.type "tuple") none (Data.seq #[] 0) #[]),
  (Obj.mk Value.none none (Data.fields #[]) #[]),
  (Obj.mk (Value.type "tuple") none (Data.seq #[(oT (oS "self") 949), (oT (oS "n") 950)] 0) #[]),
  (Obj.mk (Value.type "tuple") none (Data.seq #[] 0) #[]),
  (Obj.mk Value.none none (Data.func (oG (oS "reg") (oS "State.reg") 231 0 [] Value.none Value.none Value.none Value.none none Value.none Value.none 0)) #[]),
  (Obj.mk (Value.type "code") none (Data.fields #[(oT (oS "reg") 946), (oT (oS "State.reg") 947), (oT (oS "/claim/cut.py") 948), (Value.int 231 0), (Value.int 2 0), (Value.int 0 0), (Value.int 0 0), (Value.int 3 0), (oR 539), (Value.bool Bool.true), (Value.int 181 0), (oR 540), Value.none, (oR 541), (oR 542), (oR 543), (Value.int 951 0), (Value.int 231 0), (oT (oS "/claim/cut.py") 952)]) #[]),
  (Obj.mk (Value.type "function") none (Data.func (oG (oS "reg") (oS "State.reg") 231 3 [] Value.none Value.none Value.none (oT (oS "ringgate.cells") 765) none (oR 544) Value.none 0)) #[]),
  (Obj.mk (Value.type "tuple") none (Data.seq #[] 0) #[]),
  (Obj.mk Value.none none (Data.fields #[]) #[]),
  (Obj.mk (Value.type "tuple") none (Data.seq #[(oT (oS "self") 957), (oT (oS "n") 958), (oT (oS "reg") 959)] 0) #[]),
  (Obj.mk (Value.type "tuple") none (Data.seq #[] 0) #[]),
  (Obj.mk Value.none none (Data.func (oG (oS "put") (oS "State.put") 234 0 [] Value.none Value.none Value.none Value.none none Value.none Value.none 0)) #[]),
  (Obj.mk (Value.type "code") none (Data.fields #[(oT (oS "put") 954), (oT (oS "State.put") 955), (oT (oS "/claim/cut.py") 956), (Value.int 234 0), (Value.int 3 0), (Value.int 0 0), (Value.int 0 0), (Value.int 3 0), (oR 546), (Value.bool Bool.true), (Value.int 181 0), (oR 547), Value.none, (oR 548), (oR 549), (oR 550), (Value.int 960 0), (Value.int 234 0), (oT (oS "/claim/cut.py") 961)]) #[]),
  (Obj.mk (Value.type "function") none (Data.func (oG (oS "put") (oS "State.put") 234 3 [] Value.none Value.none Value.none (oT (oS "ringgate.cells") 765) none (oR 551) Value.none 0)) #[]),
  (Obj.mk (Value.type "tuple") none (Data.seq #[] 0) #[]),
  (Obj.mk Value.none none (Data.fields #[]) #[]),
  (Obj.mk (Value.type "tuple") none (Data.seq #[(oT (oS "self") 966)] 0) #[]),
  (Obj.mk (Value.type "tuple") none (Data.seq #[] 0) #[]),
  (Obj.mk Value.none none (Data.func (oG (oS "fresh") (oS "State.fresh") 237 0 [] Value.none Value.none Value.none Value.none none Value.none Value.none 0)) #[]),
  (Obj.mk (Value.type "code") none (Data.fields #[(oT (oS "fresh") 963), (oT (oS "State.fresh") 964), (oT (oS "/claim/cut.py") 965), (Value.int 237 0), (Value.int 1 0), (Value.int 0 0), (Value.int 0 0), (Value.int 3 0), (oR 553), (Value.bool Bool.true), (Value.int 181 0), (oR 554), Value.none, (oR 555), (oR 556), (oR 557), (Value.int 967 0), (Value.int 237 0), (oT (oS "/claim/cut.py") 968)]) #[]),
  (Obj.mk (Value.type "function") none (Data.func (oG (oS "fresh") (oS "State.fresh") 237 3 [] Value.none Value.none Value.none (oT (oS "ringgate.cells") 765) none (oR 558) Value.none 0)) #[])]
noncomputable def ob14 (P : Params) : List Obj := [
  (Obj.mk (Value.type "tuple") none (Data.seq #[] 0) #[]),
  (Obj.mk Value.none none (Data.fields #[]) #[]),
  (Obj.mk Value.none none (Data.func (oG (oS "told") (oS "State.told") 240 0 [] Value.none Value.none Value.none Value.none none Value.none Value.none 0)) #[]),
  (Obj.mk (Value.type "code") none (Data.fields #[(oT (oS "told") 970), (oT (oS "State.told") 971), (oT (oS "/claim/cut.py") 972), (Value.int 240 0), (Value.int 1 0), (Value.int 0 0), (Value.int 0 0), (Value.int 3 0), (oR 560), (Value.bool Bool.true), (Value.int 181 0), (oR 561), Value.none, Value.none, Value.none, (oR 562), (Value.int 973 0), (Value.int 240 0), (oT (oS "/claim/cut.py") 974)]) #[]),
  (Obj.mk (Value.type "function") none (Data.func (oG (oS "told") (oS "State.told") 240 3 [] Value.none Value.none Value.none (oT (oS "ringgate.cells") 765) none (oR 563) Value.none 0)) #[]),
  (Obj.mk (Value.type "tuple") none (Data.seq #[] 0) #[]),
  (Obj.mk Value.none none (Data.fields #[]) #[]),
  (Obj.mk (Value.type "tuple") none (Data.seq #[(oT (oS "self") 979), (oT (oS "found") 980), (oT (oS "frame") 981), (oT (oS "slot") 982)] 0) #[]),
  (Obj.mk (Value.type "tuple") none (Data.seq #[] 0) #[]),
  (Obj.mk Value.none none (Data.func (oG (oS "all_regs") (oS "State.all_regs") 243 0 [] Value.none Value.none Value.none Value.none none Value.none Value.none 0)) #[]),
  (Obj.mk (Value.type "code") none (Data.fields #[(oT (oS "all_regs") 976), (oT (oS "State.all_regs") 977), (oT (oS "/claim/cut.py") 978), (Value.int 243 0), (Value.int 1 0), (Value.int 0 0), (Value.int 0 0), (Value.int 3 0), (oR 565), (Value.bool Bool.true), (Value.int 181 0), (oR 566), Value.none, (oR 567), (oR 568), (oR 569), (Value.int 983 0), (Value.int 243 0), (oT (oS "/claim/cut.py") 984)]) #[]),
  (Obj.mk (Value.type "function") none (Data.func (oG (oS "all_regs") (oS "State.all_regs") 243 3 [] Value.none Value.none Value.none (oT (oS "ringgate.cells") 765) none (oR 570) Value.none 0)) #[]),
  (Obj.mk (Value.type "tuple") none (Data.seq #[] 0) #[]),
  (Obj.mk Value.none none (Data.fields #[]) #[]),
  (Obj.mk (Value.type "tuple") none (Data.seq #[(oT (oS "self") 989), (oT (oS "turn") 990)] 0) #[]),
  (Obj.mk (Value.type "tuple") none (Data.seq #[] 0) #[]),
  (Obj.mk Value.none none (Data.func (oG (oS "turn_all") (oS "State.turn_all") 252 0 [] Value.none Value.none Value.none Value.none none Value.none Value.none 0)) #[]),
  (Obj.mk (Value.type "code") none (Data.fields #[(oT (oS "turn_all") 986), (oT (oS "State.turn_all") 987), (oT (oS "/claim/cut.py") 988), (Value.int 252 0), (Value.int 2 0), (Value.int 0 0), (Value.int 0 0), (Value.int 3 0), (oR 572), (Value.bool Bool.true), (Value.int 181 0), (oR 573), Value.none, (oR 574), (oR 575), (oR 576), (Value.int 991 0), (Value.int 252 0), (oT (oS "/claim/cut.py") 992)]) #[]),
  (Obj.mk (Value.type "function") none (Data.func (oG (oS "turn_all") (oS "State.turn_all") 252 3 [] Value.none Value.none Value.none (oT (oS "ringgate.cells") 765) none (oR 577) Value.none 0)) #[]),
  (Obj.mk (Value.type "tuple") none (Data.seq #[(oT (oS "frames") 994), (oT (oS "next_number") 995), (oT (oS "rooms") 996)] 0) #[]),
  (Obj.mk (Value.type "dict") none (Data.dict #[(oE P (oS "__module__") 911 (oT (oS "ringgate.cells") 765)), (oE P (oS "__firstlineno__") 915 (Value.int 215 914)), (oE P (oS "__init__") 925 (oR 519)), (oE P (oS "copy") 931 (oR 524)), (oE P (oS "top") 938 (oR 531)), (oE P (oS "depth") 945 (oR 538)), (oE P (oS "reg") 953 (oR 545)), (oE P (oS "put") 962 (oR 552)), (oE P (oS "fresh") 969 (oR 559)), (oE P (oS "told") 975 (oR 564)), (oE P (oS "all_regs") 985 (oR 571)), (oE P (oS "turn_all") 993 (oR 578)), (oE P (oS "__static_attributes__") 997 (oR 579)), (oE P (oS "__dict__") 999 (oR 582)), (oE P (oS "__weakref__") 1001 (oR 583)), (oE P (oS "__doc__") 1002 Value.none)] 4) #[]),
  (Obj.mk (Value.type "type") none (Data.cls (ClassData.mk (oS "State") [(Value.type "object")] [(oR 581), (Value.type "object")] 580 (oS "State") Bool.true [] [] Bool.false none Bool.false)) #[none, none, (some (oT (oS "State") 904)), (some (oT (oS "State") 912)), (some (Value.builtin "object.__new__")), (some (Value.bool Bool.true))]),
  (Obj.mk (Value.type "getset_descriptor") none (Data.fields #[(oT (oS "__dict__") 998), (oR 581), (Value.builtin "function.__dict__"), (Value.builtin "function.__dict__#set")]) #[]),
  (Obj.mk (Value.type "getset_descriptor") none (Data.fields #[(oT (oS "__weakref__") 1000), (oR 581), (Value.builtin "ExceptionGroup.__weakref__"), Value.none]) #[]),
  (Obj.mk (Value.type "super") none (Data.fields #[(oR 581), (oR 581), (oR 581)]) #[]),
  (Obj.mk (Value.type "builtin_function_or_method") none (Data.fields #[(Value.builtin "object.__init_subclass__"), (oR 581)]) #[]),
  (Obj.mk (Value.type "tuple") none (Data.seq #[] 0) #[]),
  (Obj.mk Value.none none (Data.fields #[]) #[]),
  (Obj.mk Value.none none (Data.func (oG (oS "new_frame") (oS "new_frame") 254 0 [] Value.none Value.none Value.none Value.none none Value.none Value.none 0)) #[]),
  (Obj.mk (Value.type "code") none (Data.fields #[(oT (oS "new_frame") 1005), (oT (oS "new_frame") 1006), (oT (oS "/claim/cut.py") 1007), (Value.int 254 0), (Value.int 2 0), (Value.int 0 0), (Value.int 0 0), (Value.int 3 0), (oR 586), (Value.bool Bool.true), (Value.int 181 0), (oR 587), Value.none, Value.none, Value.none, (oR 588), (Value.int 1008 0), (Value.int 254 0), (oT (oS "/claim/cut.py") 1009)]) #[]),
  (Obj.mk (Value.type "function") none (Data.func (oG (oS "new_frame") (oS "new_frame") 254 3 [] Value.none Value.none Value.none (oT (oS "ringgate.cells") 765) none (oR 589) Value.none 0)) #[]),
  (Obj.mk (Value.type "tuple") none (Data.seq #[] 0) #[]),
  (Obj.mk Value.none none (Data.fields #[]) #[]),
  (Obj.mk (Value.type "tuple") none (Data.seq #[(oT (oS "frame") 1014)] 0) #[]),
  (Obj.mk (Value.type "tuple") none (Data.seq #[] 0) #[]),
  (Obj.mk Value.none none (Data.func (oG (oS "first_state") (oS "first_state") 258 0 [] Value.none Value.none Value.none Value.none none Value.none Value.none 0)) #[]),
  (Obj.mk (Value.type "code") none (Data.fields #[(oT (oS "first_state") 1011), (oT (oS "first_state") 1012), (oT (oS "/claim/cut.py") 1013), (Value.int 258 0), (Value.int 0 0), (Value.int 0 0), (Value.int 0 0), (Value.int 3 0), (oR 591), (Value.bool Bool.true), (Value.int 181 0), (oR 592), Value.none, (oR 593), (oR 594), (oR 595), (Value.int 1015 0), (Value.int 258 0), (oT (oS "/claim/cut.py") 1016)]) #[]),
  (Obj.mk (Value.type "function") none (Data.func (oG (oS "first_state") (oS "first_state") 258 3 [] Value.none Value.none Value.none (oT (oS "ringgate.cells") 765) none (oR 596) Value.none 0)) #[]),
  (Obj.mk (Value.type "tuple") none (Data.seq #[] 0) #[]),
  (Obj.mk Value.none none (Data.fields #[]) #[])]
noncomputable def ob15 (P : Params) : List Obj := [
  (Obj.mk (Value.type "tuple") none (Data.seq #[(oT (oS "off") 1021)] 0) #[]),
  (Obj.mk (Value.type "tuple") none (Data.seq #[] 0) #[]),
  (Obj.mk Value.none none (Data.func (oG (oS "slot_of") (oS "slot_of") 262 0 [] Value.none Value.none Value.none Value.none none Value.none Value.none 0)) #[]),
  (Obj.mk (Value.type "code") none (Data.fields #[(oT (oS "slot_of") 1018), (oT (oS "slot_of") 1019), (oT (oS "/claim/cut.py") 1020), (Value.int 262 0), (Value.int 1 0), (Value.int 0 0), (Value.int 0 0), (Value.int 3 0), (oR 598), (Value.bool Bool.true), (Value.int 181 0), (oR 599), Value.none, (oR 600), (oR 601), (oR 602), (Value.int 1022 0), (Value.int 262 0), (oT (oS "/claim/cut.py") 1023)]) #[]),
  (Obj.mk (Value.type "function") none (Data.func (oG (oS "slot_of") (oS "slot_of") 262 3 [] Value.none Value.none Value.none (oT (oS "ringgate.cells") 765) none (oR 603) Value.none 0)) #[]),
  (Obj.mk (Value.type "tuple") none (Data.seq #[] 0) #[]),
  (Obj.mk Value.none none (Data.fields #[]) #[]),
  (Obj.mk (Value.type "tuple") none (Data.seq #[(oT (oS "off") 1028)] 0) #[]),
  (Obj.mk (Value.type "tuple") none (Data.seq #[] 0) #[]),
  (Obj.mk Value.none none (Data.func (oG (oS "place_in_slot") (oS "place_in_slot") 264 0 [] Value.none Value.none Value.none Value.none none Value.none Value.none 0)) #[]),
  (Obj.mk (Value.type "code") none (Data.fields #[(oT (oS "place_in_slot") 1025), (oT (oS "place_in_slot") 1026), (oT (oS "/claim/cut.py") 1027), (Value.int 264 0), (Value.int 1 0), (Value.int 0 0), (Value.int 0 0), (Value.int 3 0), (oR 605), (Value.bool Bool.true), (Value.int 181 0), (oR 606), Value.none, (oR 607), (oR 608), (oR 609), (Value.int 1029 0), (Value.int 264 0), (oT (oS "/claim/cut.py") 1030)]) #[]),
  (Obj.mk (Value.type "function") none (Data.func (oG (oS "place_in_slot") (oS "place_in_slot") 264 3 [] Value.none Value.none Value.none (oT (oS "ringgate.cells") 765) none (oR 610) Value.none 0)) #[]),
  (Obj.mk (Value.type "tuple") none (Data.seq #[] 0) #[]),
  (Obj.mk Value.none none (Data.fields #[]) #[]),
  (Obj.mk (Value.type "tuple") none (Data.seq #[(oT (oS "slot") 1035)] 0) #[]),
  (Obj.mk (Value.type "tuple") none (Data.seq #[] 0) #[]),
  (Obj.mk Value.none none (Data.func (oG (oS "offset_of") (oS "offset_of") 266 0 [] Value.none Value.none Value.none Value.none none Value.none Value.none 0)) #[]),
  (Obj.mk (Value.type "code") none (Data.fields #[(oT (oS "offset_of") 1032), (oT (oS "offset_of") 1033), (oT (oS "/claim/cut.py") 1034), (Value.int 266 0), (Value.int 1 0), (Value.int 0 0), (Value.int 0 0), (Value.int 3 0), (oR 612), (Value.bool Bool.true), (Value.int 181 0), (oR 613), Value.none, (oR 614), (oR 615), (oR 616), (Value.int 1036 0), (Value.int 266 0), (oT (oS "/claim/cut.py") 1037)]) #[]),
  (Obj.mk (Value.type "function") none (Data.func (oG (oS "offset_of") (oS "offset_of") 266 3 [] Value.none Value.none Value.none (oT (oS "ringgate.cells") 765) none (oR 617) Value.none 0)) #[]),
  (Obj.mk (Value.type "tuple") none (Data.seq #[] 0) #[]),
  (Obj.mk Value.none none (Data.fields #[]) #[]),
  (Obj.mk (Value.type "tuple") none (Data.seq #[(oT (oS "off") 1042), (oT (oS "width") 1043)] 0) #[]),
  (Obj.mk (Value.type "tuple") none (Data.seq #[] 0) #[]),
  (Obj.mk Value.none none (Data.func (oG (oS "need_within") (oS "need_within") 268 0 [] Value.none Value.none Value.none Value.none none Value.none Value.none 0)) #[]),
  (Obj.mk (Value.type "code") none (Data.fields #[(oT (oS "need_within") 1039), (oT (oS "need_within") 1040), (oT (oS "/claim/cut.py") 1041), (Value.int 268 0), (Value.int 2 0), (Value.int 0 0), (Value.int 0 0), (Value.int 3 0), (oR 619), (Value.bool Bool.true), (Value.int 181 0), (oR 620), Value.none, (oR 621), (oR 622), (oR 623), (Value.int 1044 0), (Value.int 268 0), (oT (oS "/claim/cut.py") 1045)]) #[]),
  (Obj.mk (Value.type "function") none (Data.func (oG (oS "need_within") (oS "need_within") 268 3 [] Value.none Value.none Value.none (oT (oS "ringgate.cells") 765) none (oR 624) Value.none 0)) #[]),
  (Obj.mk (Value.type "tuple") none (Data.seq #[] 0) #[]),
  (Obj.mk Value.none none (Data.fields #[]) #[]),
  (Obj.mk (Value.type "tuple") none (Data.seq #[(oT (oS "off") 1050), (oT (oS "width") 1051)] 0) #[]),
  (Obj.mk (Value.type "tuple") none (Data.seq #[] 0) #[]),
  (Obj.mk Value.none none (Data.func (oG (oS "is_whole") (oS "is_whole") 271 0 [] Value.none Value.none Value.none Value.none none Value.none Value.none 0)) #[]),
  (Obj.mk (Value.type "code") none (Data.fields #[(oT (oS "is_whole") 1047), (oT (oS "is_whole") 1048), (oT (oS "/claim/cut.py") 1049), (Value.int 271 0), (Value.int 2 0), (Value.int 0 0), (Value.int 0 0), (Value.int 3 0), (oR 626), (Value.bool Bool.true), (Value.int 181 0), (oR 627), Value.none, (oR 628), (oR 629), (oR 630), (Value.int 1052 0), (Value.int 271 0), (oT (oS "/claim/cut.py") 1053)]) #[]),
  (Obj.mk (Value.type "function") none (Data.func (oG (oS "is_whole") (oS "is_whole") 271 3 [] Value.none Value.none Value.none (oT (oS "ringgate.cells") 765) none (oR 631) Value.none 0)) #[]),
  (Obj.mk (Value.type "tuple") none (Data.seq #[] 0) #[]),
  (Obj.mk Value.none none (Data.fields #[]) #[]),
  (Obj.mk (Value.type "tuple") none (Data.seq #[(oT (oS "state") 1058), (oT (oS "frame") 1059), (oT (oS "off") 1060), (oT (oS "letters") 1061), (oT (oS "home") 1062), (oT (oS "slot") 1063), (oT (oS "kinds") 1064), (oT (oS "begin") 1065), (oT (oS "place") 1066), (oT (oS "step") 1067)] 0) #[]),
  (Obj.mk (Value.type "tuple") none (Data.seq #[] 0) #[]),
  (Obj.mk Value.none none (Data.func (oG (oS "put_letters") (oS "put_letters") 273 0 [] Value.none Value.none Value.none Value.none none Value.none Value.none 0)) #[]),
  (Obj.mk (Value.type "code") none (Data.fields #[(oT (oS "put_letters") 1055), (oT (oS "put_letters") 1056), (oT (oS "/claim/cut.py") 1057), (Value.int 273 0), (Value.int 4 0), (Value.int 0 0), (Value.int 0 0), (Value.int 3 0), (oR 633), (Value.bool Bool.true), (Value.int 181 0), (oR 634), Value.none, (oR 635), (oR 636), (oR 637), (Value.int 1068 0), (Value.int 273 0), (oT (oS "/claim/cut.py") 1069)]) #[]),
  (Obj.mk (Value.type "function") none (Data.func (oG (oS "put_letters") (oS "put_letters") 273 3 [] Value.none Value.none Value.none (oT (oS "ringgate.cells") 765) none (oR 638) Value.none 0)) #[])]
noncomputable def ob16 (P : Params) : List Obj := [
  (Obj.mk (Value.type "tuple") none (Data.seq #[] 0) #[]),
  (Obj.mk Value.none none (Data.fields #[]) #[]),
  (Obj.mk Value.none none (Data.func (oG (oS "letters_of") (oS "letters_of") 282 0 [] Value.none Value.none Value.none Value.none none Value.none Value.none 0)) #[]),
  (Obj.mk (Value.type "code") none (Data.fields #[(oT (oS "letters_of") 1071), (oT (oS "letters_of") 1072), (oT (oS "/claim/cut.py") 1073), (Value.int 282 0), (Value.int 2 0), (Value.int 0 0), (Value.int 0 0), (Value.int 3 0), (oR 640), (Value.bool Bool.true), (Value.int 181 0), (oR 641), Value.none, Value.none, Value.none, (oR 642), (Value.int 1074 0), (Value.int 282 0), (oT (oS "/claim/cut.py") 1075)]) #[]),
  (Obj.mk (Value.type "function") none (Data.func (oG (oS "letters_of") (oS "letters_of") 282 3 [] Value.none Value.none Value.none (oT (oS "ringgate.cells") 765) none (oR 643) Value.none 0)) #[]),
  (Obj.mk (Value.type "tuple") none (Data.seq #[] 0) #[]),
  (Obj.mk Value.none none (Data.fields #[]) #[]),
  (Obj.mk (Value.type "tuple") none (Data.seq #[(oT (oS "state") 1080), (oT (oS "frame") 1081), (oT (oS "off") 1082), (oT (oS "width") 1083), (oT (oS "reg") 1084)] 0) #[]),
  (Obj.mk (Value.type "tuple") none (Data.seq #[] 0) #[]),
  (Obj.mk Value.none none (Data.func (oG (oS "stack_write") (oS "stack_write") 287 0 [] Value.none Value.none Value.none Value.none none Value.none Value.none 0)) #[]),
  (Obj.mk (Value.type "code") none (Data.fields #[(oT (oS "stack_write") 1077), (oT (oS "stack_write") 1078), (oT (oS "/claim/cut.py") 1079), (Value.int 287 0), (Value.int 5 0), (Value.int 0 0), (Value.int 0 0), (Value.int 3 0), (oR 645), (Value.bool Bool.true), (Value.int 181 0), (oR 646), Value.none, (oR 647), (oR 648), (oR 649), (Value.int 1085 0), (Value.int 287 0), (oT (oS "/claim/cut.py") 1086)]) #[]),
  (Obj.mk (Value.type "function") none (Data.func (oG (oS "stack_write") (oS "stack_write") 287 3 [] Value.none Value.none Value.none (oT (oS "ringgate.cells") 765) none (oR 650) Value.none 0)) #[]),
  (Obj.mk (Value.type "tuple") none (Data.seq #[] 0) #[]),
  (Obj.mk Value.none none (Data.fields #[]) #[]),
  (Obj.mk (Value.type "tuple") none (Data.seq #[(oT (oS "reg") 1097), (oT (oS "at") 1098)] 0) #[]),
  (Obj.mk (Value.type "tuple") none (Data.seq #[] 0) #[]),
  (Obj.mk Value.none none (Data.func (oG (oS "need_number") (oS "need_number") 298 0 [] Value.none Value.none Value.none Value.none none Value.none Value.none 0)) #[]),
  (Obj.mk (Value.type "code") none (Data.fields #[(oT (oS "need_number") 1094), (oT (oS "need_number") 1095), (oT (oS "/claim/cut.py") 1096), (Value.int 298 0), (Value.int 2 0), (Value.int 0 0), (Value.int 0 0), (Value.int 3 0), (oR 652), (Value.bool Bool.true), (Value.int 181 0), (oR 653), Value.none, (oR 654), (oR 655), (oR 656), (Value.int 1099 0), (Value.int 298 0), (oT (oS "/claim/cut.py") 1100)]) #[]),
  (Obj.mk (Value.type "function") none (Data.func (oG (oS "need_number") (oS "need_number") 298 3 [] Value.none Value.none Value.none (oT (oS "ringgate.calls") 1088) none (oR 657) Value.none 0)) #[]),
  (Obj.mk (Value.type "tuple") none (Data.seq #[] 0) #[]),
  (Obj.mk Value.none none (Data.fields #[]) #[]),
  (Obj.mk (Value.type "tuple") none (Data.seq #[(oT (oS "state") 1105), (oT (oS "place") 1106)] 0) #[]),
  (Obj.mk (Value.type "tuple") none (Data.seq #[] 0) #[]),
  (Obj.mk Value.none none (Data.func (oG (oS "forget_arguments") (oS "forget_arguments") 303 0 [] Value.none Value.none Value.none Value.none none Value.none Value.none 0)) #[]),
  (Obj.mk (Value.type "code") none (Data.fields #[(oT (oS "forget_arguments") 1102), (oT (oS "forget_arguments") 1103), (oT (oS "/claim/cut.py") 1104), (Value.int 303 0), (Value.int 1 0), (Value.int 0 0), (Value.int 0 0), (Value.int 3 0), (oR 659), (Value.bool Bool.true), (Value.int 181 0), (oR 660), Value.none, (oR 661), (oR 662), (oR 663), (Value.int 1107 0), (Value.int 303 0), (oT (oS "/claim/cut.py") 1108)]) #[]),
  (Obj.mk (Value.type "function") none (Data.func (oG (oS "forget_arguments") (oS "forget_arguments") 303 3 [] Value.none Value.none Value.none (oT (oS "ringgate.calls") 1088) none (oR 664) Value.none 0)) #[]),
  (Obj.mk (Value.type "tuple") none (Data.seq #[] 0) #[]),
  (Obj.mk Value.none none (Data.fields #[]) #[]),
  (Obj.mk (Value.type "tuple") none (Data.seq #[(oT (oS "state") 1113), (oT (oS "program") 1114), (oT (oS "at") 1115), (oT (oS "frame") 1116), (oT (oS "place") 1117)] 0) #[]),
  (Obj.mk (Value.type "tuple") none (Data.seq #[] 0) #[]),
  (Obj.mk Value.none none (Data.func (oG (oS "local_call") (oS "local_call") 306 0 [] Value.none Value.none Value.none Value.none none Value.none Value.none 0)) #[]),
  (Obj.mk (Value.type "code") none (Data.fields #[(oT (oS "local_call") 1110), (oT (oS "local_call") 1111), (oT (oS "/claim/cut.py") 1112), (Value.int 306 0), (Value.int 3 0), (Value.int 0 0), (Value.int 0 0), (Value.int 3 0), (oR 666), (Value.bool Bool.true), (Value.int 181 0), (oR 667), Value.none, (oR 668), (oR 669), (oR 670), (Value.int 1118 0), (Value.int 306 0), (oT (oS "/claim/cut.py") 1119)]) #[]),
  (Obj.mk (Value.type "function") none (Data.func (oG (oS "local_call") (oS "local_call") 306 3 [] Value.none Value.none Value.none (oT (oS "ringgate.calls") 1088) none (oR 671) Value.none 0)) #[]),
  (Obj.mk (Value.type "tuple") none (Data.seq #[] 0) #[]),
  (Obj.mk Value.none none (Data.fields #[]) #[]),
  (Obj.mk (Value.type "tuple") none (Data.seq #[(oT (oS "reg") 1124), (oT (oS "depth") 1125)] 0) #[]),
  (Obj.mk (Value.type "tuple") none (Data.seq #[] 0) #[]),
  (Obj.mk Value.none none (Data.func (oG (oS "points_to_frame") (oS "points_to_frame") 314 0 [] Value.none Value.none Value.none Value.none none Value.none Value.none 0)) #[]),
  (Obj.mk (Value.type "code") none (Data.fields #[(oT (oS "points_to_frame") 1121), (oT (oS "points_to_frame") 1122), (oT (oS "/claim/cut.py") 1123), (Value.int 314 0), (Value.int 2 0), (Value.int 0 0), (Value.int 0 0), (Value.int 3 0), (oR 673), (Value.bool Bool.true), (Value.int 181 0), (oR 674), Value.none, (oR 675), (oR 676), (oR 677), (Value.int 1126 0), (Value.int 314 0), (oT (oS "/claim/cut.py") 1127)]) #[]),
  (Obj.mk (Value.type "function") none (Data.func (oG (oS "points_to_frame") (oS "points_to_frame") 314 3 [] Value.none Value.none Value.none (oT (oS "ringgate.calls") 1088) none (oR 678) Value.none 0)) #[])]
noncomputable def ob17 (P : Params) : List Obj := [
  (Obj.mk (Value.type "tuple") none (Data.seq #[] 0) #[]),
  (Obj.mk Value.none none (Data.fields #[]) #[]),
  (Obj.mk (Value.type "tuple") none (Data.seq #[(oT (oS "state") 1132), (oT (oS "at") 1133)] 0) #[]),
  (Obj.mk (Value.type "tuple") none (Data.seq #[] 0) #[]),
  (Obj.mk Value.none none (Data.func (oG (oS "check_main_exit") (oS "check_main_exit") 316 0 [] Value.none Value.none Value.none Value.none none Value.none Value.none 0)) #[]),
  (Obj.mk (Value.type "code") none (Data.fields #[(oT (oS "check_main_exit") 1129), (oT (oS "check_main_exit") 1130), (oT (oS "/claim/cut.py") 1131), (Value.int 316 0), (Value.int 2 0), (Value.int 0 0), (Value.int 0 0), (Value.int 3 0), (oR 680), (Value.bool Bool.true), (Value.int 181 0), (oR 681), Value.none, (oR 682), (oR 683), (oR 684), (Value.int 1134 0), (Value.int 316 0), (oT (oS "/claim/cut.py") 1135)]) #[]),
  (Obj.mk (Value.type "function") none (Data.func (oG (oS "check_main_exit") (oS "check_main_exit") 316 3 [] Value.none Value.none Value.none (oT (oS "ringgate.calls") 1088) none (oR 685) Value.none 0)) #[]),
  (Obj.mk (Value.type "tuple") none (Data.seq #[] 0) #[]),
  (Obj.mk Value.none none (Data.fields #[]) #[]),
  (Obj.mk (Value.type "tuple") none (Data.seq #[(oT (oS "state") 1140), (oT (oS "at") 1141), (oT (oS "depth") 1142), (oT (oS "given_back") 1143), (oT (oS "reg") 1144)] 0) #[]),
  (Obj.mk (Value.type "tuple") none (Data.seq #[] 0) #[]),
  (Obj.mk Value.none none (Data.func (oG (oS "leave") (oS "leave") 320 0 [] Value.none Value.none Value.none Value.none none Value.none Value.none 0)) #[]),
  (Obj.mk (Value.type "code") none (Data.fields #[(oT (oS "leave") 1137), (oT (oS "leave") 1138), (oT (oS "/claim/cut.py") 1139), (Value.int 320 0), (Value.int 2 0), (Value.int 0 0), (Value.int 0 0), (Value.int 3 0), (oR 687), (Value.bool Bool.true), (Value.int 181 0), (oR 688), Value.none, (oR 689), (oR 690), (oR 691), (Value.int 1145 0), (Value.int 320 0), (oT (oS "/claim/cut.py") 1146)]) #[]),
  (Obj.mk (Value.type "function") none (Data.func (oG (oS "leave") (oS "leave") 320 3 [] Value.none Value.none Value.none (oT (oS "ringgate.calls") 1088) none (oR 692) Value.none 0)) #[]),
  (Obj.mk (Value.type "tuple") none (Data.seq #[] 0) #[]),
  (Obj.mk Value.none none (Data.fields #[]) #[]),
  (Obj.mk (Value.type "tuple") none (Data.seq #[(oT (oS "pen") 1153), (oT (oS "many") 1154), (oT (oS "digit") 1155), (oT (oS "seat") 1156), (oT (oS "cell") 1157), (oT (oS "great") 1158), (oT (oS "blend") 1159)] 0) #[]),
  (Obj.mk (Value.type "tuple") none (Data.seq #[] 0) #[]),
  (Obj.mk Value.none none (Data.func (oG (oS "_law_draw") (oS "_law_draw") 334 0 [] Value.none Value.none Value.none Value.none none Value.none Value.none 0)) #[]),
  (Obj.mk (Value.type "code") none (Data.fields #[(oT (oS "_law_draw") 1150), (oT (oS "_law_draw") 1151), (oT (oS "/claim/cut.py") 1152), (Value.int 334 0), (Value.int 2 0), (Value.int 0 0), (Value.int 0 0), (Value.int 3 0), (oR 694), (Value.bool Bool.true), (Value.int 181 0), (oR 695), Value.none, (oR 696), (oR 697), (oR 698), (Value.int 1160 0), (Value.int 334 0), (oT (oS "/claim/cut.py") 1161)]) #[]),
  (Obj.mk (Value.type "function") none (Data.func (oG (oS "_law_draw") (oS "_law_draw") 334 3 [] Value.none Value.none Value.none (oT (oS "law_ok0174_01") 1148) none (oR 699) Value.none 0)) #[]),
  (Obj.mk (Value.type "tuple") none (Data.seq #[] 0) #[]),
  (Obj.mk Value.none none (Data.fields #[]) #[]),
  (Obj.mk (Value.type "tuple") none (Data.seq #[(oT (oS "pen") 1166), (oT (oS "depth") 1167), (oT (oS "rooms") 1168), (oT (oS "way") 1169)] 0) #[]),
  (Obj.mk (Value.type "tuple") none (Data.seq #[] 0) #[]),
  (Obj.mk Value.none none (Data.func (oG (oS "_law_word") (oS "_law_word") 349 0 [] Value.none Value.none Value.none Value.none none Value.none Value.none 0)) #[]),
  (Obj.mk (Value.type "code") none (Data.fields #[(oT (oS "_law_word") 1163), (oT (oS "_law_word") 1164), (oT (oS "/claim/cut.py") 1165), (Value.int 349 0), (Value.int 3 0), (Value.int 0 0), (Value.int 0 0), (Value.int 3 0), (oR 701), (Value.bool Bool.true), (Value.int 181 0), (oR 702), Value.none, (oR 703), (oR 704), (oR 705), (Value.int 1170 0), (Value.int 349 0), (oT (oS "/claim/cut.py") 1171)]) #[]),
  (Obj.mk (Value.type "function") none (Data.func (oG (oS "_law_word") (oS "_law_word") 349 3 [] Value.none Value.none Value.none (oT (oS "law_ok0174_01") 1148) none (oR 706) Value.none 0)) #[]),
  (Obj.mk (Value.type "tuple") none (Data.seq #[] 0) #[]),
  (Obj.mk Value.none none (Data.fields #[]) #[]),
  (Obj.mk (Value.type "tuple") none (Data.seq #[(oT (oS "word") 1176)] 0) #[]),
  (Obj.mk (Value.type "tuple") none (Data.seq #[] 0) #[]),
  (Obj.mk Value.none none (Data.func (oG (oS "_law_reg") (oS "_law_reg") 362 0 [] Value.none Value.none Value.none Value.none none Value.none Value.none 0)) #[]),
  (Obj.mk (Value.type "code") none (Data.fields #[(oT (oS "_law_reg") 1173), (oT (oS "_law_reg") 1174), (oT (oS "/claim/cut.py") 1175), (Value.int 362 0), (Value.int 1 0), (Value.int 0 0), (Value.int 0 0), (Value.int 3 0), (oR 708), (Value.bool Bool.true), (Value.int 181 0), (oR 709), Value.none, (oR 710), (oR 711), (oR 712), (Value.int 1177 0), (Value.int 362 0), (oT (oS "/claim/cut.py") 1178)]) #[]),
  (Obj.mk (Value.type "function") none (Data.func (oG (oS "_law_reg") (oS "_law_reg") 362 3 [] Value.none Value.none Value.none (oT (oS "law_ok0174_01") 1148) none (oR 713) Value.none 0)) #[]),
  (Obj.mk (Value.type "tuple") none (Data.seq #[] 0) #[]),
  (Obj.mk Value.none none (Data.fields #[]) #[]),
  (Obj.mk (Value.type "tuple") none (Data.seq #[(oT (oS "reg") 1183)] 0) #[]),
  (Obj.mk (Value.type "tuple") none (Data.seq #[] 0) #[]),
  (Obj.mk Value.none none (Data.func (oG (oS "_law_told") (oS "_law_told") 374 0 [] Value.none Value.none Value.none Value.none none Value.none Value.none 0)) #[])]
noncomputable def ob18 (P : Params) : List Obj := [
  (Obj.mk (Value.type "code") none (Data.fields #[(oT (oS "_law_told") 1180), (oT (oS "_law_told") 1181), (oT (oS "/claim/cut.py") 1182), (Value.int 374 0), (Value.int 1 0), (Value.int 0 0), (Value.int 0 0), (Value.int 3 0), (oR 715), (Value.bool Bool.true), (Value.int 181 0), (oR 716), Value.none, (oR 717), (oR 718), (oR 719), (Value.int 1184 0), (Value.int 374 0), (oT (oS "/claim/cut.py") 1185)]) #[]),
  (Obj.mk (Value.type "function") none (Data.func (oG (oS "_law_told") (oS "_law_told") 374 3 [] Value.none Value.none Value.none (oT (oS "law_ok0174_01") 1148) none (oR 720) Value.none 0)) #[]),
  (Obj.mk (Value.type "tuple") none (Data.seq #[] 0) #[]),
  (Obj.mk Value.none none (Data.fields #[]) #[]),
  (Obj.mk Value.none none (Data.func (oG (oS "_law_stands") (oS "_law_stands") 386 0 [] Value.none Value.none Value.none Value.none none Value.none Value.none 0)) #[]),
  (Obj.mk (Value.type "code") none (Data.fields #[(oT (oS "_law_stands") 1187), (oT (oS "_law_stands") 1188), (oT (oS "/claim/cut.py") 1189), (Value.int 386 0), (Value.int 3 0), (Value.int 0 0), (Value.int 0 0), (Value.int 3 0), (oR 722), (Value.bool Bool.true), (Value.int 181 0), (oR 723), Value.none, Value.none, Value.none, (oR 724), (Value.int 1190 0), (Value.int 386 0), (oT (oS "/claim/cut.py") 1191)]) #[]),
  (Obj.mk (Value.type "function") none (Data.func (oG (oS "_law_stands") (oS "_law_stands") 386 3 [] Value.none Value.none Value.none (oT (oS "law_ok0174_01") 1148) none (oR 725) Value.none 0)) #[]),
  (Obj.mk (Value.type "tuple") none (Data.seq #[] 0) #[]),
  (Obj.mk Value.none none (Data.fields #[]) #[]),
  (Obj.mk (Value.type "tuple") none (Data.seq #[(oT (oS "deed") 1196), (oT (oS "refusal") 1197)] 0) #[]),
  (Obj.mk (Value.type "tuple") none (Data.seq #[] 0) #[]),
  (Obj.mk Value.none none (Data.func (oG (oS "_law_heard") (oS "_law_heard") 399 0 [] Value.none Value.none Value.none Value.none none Value.none Value.none 0)) #[]),
  (Obj.mk (Value.type "code") none (Data.fields #[(oT (oS "_law_heard") 1193), (oT (oS "_law_heard") 1194), (oT (oS "/claim/cut.py") 1195), (Value.int 399 0), (Value.int 1 0), (Value.int 0 0), (Value.int 0 0), (Value.int 3 0), (oR 727), (Value.bool Bool.true), (Value.int 181 0), (oR 728), Value.none, (oR 729), (oR 730), (oR 731), (Value.int 1198 0), (Value.int 399 0), (oT (oS "/claim/cut.py") 1199)]) #[]),
  (Obj.mk (Value.type "function") none (Data.func (oG (oS "_law_heard") (oS "_law_heard") 399 3 [] Value.none Value.none Value.none (oT (oS "law_ok0174_01") 1148) none (oR 732) Value.none 0)) #[]),
  (Obj.mk (Value.type "tuple") none (Data.seq #[] 0) #[]),
  (Obj.mk Value.none none (Data.fields #[]) #[]),
  (Obj.mk (Value.type "tuple") none (Data.seq #[(oT (oS "model") 1204), (oT (oS "rooms") 1205), (oT (oS "at") 1206), (oT (oS "first") 1207), (oT (oS "goes") 1208), (oT (oS "kept") 1209), (oT (oS "caller") 1210), (oT (oS "regs") 1211), (oT (oS "behind") 1212), (oT (oS "row") 1213), (oT (oS "word") 1214)] 0) #[]),
  (Obj.mk (Value.type "tuple") none (Data.seq #[] 0) #[]),
  (Obj.mk Value.none none (Data.func (oG (oS "_law_leave_due") (oS "_law_leave_due") 404 0 [] Value.none Value.none Value.none Value.none none Value.none Value.none 0)) #[]),
  (Obj.mk (Value.type "code") none (Data.fields #[(oT (oS "_law_leave_due") 1201), (oT (oS "_law_leave_due") 1202), (oT (oS "/claim/cut.py") 1203), (Value.int 404 0), (Value.int 3 0), (Value.int 0 0), (Value.int 0 0), (Value.int 3 0), (oR 734), (Value.bool Bool.true), (Value.int 181 0), (oR 735), Value.none, (oR 736), (oR 737), (oR 738), (Value.int 1215 0), (Value.int 404 0), (oT (oS "/claim/cut.py") 1216)]) #[]),
  (Obj.mk (Value.type "function") none (Data.func (oG (oS "_law_leave_due") (oS "_law_leave_due") 404 3 [] Value.none Value.none Value.none (oT (oS "law_ok0174_01") 1148) none (oR 739) Value.none 0)) #[]),
  (Obj.mk (Value.type "tuple") none (Data.seq #[] 0) #[]),
  (Obj.mk Value.none none (Data.fields #[]) #[]),
  (Obj.mk (Value.type "tuple") none (Data.seq #[(oT (oS "pen") 1221), (oT (oS "state") 1222), (oT (oS "model") 1223), (oT (oS "rooms") 1224), (oT (oS "way") 1225), (oT (oS "depth") 1226), (oT (oS "seat") 1227), (oT (oS "word") 1228), (oT (oS "home") 1229), (oT (oS "slot") 1230), (oT (oS "heard") 1231), (oT (oS "regs") 1232), (oT (oS "refused") 1233), (oT (oS "behind") 1234)] 0) #[]),
  (Obj.mk (Value.type "tuple") none (Data.seq #[(oT (oS "at") 1235), (oT (oS "trial") 1236)] 0) #[]),
  (Obj.mk Value.none none (Data.func (oG (oS "_law_deed") (oS "_law_deed") 420 0 [] Value.none Value.none Value.none Value.none none Value.none Value.none 0)) #[]),
  (Obj.mk (Value.type "code") none (Data.fields #[(oT (oS "_law_deed") 1218), (oT (oS "_law_deed") 1219), (oT (oS "/claim/cut.py") 1220), (Value.int 420 0), (Value.int 4 0), (Value.int 0 0), (Value.int 0 0), (Value.int 3 0), (oR 741), (Value.bool Bool.true), (Value.int 181 0), (oR 742), Value.none, (oR 743), (oR 744), (oR 745), (Value.int 1237 0), (Value.int 420 0), (oT (oS "/claim/cut.py") 1238)]) #[]),
  (Obj.mk (Value.type "function") none (Data.func (oG (oS "_law_deed") (oS "_law_deed") 420 3 [] Value.none Value.none Value.none (oT (oS "law_ok0174_01") 1148) none (oR 746) Value.none 0)) #[]),
  (Obj.mk (Value.type "tuple") none (Data.seq #[] 0) #[]),
  (Obj.mk Value.none none (Data.fields #[]) #[]),
  (Obj.mk Value.none none (Data.func (oG (oS "law") (oS "law") 453 0 [] Value.none Value.none Value.none Value.none none Value.none Value.none 0)) #[]),
  (Obj.mk (Value.type "code") none (Data.fields #[(oT (oS "law") 1240), (oT (oS "law") 1241), (oT (oS "/claim/cut.py") 1242), (Value.int 453 0), (Value.int 1 0), (Value.int 0 0), (Value.int 0 0), (Value.int 3 0), (oR 748), (Value.bool Bool.true), (Value.int 181 0), (oR 749), Value.none, Value.none, Value.none, (oR 750), (Value.int 1243 0), (Value.int 453 0), (oT (oS "/claim/cut.py") 1244)]) #[]),
  (Obj.mk (Value.type "function") none (Data.func (oG (oS "law") (oS "law") 453 3 [] Value.none Value.none Value.none (oT (oS "law_ok0174_01") 1148) none (oR 751) Value.none 0)) #[])]
noncomputable def obsQ (P : Params) : List Obj := ob0 P ++ (ob1 P ++ (ob2 P ++ (ob3 P ++ (ob4 P ++ (ob5 P ++ (ob6 P ++ (ob7 P ++ (ob8 P ++ (ob9 P ++ (ob10 P ++ (ob11 P ++ (ob12 P ++ (ob13 P ++ (ob14 P ++ (ob15 P ++ (ob16 P ++ (ob17 P ++ (ob18 P))))))))))))))))))
noncomputable def obs1 (P : Params) : List Obj := (((obsQ P).take 202).set 3 (Obj.mk (Value.type "dict") none (Data.dict #[(oE P (oS "__name__") 165 (oT (oS "ringgate.ranges") 451)), (oE P (oS "__doc__") 166 Value.none), (oE P (oS "__package__") 167 Value.none), (oE P (oS "__loader__") 168 (Value.builtin "__main__.__loader__#opaque")), (oE P (oS "__spec__") 169 Value.none), (oE P (oS "__annotations__") 170 (oR 6)), (oE P (oS "__builtins__") 171 (oR 4)), (oE P (oS "__file__") 173 (oT (oS "/claim/cut.py") 172)), (oE P (oS "__cached__") 174 Value.none), (oE P (oS "_wall") 193 (oR 21)), (oE P (oS "U64") 197 (Value.int 18446744073709551615 196)), (oE P (oS "U32") 199 (Value.int 4294967295 198)), (oE P (oS "S64_MAX") 201 (Value.int 9223372036854775807 200)), (oE P (oS "S64_MIN") 204 (Value.int (Neg.neg 9223372036854775808) 203)), (oE P (oS "S32_MAX") 206 (Value.int 2147483647 205)), (oE P (oS "S32_MIN") 209 (Value.int (Neg.neg 2147483648) 208)), (oE P (oS "GateError") 247 (oR 46)), (oE P (oS "Refusal") 263 (oR 59)), (oE P (oS "wrap") 272 (oR 69)), (oE P (oS "signed") 282 (oR 77)), (oE P (oS "Tnum") 450 (oR 197))] 21) #[])).set 12 (Obj.mk Value.none none (Data.fields #[(Value.int 1 0), (Value.int 0 0), (oR 20), (Value.int 11 0), (Value.int 0 0), (oR 27), (Value.int 20 0), (Value.int 0 0), (oR 55), (Value.int 22 0), (Value.int 0 0), (oR 68), (Value.int 24 0), (Value.int 0 0), (oR 76), (Value.int 28 0), (Value.int 0 0), (oR 83)]) #[])
noncomputable def obs2 (P : Params) : List Obj := (((obsQ P).take 365).set 3 (Obj.mk (Value.type "dict") none (Data.dict #[(oE P (oS "__name__") 165 (oT (oS "ringgate.kinds") 641)), (oE P (oS "__doc__") 166 Value.none), (oE P (oS "__package__") 167 Value.none), (oE P (oS "__loader__") 168 (Value.builtin "__main__.__loader__#opaque")), (oE P (oS "__spec__") 169 Value.none), (oE P (oS "__annotations__") 170 (oR 6)), (oE P (oS "__builtins__") 171 (oR 4)), (oE P (oS "__file__") 173 (oT (oS "/claim/cut.py") 172)), (oE P (oS "__cached__") 174 Value.none), (oE P (oS "_wall") 193 (oR 21)), (oE P (oS "U64") 197 (Value.int 18446744073709551615 196)), (oE P (oS "U32") 199 (Value.int 4294967295 198)), (oE P (oS "S64_MAX") 201 (Value.int 9223372036854775807 200)), (oE P (oS "S64_MIN") 204 (Value.int (Neg.neg 9223372036854775808) 203)), (oE P (oS "S32_MAX") 206 (Value.int 2147483647 205)), (oE P (oS "S32_MIN") 209 (Value.int (Neg.neg 2147483648) 208)), (oE P (oS "GateError") 247 (oR 46)), (oE P (oS "Refusal") 263 (oR 59)), (oE P (oS "wrap") 272 (oR 69)), (oE P (oS "signed") 282 (oR 77)), (oE P (oS "Tnum") 450 (oR 197)), (oE P (oS "Scalar") 640 (oR 310)), (oE P (oS "Reg") 699 (oR 339)), (oE P (oS "none") 705 (oR 350)), (oE P (oS "const_reg") 712 (oR 357)), (oE P (oS "any_number") 718 (oR 364))] 26) #[])).set 12 (Obj.mk Value.none none (Data.fields #[(Value.int 1 0), (Value.int 0 0), (oR 20), (Value.int 11 0), (Value.int 0 0), (oR 27), (Value.int 20 0), (Value.int 0 0), (oR 55), (Value.int 22 0), (Value.int 0 0), (oR 68), (Value.int 24 0), (Value.int 0 0), (oR 76), (Value.int 28 0), (Value.int 0 0), (oR 83), (Value.int 76 0), (Value.int 0 0), (oR 207), (Value.int 129 0), (Value.int 0 0), (oR 320), (Value.int 143 0), (Value.int 0 0), (oR 349), (Value.int 145 0), (Value.int 0 0), (oR 356), (Value.int 147 0), (Value.int 0 0), (oR 363)]) #[])
noncomputable def obs3 (P : Params) : List Obj := (((obsQ P).take 586).set 3 (Obj.mk (Value.type "dict") none (Data.dict #[(oE P (oS "__name__") 165 (oT (oS "ringgate.cells") 765)), (oE P (oS "__doc__") 166 Value.none), (oE P (oS "__package__") 167 Value.none), (oE P (oS "__loader__") 168 (Value.builtin "__main__.__loader__#opaque")), (oE P (oS "__spec__") 169 Value.none), (oE P (oS "__annotations__") 170 (oR 6)), (oE P (oS "__builtins__") 171 (oR 4)), (oE P (oS "__file__") 173 (oT (oS "/claim/cut.py") 172)), (oE P (oS "__cached__") 174 Value.none), (oE P (oS "_wall") 193 (oR 21)), (oE P (oS "U64") 197 (Value.int 18446744073709551615 196)), (oE P (oS "U32") 199 (Value.int 4294967295 198)), (oE P (oS "S64_MAX") 201 (Value.int 9223372036854775807 200)), (oE P (oS "S64_MIN") 204 (Value.int (Neg.neg 9223372036854775808) 203)), (oE P (oS "S32_MAX") 206 (Value.int 2147483647 205)), (oE P (oS "S32_MIN") 209 (Value.int (Neg.neg 2147483648) 208)), (oE P (oS "GateError") 247 (oR 46)), (oE P (oS "Refusal") 263 (oR 59)), (oE P (oS "wrap") 272 (oR 69)), (oE P (oS "signed") 282 (oR 77)), (oE P (oS "Tnum") 450 (oR 197)), (oE P (oS "Scalar") 640 (oR 310)), (oE P (oS "Reg") 699 (oR 339)), (oE P (oS "none") 705 (oR 350)), (oE P (oS "const_reg") 712 (oR 357)), (oE P (oS "any_number") 718 (oR 364)), (oE P (oS "context_reg") 724 (oR 371)), (oE P (oS "value_reg") 733 (oR 379)), (oE P (oS "stack_reg") 741 (oR 386)), (oE P (oS "room_reg") 750 (oR 394)), (oE P (oS "is_pointer") 757 (oR 401)), (oE P (oS "is_const") 764 (oR 408)), (oE P (oS "SLOT") 768 (Value.int 8 767)), (oE P (oS "STACK_OCTETS") 770 (Value.int 512 769)), (oE P (oS "UNWRITTEN") 772 (oT (oS "--------") 771)), (oE P (oS "SPILLED") 774 (oT (oS "ssssssss") 773)), (oE P (oS "REGISTERS") 776 (Value.int 11 775)), (oE P (oS "Cell") 821 (oR 440)), (oE P (oS "known_octet") 830 (oR 451)), (oE P (oS "unspilled") 840 (oR 458)), (oE P (oS "Frame") 903 (oR 501)), (oE P (oS "State") 1004 (oR 581))] 42) #[])).set 12 (Obj.mk Value.none none (Data.fields #[(Value.int 1 0), (Value.int 0 0), (oR 20), (Value.int 11 0), (Value.int 0 0), (oR 27), (Value.int 20 0), (Value.int 0 0), (oR 55), (Value.int 22 0), (Value.int 0 0), (oR 68), (Value.int 24 0), (Value.int 0 0), (oR 76), (Value.int 28 0), (Value.int 0 0), (oR 83), (Value.int 76 0), (Value.int 0 0), (oR 207), (Value.int 129 0), (Value.int 0 0), (oR 320), (Value.int 143 0), (Value.int 0 0), (oR 349), (Value.int 145 0), (Value.int 0 0), (oR 356), (Value.int 147 0), (Value.int 0 0), (oR 363), (Value.int 149 0), (Value.int 0 0), (oR 370), (Value.int 151 0), (Value.int 0 0), (oR 378), (Value.int 153 0), (Value.int 0 0), (oR 385), (Value.int 155 0), (Value.int 0 0), (oR 393), (Value.int 157 0), (Value.int 0 0), (oR 400), (Value.int 159 0), (Value.int 0 0), (oR 407), (Value.int 167 0), (Value.int 0 0), (oR 414), (Value.int 178 0), (Value.int 0 0), (oR 450), (Value.int 185 0), (Value.int 0 0), (oR 457), (Value.int 193 0), (Value.int 0 0), (oR 464), (Value.int 215 0), (Value.int 0 0), (oR 511)]) #[])
noncomputable def St1 (w : World) (os : OsState) : SharedT := ⟨treeOf 11 (obs1 w.params), 202, {}, Array.mk [], {}, 453, os⟩
noncomputable def St2 (w : World) (os : OsState) : SharedT := ⟨treeOf 11 (obs2 w.params), 365, {}, Array.mk [], {}, 719, os⟩
noncomputable def St3 (w : World) (os : OsState) : SharedT := ⟨treeOf 11 (obs3 w.params), 586, {}, Array.mk [], {}, 1005, os⟩
noncomputable def St4 (w : World) (os : OsState) : SharedT := ⟨treeOf 11 (obsQ w.params), 753, {}, Array.mk [], {}, 1246, os⟩
noncomputable abbrev posE : Pos := { line := 453, col := 0, endLine := 464, endCol := 15 }
noncomputable abbrev pos1 : Pos := { line := 75, col := 0, endLine := 75, endCol := 8 }
noncomputable abbrev pos2 : Pos := { line := 147, col := 0, endLine := 148, endCol := 45 }
noncomputable abbrev pos3 : Pos := { line := 215, col := 0, endLine := 253, endCol := 17 }
noncomputable abbrev bT : List Stmt := behindTheImports PP
noncomputable abbrev b1 : List Stmt := bT.take 15
noncomputable abbrev b2 : List Stmt := (bT.drop 15).take 6
noncomputable abbrev b3 : List Stmt := ((bT.drop 15).drop 6).take 17
noncomputable abbrev b4 : List Stmt := ((bT.drop 15).drop 6).drop 17
theorem bEq : b1 ++ (b2 ++ (b3 ++ (b4 ++ []))) = bT := by
  rw [List.append_nil, List.take_append_drop, List.take_append_drop, List.take_append_drop]
theorem runC1 (w : World) : (fun os => segRunT treeTable PP w 11 (some (.ref 6)) 1 1700 (SbT w os) (piecesOf b1 envT cT default [topFrame default])) = fun os => some (Flow.next, St1 w os, cT, pos1) := by
  rw [PySem.W.Fast.te10110043849684766642, PySem.W.Fast.te14364793385576792824]
  kernel_rfl
theorem runC2 (w : World) : (fun os => segRunT treeTable PP w 11 (some (.ref 6)) 1 1630 (St1 w os) (piecesOf b2 envT cT pos1 [topFrame default])) = fun os => some (Flow.next, St2 w os, cT, pos2) := by
  rw [PySem.W.Fast.te10110043849684766642, PySem.W.Fast.te14364793385576792824]
  kernel_rfl
theorem runC3 (w : World) : (fun os => segRunT treeTable PP w 11 (some (.ref 6)) 1 1460 (St2 w os) (piecesOf b3 envT cT pos2 [topFrame default])) = fun os => some (Flow.next, St3 w os, cT, pos3) := by
  rw [PySem.W.Fast.te10110043849684766642, PySem.W.Fast.te14364793385576792824]
  kernel_rfl
theorem runC4 (w : World) : (fun os => segRunT treeTable PP w 11 (some (.ref 6)) 1 900 (St3 w os) (piecesOf b4 envT cT pos3 [topFrame default])) = fun os => some (Flow.next, St4 w os, cT, posE) := by
  rw [PySem.W.Fast.te10110043849684766642, PySem.W.Fast.te14364793385576792824]
  kernel_rfl
noncomputable abbrev XtQ : Shared → Bool := fun s => xlAt viewQ [] s && recOk (RowW.records PySem.Challenge.rw_ok0174_01.row.toRowW) s
theorem opnQ : opening PP = plainProg PP.main.scope.names := by kernel_rfl
theorem bootQ (w : World) : ((boot_heap w.params).isNs mainGlobals && (Array.mk ([] : List GenState)).size == 0, (boot_heap w.params).objs.size, (boot_heap w.params).nsMap mainGlobals "__annotations__") = (true, 11, some (.ref 6)) := by kernel_rfl

noncomputable def hpF (P : Params) : Heap := ⟨(obsQ P).toArray, {}⟩
noncomputable abbrev shF (w : World) (os : OsState) : Shared := ⟨hpF w.params, Array.mk [], {}, 1246, os⟩
theorem runF (w : World) : (fun os => topRun treeTable PP w 11 (some (.ref 6)) 3 (St4 w os).abs ⟨doneF .next, cT, posE, [topFrame default]⟩) = fun os => some (shF w os) := by
  rw [PySem.W.Fast.te14082659384304107361, PySem.W.Fast.te14364793385576792824]
  kernel_rfl
theorem lookA (w : World) : (fun os => (staticsOk (importedModules PP.main.body) (boot_heap w.params) (shF w os).heap && namesBound PP (shF w os).heap && gensDone (shF w os) && laidKept (boot_heap w.params) (shF w os).heap)) = fun _ => true := by kernel_rfl
theorem andI {a b : Bool} (ha : a = true) (hb : b = true) : (a && b) = true := by subst ha hb; rfl
theorem pairI {α β : Type _} {a c : α} {b d : β} (h1 : a = c) (h2 : b = d) : (a, b) = (c, d) := by subst h1 h2; rfl
theorem lb1 (w : World) (os : OsState) : seen ((recsOf viewQ).map (·.name)) (ownsOf viewQ) [] { shF w os with gens := #[] } = expectedOf viewQ := by kernel_rfl
theorem lb2 (w : World) (os : OsState) : (shF w os).heap.bltView = bltViewBooted := by kernel_rfl
theorem lb3 (w : World) (os : OsState) : (shF w os).heap.keysOk (looseW viewQ looseQ) ((recsOf viewQ).map (·.name)) ((litsOf viewQ).map (·.1)) ((clssOf viewQ (looseW viewQ looseQ)).map (·.name)) = true := by kernel_rfl
theorem lb4 (w : World) (os : OsState) : (shF w os).heap.accountedOkI (importedModules PP.main.body) = true := by kernel_rfl
theorem lb5 (w : World) (os : OsState) : tablesOk viewQ (shF w os).heap = true := by kernel_rfl
theorem lb6 (w : World) (os : OsState) : XtQ (shF w os) = true := by kernel_rfl
theorem lb7 (w : World) (os : OsState) : tabsOk viewQ (shF w os) = true := by kernel_rfl
theorem lb8 (w : World) (os : OsState) : pinSeenD viewQ (drecsOf viewQ) (shF w os) = pinGoodD (drecsOf viewQ) := by kernel_rfl
theorem lb9 (w : World) (os : OsState) : plainSeenE viewQ (looseW viewQ looseQ) (shF w os) = plainGoodE viewQ (looseW viewQ looseQ) := by kernel_rfl
theorem lb10 (w : World) (os : OsState) : plainSeenD viewQ looseQ (shF w os) = plainGoodD viewQ looseQ := by kernel_rfl
theorem lb11 (w : World) (os : OsState) : wideSeen viewQ (shF w os) = wideGood viewQ := by kernel_rfl
theorem lb12 (w : World) (os : OsState) : clsSeenW viewQ looseQ (shF w os) = clsGoodW viewQ looseQ := by kernel_rfl
theorem lookB (w : World) : (fun os => openSeen viewQ looseQ (importedModules PP.main.body) XtQ true (shF w os)) = fun _ => openGood viewQ looseQ := by
  funext os
  unfold openSeen openGood
  with_reducible refine pairI (lb1 w os) (pairI (lb2 w os) (pairI (andI (andI (andI (andI (andI (andI (lb3 w os) (lb4 w os)) ?_) ?_) (lb5 w os)) (lb6 w os)) ?_) (pairI (lb7 w os) (pairI (lb8 w os) (pairI (lb9 w os) (pairI (lb10 w os) (pairI (lb11 w os) (lb12 w os))))))))
  all_goals kernel_rfl
theorem runQ (w : World) (os : OsState) : topRun treeTable PP w 11 (some (.ref 6)) 5706 (bootS w os) (topStub PP) = some (shF w os) := by
  have r4 := piece_app (rest := []) (segRun_of (congrFun (runC4 w) os)) (piece_nil (congrFun (runF w) os))
  have r3 := piece_app (segRun_of (congrFun (runC1 w) os)) (piece_app (segRun_of (congrFun (runC2 w) os)) (piece_app (segRun_of (congrFun (runC3 w) os)) r4))
  rw [bEq] at r3
  have r1 := go_top (congrFun (runA w) os) (piece_block (congrFun (runB w) os) r3)
  simp only [Nat.reduceAdd] at r1
  exact r1
theorem leftR {α : Type} {Yf : Shared → α} {y : α} {w : World} {os : OsState} {s₁ : Shared} (e : fencedOpening treeTable PP w 11252 = some (bootS w os)) (r0 : topRun treeTable PP w 11 (some (.ref 6)) 5706 (bootS w os) (topStub PP) = some s₁) (l1 : (staticsOk (importedModules PP.main.body) (boot_heap w.params) s₁.heap && namesBound PP s₁.heap && gensDone s₁ && laidKept (boot_heap w.params) s₁.heap) = true)
    (l2 : openSeen viewQ looseQ (importedModules PP.main.body) XtQ true s₁ = openGood viewQ looseQ) (l3 : Yf s₁ = y) : (openEnds treeTable PP w 11252).map (fun s => (openSeen viewQ looseQ (importedModules PP.main.body) XtQ true s, Yf s)) = some (openGood viewQ looseQ, y) := by
  have r := topRun_mono 5546 _ _ _ _ r0
  simp only [Nat.reduceAdd] at r
  obtain ⟨z1, z2, z3⟩ : _ ∧ _ ∧ _ := by simpa only [Prod.mk.injEq] using bootQ w
  have t : topFrom treeTable PP w 11252 (bootS w os) = some s₁ := by
    unfold topFrom
    dsimp only
    rw [z1, z2, z3]
    dsimp only
    rw [r, Option.bind_some, l1]
  unfold openEnds
  rw [e, Option.bind_some, t, Option.map_some, l2, l3]
theorem leftQ {α : Type} (Yf : Shared → α) (Ya : World → α) (h : ∀ w : World, (fun os => Yf (shF w os)) = fun _ => Ya w) :
    LeftO PP viewQ looseQ XtQ Yf Ya 11252 := fun w => by
  obtain ⟨⟨hp, gs, d, k, os⟩, e, e'⟩ := Option.map_eq_some_iff.mp (boot_open (p := PP) (N := 11252) opnQ (by decide) (fun _ => rfl) w)
  obtain ⟨rfl, rfl, rfl, rfl⟩ : hp = boot_heap w.params ∧ gs = Array.mk [] ∧ d = boot_drawn ∧ k = boot_toks := by simpa using e'
  obtain ⟨s₁, r, l1, l2, l3⟩ : ∃ s₁, topRun treeTable PP w 11 (some (.ref 6)) 5706 (bootS w os) (topStub PP) = some s₁ ∧ (staticsOk (importedModules PP.main.body) (boot_heap w.params) s₁.heap && namesBound PP s₁.heap && gensDone s₁ && laidKept (boot_heap w.params) s₁.heap) = true ∧ openSeen viewQ looseQ (importedModules PP.main.body) XtQ true s₁ = openGood viewQ looseQ ∧ Yf s₁ = Ya w :=
    ⟨shF w os, runQ w os, congrFun (lookA w) os, congrFun (lookB w) os, congrFun (h w) os⟩
  exact leftR e r l1 l2 l3
theorem said1 : PySem.Challenge.rw_ok0174_01.row.wellSaid = true := by rw [PySem.W.Fast.te17960256430627541270]; kernel_rfl
theorem saidQ : OpenLaw.wellSaid PySem.Challenge.rw_ok0174_01 = true := by
  unfold OpenLaw.wellSaid
  rw [said1, Bool.true_and, PySem.W.Fast.te8326940854005059898, PySem.W.Fast.te17119622794617984870, PySem.W.Fast.te8179353310426384613, PySem.W.Fast.te9558739934217749035, PySem.W.Fast.te16286561074155671207]
  kernel_rfl
section
local macro_rules | `(tactic| o_law) => `(tactic| refine holds_law saidQ fun said => ?_)
local macro_rules | `(tactic| o_head $H) => `(tactic| (refine holds_open (q := viewQ) (loose := looseQ) (Xt := XtQ) (XP := XL viewQ []) (Yf := Hook.obs $H) (Ya := Hook.val $H) (YP := Hook.says $H) (N := 11252) ?hl (Hook.of $H) (Hook.keeps $H) (fun s e => xl_of s (Bool.and_eq_true_iff.mp e).1) XL.keeps (by rfl) (by rfl) (by rfl) (fun s e => recFacts_of (Bool.and_eq_true_iff.mp e).2) (by rfl) (by first | assumption | decide +kernel) (by decide +kernel) ⟨rfl, rfl, rfl, rfl, rfl, by decide +kernel⟩ ?hw ?hc; (case hl => exact leftQ _ _ fun w => by kernel_rfl)))
open_top hd for PySem.Challenge.rw_ok0174_01
end
theorem topOff : True := by
  w_top off
  trivial
theorem ex1 {α0 : Sort _} {P : α0 → Prop} {C : Prop} (h : ∃ x0, P x0) (f : ∀ x0, P x0 → C) : C := h.elim fun x0 h => f x0 h
theorem ex2 {α0 : Sort _} {α1 : Sort _} {P : α0 → α1 → Prop} {C : Prop} (h : ∃ x0 x1, P x0 x1) (f : ∀ x0 x1, P x0 x1 → C) : C := h.elim fun x0 h => h.elim fun x1 h => f x0 x1 h
theorem ex3 {α0 : Sort _} {α1 : Sort _} {α2 : Sort _} {P : α0 → α1 → α2 → Prop} {C : Prop} (h : ∃ x0 x1 x2, P x0 x1 x2) (f : ∀ x0 x1 x2, P x0 x1 x2 → C) : C := h.elim fun x0 h => h.elim fun x1 h => h.elim fun x2 h => f x0 x1 x2 h
theorem ex4 {α0 : Sort _} {α1 : Sort _} {α2 : Sort _} {α3 : Sort _} {P : α0 → α1 → α2 → α3 → Prop} {C : Prop} (h : ∃ x0 x1 x2 x3, P x0 x1 x2 x3) (f : ∀ x0 x1 x2 x3, P x0 x1 x2 x3 → C) : C := h.elim fun x0 h => h.elim fun x1 h => h.elim fun x2 h => h.elim fun x3 h => f x0 x1 x2 x3 h
theorem ex5 {α0 : Sort _} {α1 : Sort _} {α2 : Sort _} {α3 : Sort _} {α4 : Sort _} {P : α0 → α1 → α2 → α3 → α4 → Prop} {C : Prop} (h : ∃ x0 x1 x2 x3 x4, P x0 x1 x2 x3 x4) (f : ∀ x0 x1 x2 x3 x4, P x0 x1 x2 x3 x4 → C) : C := h.elim fun x0 h => h.elim fun x1 h => h.elim fun x2 h => h.elim fun x3 h => h.elim fun x4 h => f x0 x1 x2 x3 x4 h
theorem ex6 {α0 : Sort _} {α1 : Sort _} {α2 : Sort _} {α3 : Sort _} {α4 : Sort _} {α5 : Sort _} {P : α0 → α1 → α2 → α3 → α4 → α5 → Prop} {C : Prop} (h : ∃ x0 x1 x2 x3 x4 x5, P x0 x1 x2 x3 x4 x5) (f : ∀ x0 x1 x2 x3 x4 x5, P x0 x1 x2 x3 x4 x5 → C) : C := h.elim fun x0 h => h.elim fun x1 h => h.elim fun x2 h => h.elim fun x3 h => h.elim fun x4 h => h.elim fun x5 h => f x0 x1 x2 x3 x4 x5 h
theorem ex9 {α0 : Sort _} {α1 : Sort _} {α2 : Sort _} {α3 : Sort _} {α4 : Sort _} {α5 : Sort _} {α6 : Sort _} {α7 : Sort _} {α8 : Sort _} {P : α0 → α1 → α2 → α3 → α4 → α5 → α6 → α7 → α8 → Prop} {C : Prop} (h : ∃ x0 x1 x2 x3 x4 x5 x6 x7 x8, P x0 x1 x2 x3 x4 x5 x6 x7 x8) (f : ∀ x0 x1 x2 x3 x4 x5 x6 x7 x8, P x0 x1 x2 x3 x4 x5 x6 x7 x8 → C) : C := h.elim fun x0 h => h.elim fun x1 h => h.elim fun x2 h => h.elim fun x3 h => h.elim fun x4 h => h.elim fun x5 h => h.elim fun x6 h => h.elim fun x7 h => h.elim fun x8 h => f x0 x1 x2 x3 x4 x5 x6 x7 x8 h
theorem ex16 {α0 : Sort _} {α1 : Sort _} {α2 : Sort _} {α3 : Sort _} {α4 : Sort _} {α5 : Sort _} {α6 : Sort _} {α7 : Sort _} {α8 : Sort _} {α9 : Sort _} {α10 : Sort _} {α11 : Sort _} {α12 : Sort _} {α13 : Sort _} {α14 : Sort _} {α15 : Sort _} {P : α0 → α1 → α2 → α3 → α4 → α5 → α6 → α7 → α8 → α9 → α10 → α11 → α12 → α13 → α14 → α15 → Prop} {C : Prop} (h : ∃ x0 x1 x2 x3 x4 x5 x6 x7 x8 x9 x10 x11 x12 x13 x14 x15, P x0 x1 x2 x3 x4 x5 x6 x7 x8 x9 x10 x11 x12 x13 x14 x15) (f : ∀ x0 x1 x2 x3 x4 x5 x6 x7 x8 x9 x10 x11 x12 x13 x14 x15, P x0 x1 x2 x3 x4 x5 x6 x7 x8 x9 x10 x11 x12 x13 x14 x15 → C) : C := h.elim fun x0 h => h.elim fun x1 h => h.elim fun x2 h => h.elim fun x3 h => h.elim fun x4 h => h.elim fun x5 h => h.elim fun x6 h => h.elim fun x7 h => h.elim fun x8 h => h.elim fun x9 h => h.elim fun x10 h => h.elim fun x11 h => h.elim fun x12 h => h.elim fun x13 h => h.elim fun x14 h => h.elim fun x15 h => f x0 x1 x2 x3 x4 x5 x6 x7 x8 x9 x10 x11 x12 x13 x14 x15 h
theorem ei2 {α0 : Sort _} {α1 : Sort _} {P : α0 → α1 → Prop} {x0 : α0} {x1 : α1} (h : P x0 x1) : ∃ x0 x1, P x0 x1 := ⟨x0, x1, h⟩
theorem ei3 {α0 : Sort _} {α1 : Sort _} {α2 : Sort _} {P : α0 → α1 → α2 → Prop} {x0 : α0} {x1 : α1} {x2 : α2} (h : P x0 x1 x2) : ∃ x0 x1 x2, P x0 x1 x2 := ⟨x0, x1, x2, h⟩
theorem ei4 {α0 : Sort _} {α1 : Sort _} {α2 : Sort _} {α3 : Sort _} {P : α0 → α1 → α2 → α3 → Prop} {x0 : α0} {x1 : α1} {x2 : α2} {x3 : α3} (h : P x0 x1 x2 x3) : ∃ x0 x1 x2 x3, P x0 x1 x2 x3 := ⟨x0, x1, x2, x3, h⟩
theorem ei5 {α0 : Sort _} {α1 : Sort _} {α2 : Sort _} {α3 : Sort _} {α4 : Sort _} {P : α0 → α1 → α2 → α3 → α4 → Prop} {x0 : α0} {x1 : α1} {x2 : α2} {x3 : α3} {x4 : α4} (h : P x0 x1 x2 x3 x4) : ∃ x0 x1 x2 x3 x4, P x0 x1 x2 x3 x4 := ⟨x0, x1, x2, x3, x4, h⟩
theorem ei6 {α0 : Sort _} {α1 : Sort _} {α2 : Sort _} {α3 : Sort _} {α4 : Sort _} {α5 : Sort _} {P : α0 → α1 → α2 → α3 → α4 → α5 → Prop} {x0 : α0} {x1 : α1} {x2 : α2} {x3 : α3} {x4 : α4} {x5 : α5} (h : P x0 x1 x2 x3 x4 x5) : ∃ x0 x1 x2 x3 x4 x5, P x0 x1 x2 x3 x4 x5 := ⟨x0, x1, x2, x3, x4, x5, h⟩
theorem ei7 {α0 : Sort _} {α1 : Sort _} {α2 : Sort _} {α3 : Sort _} {α4 : Sort _} {α5 : Sort _} {α6 : Sort _} {P : α0 → α1 → α2 → α3 → α4 → α5 → α6 → Prop} {x0 : α0} {x1 : α1} {x2 : α2} {x3 : α3} {x4 : α4} {x5 : α5} {x6 : α6} (h : P x0 x1 x2 x3 x4 x5 x6) : ∃ x0 x1 x2 x3 x4 x5 x6, P x0 x1 x2 x3 x4 x5 x6 := ⟨x0, x1, x2, x3, x4, x5, x6, h⟩
theorem ei8 {α0 : Sort _} {α1 : Sort _} {α2 : Sort _} {α3 : Sort _} {α4 : Sort _} {α5 : Sort _} {α6 : Sort _} {α7 : Sort _} {P : α0 → α1 → α2 → α3 → α4 → α5 → α6 → α7 → Prop} {x0 : α0} {x1 : α1} {x2 : α2} {x3 : α3} {x4 : α4} {x5 : α5} {x6 : α6} {x7 : α7} (h : P x0 x1 x2 x3 x4 x5 x6 x7) : ∃ x0 x1 x2 x3 x4 x5 x6 x7, P x0 x1 x2 x3 x4 x5 x6 x7 := ⟨x0, x1, x2, x3, x4, x5, x6, x7, h⟩
theorem ei9 {α0 : Sort _} {α1 : Sort _} {α2 : Sort _} {α3 : Sort _} {α4 : Sort _} {α5 : Sort _} {α6 : Sort _} {α7 : Sort _} {α8 : Sort _} {P : α0 → α1 → α2 → α3 → α4 → α5 → α6 → α7 → α8 → Prop} {x0 : α0} {x1 : α1} {x2 : α2} {x3 : α3} {x4 : α4} {x5 : α5} {x6 : α6} {x7 : α7} {x8 : α8} (h : P x0 x1 x2 x3 x4 x5 x6 x7 x8) : ∃ x0 x1 x2 x3 x4 x5 x6 x7 x8, P x0 x1 x2 x3 x4 x5 x6 x7 x8 := ⟨x0, x1, x2, x3, x4, x5, x6, x7, x8, h⟩
theorem ei10 {α0 : Sort _} {α1 : Sort _} {α2 : Sort _} {α3 : Sort _} {α4 : Sort _} {α5 : Sort _} {α6 : Sort _} {α7 : Sort _} {α8 : Sort _} {α9 : Sort _} {P : α0 → α1 → α2 → α3 → α4 → α5 → α6 → α7 → α8 → α9 → Prop} {x0 : α0} {x1 : α1} {x2 : α2} {x3 : α3} {x4 : α4} {x5 : α5} {x6 : α6} {x7 : α7} {x8 : α8} {x9 : α9} (h : P x0 x1 x2 x3 x4 x5 x6 x7 x8 x9) : ∃ x0 x1 x2 x3 x4 x5 x6 x7 x8 x9, P x0 x1 x2 x3 x4 x5 x6 x7 x8 x9 := ⟨x0, x1, x2, x3, x4, x5, x6, x7, x8, x9, h⟩
theorem ei11 {α0 : Sort _} {α1 : Sort _} {α2 : Sort _} {α3 : Sort _} {α4 : Sort _} {α5 : Sort _} {α6 : Sort _} {α7 : Sort _} {α8 : Sort _} {α9 : Sort _} {α10 : Sort _} {P : α0 → α1 → α2 → α3 → α4 → α5 → α6 → α7 → α8 → α9 → α10 → Prop} {x0 : α0} {x1 : α1} {x2 : α2} {x3 : α3} {x4 : α4} {x5 : α5} {x6 : α6} {x7 : α7} {x8 : α8} {x9 : α9} {x10 : α10} (h : P x0 x1 x2 x3 x4 x5 x6 x7 x8 x9 x10) : ∃ x0 x1 x2 x3 x4 x5 x6 x7 x8 x9 x10, P x0 x1 x2 x3 x4 x5 x6 x7 x8 x9 x10 := ⟨x0, x1, x2, x3, x4, x5, x6, x7, x8, x9, x10, h⟩
theorem oqD {G b c d e : Prop} {x y : Nat} (_ : x < y ∧ b ∧ c ∧ d ∧ e) (k : G) : G := k
def Wit {p : Prop} (_ : p) : Prop := True
theorem wit2 {p : Prop} {e : p} (e0 : p) (h : Wit e0 → Wit e) : Wit e := h trivial
set_option linter.defProp false in
def oq1 {p q : Prop} (h : p ∧ q) : p := by simp only [h]
set_option linter.defProp false in
def oq2 {p q : Prop} (h : p ∧ q) : q := by simp only [h]
theorem obm1 {α : Type _} {b x0 : α} (h : b ∈ [x0]) : b = x0 := List.mem_singleton.mp h
theorem obo1 {α : Type _} {b x0 : α} (h : b = x0) : b ∈ [x0] := List.mem_singleton.mpr h
theorem obn1 {α : Type _} {b x0 : α} (h : ¬b = x0) : b ∉ [x0] := fun z => h (obm1 z)
theorem obf1 {α : Type _} {p : α → Prop} {x0 : α} (h0 : p x0) : ∀ b, b ∈ [x0] → p b := fun _ z => obm1 z ▸ h0
theorem obm2 {α : Type _} {b x0 x1 : α} (h : b ∈ [x0, x1]) : b = x0 ∨ b = x1 := (List.mem_cons.mp h).imp id obm1
theorem obo2 {α : Type _} {b x0 x1 : α} (h : b = x0 ∨ b = x1) : b ∈ [x0, x1] := List.mem_cons.mpr (h.imp id obo1)
theorem obn2 {α : Type _} {b x0 x1 : α} (h : ¬b = x0 ∧ ¬b = x1) : b ∉ [x0, x1] := fun z => (List.mem_cons.mp z).elim h.1 (obn1 h.2)
theorem obf2 {α : Type _} {p : α → Prop} {x0 x1 : α} (h0 : p x0) (h1 : p x1) : ∀ b, b ∈ [x0, x1] → p b := fun b z => (List.mem_cons.mp z).elim (fun e => e ▸ h0) (obf1 h1 b)
theorem obm3 {α : Type _} {b x0 x1 x2 : α} (h : b ∈ [x0, x1, x2]) : b = x0 ∨ b = x1 ∨ b = x2 := (List.mem_cons.mp h).imp id obm2
theorem obo3 {α : Type _} {b x0 x1 x2 : α} (h : b = x0 ∨ b = x1 ∨ b = x2) : b ∈ [x0, x1, x2] := List.mem_cons.mpr (h.imp id obo2)
theorem obn3 {α : Type _} {b x0 x1 x2 : α} (h : ¬b = x0 ∧ ¬b = x1 ∧ ¬b = x2) : b ∉ [x0, x1, x2] := fun z => (List.mem_cons.mp z).elim h.1 (obn2 h.2)
theorem obf3 {α : Type _} {p : α → Prop} {x0 x1 x2 : α} (h0 : p x0) (h1 : p x1) (h2 : p x2) : ∀ b, b ∈ [x0, x1, x2] → p b := fun b z => (List.mem_cons.mp z).elim (fun e => e ▸ h0) (obf2 h1 h2 b)
theorem obm4 {α : Type _} {b x0 x1 x2 x3 : α} (h : b ∈ [x0, x1, x2, x3]) : b = x0 ∨ b = x1 ∨ b = x2 ∨ b = x3 := (List.mem_cons.mp h).imp id obm3
theorem obo4 {α : Type _} {b x0 x1 x2 x3 : α} (h : b = x0 ∨ b = x1 ∨ b = x2 ∨ b = x3) : b ∈ [x0, x1, x2, x3] := List.mem_cons.mpr (h.imp id obo3)
theorem obn4 {α : Type _} {b x0 x1 x2 x3 : α} (h : ¬b = x0 ∧ ¬b = x1 ∧ ¬b = x2 ∧ ¬b = x3) : b ∉ [x0, x1, x2, x3] := fun z => (List.mem_cons.mp z).elim h.1 (obn3 h.2)
theorem obf4 {α : Type _} {p : α → Prop} {x0 x1 x2 x3 : α} (h0 : p x0) (h1 : p x1) (h2 : p x2) (h3 : p x3) : ∀ b, b ∈ [x0, x1, x2, x3] → p b := fun b z => (List.mem_cons.mp z).elim (fun e => e ▸ h0) (obf3 h1 h2 h3 b)
theorem obm5 {α : Type _} {b x0 x1 x2 x3 x4 : α} (h : b ∈ [x0, x1, x2, x3, x4]) : b = x0 ∨ b = x1 ∨ b = x2 ∨ b = x3 ∨ b = x4 := (List.mem_cons.mp h).imp id obm4
theorem obo5 {α : Type _} {b x0 x1 x2 x3 x4 : α} (h : b = x0 ∨ b = x1 ∨ b = x2 ∨ b = x3 ∨ b = x4) : b ∈ [x0, x1, x2, x3, x4] := List.mem_cons.mpr (h.imp id obo4)
theorem obn5 {α : Type _} {b x0 x1 x2 x3 x4 : α} (h : ¬b = x0 ∧ ¬b = x1 ∧ ¬b = x2 ∧ ¬b = x3 ∧ ¬b = x4) : b ∉ [x0, x1, x2, x3, x4] := fun z => (List.mem_cons.mp z).elim h.1 (obn4 h.2)
theorem obf5 {α : Type _} {p : α → Prop} {x0 x1 x2 x3 x4 : α} (h0 : p x0) (h1 : p x1) (h2 : p x2) (h3 : p x3) (h4 : p x4) : ∀ b, b ∈ [x0, x1, x2, x3, x4] → p b := fun b z => (List.mem_cons.mp z).elim (fun e => e ▸ h0) (obf4 h1 h2 h3 h4 b)
theorem obm6 {α : Type _} {b x0 x1 x2 x3 x4 x5 : α} (h : b ∈ [x0, x1, x2, x3, x4, x5]) : b = x0 ∨ b = x1 ∨ b = x2 ∨ b = x3 ∨ b = x4 ∨ b = x5 := (List.mem_cons.mp h).imp id obm5
theorem obo6 {α : Type _} {b x0 x1 x2 x3 x4 x5 : α} (h : b = x0 ∨ b = x1 ∨ b = x2 ∨ b = x3 ∨ b = x4 ∨ b = x5) : b ∈ [x0, x1, x2, x3, x4, x5] := List.mem_cons.mpr (h.imp id obo5)
theorem obn6 {α : Type _} {b x0 x1 x2 x3 x4 x5 : α} (h : ¬b = x0 ∧ ¬b = x1 ∧ ¬b = x2 ∧ ¬b = x3 ∧ ¬b = x4 ∧ ¬b = x5) : b ∉ [x0, x1, x2, x3, x4, x5] := fun z => (List.mem_cons.mp z).elim h.1 (obn5 h.2)
theorem obf6 {α : Type _} {p : α → Prop} {x0 x1 x2 x3 x4 x5 : α} (h0 : p x0) (h1 : p x1) (h2 : p x2) (h3 : p x3) (h4 : p x4) (h5 : p x5) : ∀ b, b ∈ [x0, x1, x2, x3, x4, x5] → p b := fun b z => (List.mem_cons.mp z).elim (fun e => e ▸ h0) (obf5 h1 h2 h3 h4 h5 b)
theorem obm7 {α : Type _} {b x0 x1 x2 x3 x4 x5 x6 : α} (h : b ∈ [x0, x1, x2, x3, x4, x5, x6]) : b = x0 ∨ b = x1 ∨ b = x2 ∨ b = x3 ∨ b = x4 ∨ b = x5 ∨ b = x6 := (List.mem_cons.mp h).imp id obm6
theorem obo7 {α : Type _} {b x0 x1 x2 x3 x4 x5 x6 : α} (h : b = x0 ∨ b = x1 ∨ b = x2 ∨ b = x3 ∨ b = x4 ∨ b = x5 ∨ b = x6) : b ∈ [x0, x1, x2, x3, x4, x5, x6] := List.mem_cons.mpr (h.imp id obo6)
theorem obn7 {α : Type _} {b x0 x1 x2 x3 x4 x5 x6 : α} (h : ¬b = x0 ∧ ¬b = x1 ∧ ¬b = x2 ∧ ¬b = x3 ∧ ¬b = x4 ∧ ¬b = x5 ∧ ¬b = x6) : b ∉ [x0, x1, x2, x3, x4, x5, x6] := fun z => (List.mem_cons.mp z).elim h.1 (obn6 h.2)
theorem obm8 {α : Type _} {b x0 x1 x2 x3 x4 x5 x6 x7 : α} (h : b ∈ [x0, x1, x2, x3, x4, x5, x6, x7]) : b = x0 ∨ b = x1 ∨ b = x2 ∨ b = x3 ∨ b = x4 ∨ b = x5 ∨ b = x6 ∨ b = x7 := (List.mem_cons.mp h).imp id obm7
theorem obo8 {α : Type _} {b x0 x1 x2 x3 x4 x5 x6 x7 : α} (h : b = x0 ∨ b = x1 ∨ b = x2 ∨ b = x3 ∨ b = x4 ∨ b = x5 ∨ b = x6 ∨ b = x7) : b ∈ [x0, x1, x2, x3, x4, x5, x6, x7] := List.mem_cons.mpr (h.imp id obo7)
theorem oqs2 {α : Type _} {b x0 x1 : α} (h : b = x0 ∨ b = x1) : x0 = b ∨ x1 = b := h.imp Eq.symm Eq.symm
theorem oqs3 {α : Type _} {b x0 x1 x2 : α} (h : b = x0 ∨ b = x1 ∨ b = x2) : x0 = b ∨ x1 = b ∨ x2 = b := h.imp Eq.symm oqs2
theorem oqs4 {α : Type _} {b x0 x1 x2 x3 : α} (h : b = x0 ∨ b = x1 ∨ b = x2 ∨ b = x3) : x0 = b ∨ x1 = b ∨ x2 = b ∨ x3 = b := h.imp Eq.symm oqs3
theorem oqs5 {α : Type _} {b x0 x1 x2 x3 x4 : α} (h : b = x0 ∨ b = x1 ∨ b = x2 ∨ b = x3 ∨ b = x4) : x0 = b ∨ x1 = b ∨ x2 = b ∨ x3 = b ∨ x4 = b := h.imp Eq.symm oqs4
theorem oqs6 {α : Type _} {b x0 x1 x2 x3 x4 x5 : α} (h : b = x0 ∨ b = x1 ∨ b = x2 ∨ b = x3 ∨ b = x4 ∨ b = x5) : x0 = b ∨ x1 = b ∨ x2 = b ∨ x3 = b ∨ x4 = b ∨ x5 = b := h.imp Eq.symm oqs5
theorem obmc {α : Type _} {b a : α} {l : List α} (h : b ∈ a :: l) : a = b ∨ b ∈ l := (List.mem_cons.mp h).imp Eq.symm id
theorem obw {α : Type _} {z z' : Option α} {x y : α} (h : z = some x) (e : z = some y) (p : z' = some x) : z' = some y := p.trans (h.symm.trans e)
theorem rupd {R : List Str} {m : Str → Option Value} {k : Str} {v : Option Value} (h : ∀ x ∈ R, m x = none) (d : R.contains k = false) : ∀ x ∈ R, (if x = k then v else m x) = none := by
  intro x hx
  by_cases e : x = k
  · subst e; simp [hx] at d
  · rw [if_neg e]; exact h x hx
theorem obt4 {α : Type _} {p : α → Prop} {x0 x1 x2 x3 : α} {tl : List α} (h0 : p x0) (h1 : p x1) (h2 : p x2) (h3 : p x3) (ht : ∀ b, b ∈ tl → p b) : ∀ b, b ∈ x0 :: x1 :: x2 :: x3 :: tl → p b := fun b z => (List.mem_cons.mp z).elim (fun e => e ▸ h0) fun z => (List.mem_cons.mp z).elim (fun e => e ▸ h1) fun z => (List.mem_cons.mp z).elim (fun e => e ▸ h2) fun z => (List.mem_cons.mp z).elim (fun e => e ▸ h3) (ht b)
theorem ob36 {α : Type _} {b L2 L a P x y : α} (h : b ∈ [L, a, P]) : b ∈ [L2, a, P, x, y, L] := obf3 (p := fun b => b ∈ [L2, a, P, x, y, L]) (by simp) (by simp) (by simp) b h
theorem obg {h : Heap} {b : Addr} {o : Obj} {C : Prop} (e : h.get? b = none) (x : h.get? b = some o) : C := by rw [x] at e; cases e

inductive ArgsS (m : Str → Option Value) (V : Env) : List PySem.Expr → Tok → List Value → Tok → Prop
  | nil {t : Tok} : ArgsS m V [] t [] t
  | name {x : Str} {p : Pos} {r : List PySem.Expr} {t t' : Tok} {v : Value} {vs : List Value} (hv : m x = some v) (hx : V.kindOf x = some .local) (hd : (x == ("__debug__" : Str)) = false) (h : ArgsS m V r t vs t') : ArgsS m V (.Name x p :: r) t (v :: vs) t'
  | int {i : Int} {k : Nat} {p : Pos} {r : List PySem.Expr} {t t' : Tok} {vs : List Value} (h : ArgsS m V r (t + 1) vs t') : ArgsS m V (.Constant (.int i) k p :: r) t (.int i t :: vs) t'
  | str {x : Str} {k : Nat} {p : Pos} {r : List PySem.Expr} {t t' : Tok} {vs : List Value} (h : ArgsS m V r (t + 1) vs t') : ArgsS m V (.Constant (.str x) k p :: r) t (.str x t :: vs) t'
  | none {k : Nat} {p : Pos} {r : List PySem.Expr} {t t' : Tok} {vs : List Value} (h : ArgsS m V r t vs t') : ArgsS m V (.Constant .none k p :: r) t (.none :: vs) t'
theorem args_batch {prog : Program} {w : World} {A : Around} {h₀ : Heap} {L : Addr} {m : Str → Option Value} {cn : Str} {cs : Scope} {a : Addr} {ccd : Value} {cl : List (Str × Addr)} {es : List PySem.Expr} {vs : List Value} {t t' : Tok} (H : ArgsS m (envX cn cs L a ccd cl) es t vs t') (hk : cs.kind = .function) :
    ∀ {s : Shared} {pos : Pos} {Q : List Value → Shared → Prop} {E : Value → Shared → Prop}, s.toks = t → Fr h₀ L s.heap m → Q vs { s with toks := t' } → wpAny (model prog w) A (spliced (backTo pos (starEach es (envX cn cs L a ccd cl)))) Q E s := by
  induction H with
  | nil => intro s pos Q E e F h; subst e; exact args_nil h
  | name hv hx hd _ ih => intro s pos Q E e F h; exact args_cons (nameX_L F hv (ih e F h) hk hx hd)
  | int _ ih => intro s pos Q E e F h; subst e; exact args_cons (wpAny_Constant_int (ih rfl F h))
  | str _ ih => intro s pos Q E e F h; subst e; exact args_cons (wpAny_Constant_str (ih rfl F h))
  | none _ ih => intro s pos Q E e F h; exact args_cons (wpAny_Constant_none (ih e F h))
theorem args_t {prog : Program} {w : World} {A : Around} {s : Shared} {h₀ : Heap} {L : Addr} {m : Str → Option Value} {cn : Str} {cs : Scope} {a : Addr} {ccd : Value} {cl : List (Str × Addr)} {es : List PySem.Expr} {vs : List Value} {t' : Tok} {pos : Pos} {Q : List Value → Shared → Prop} {E : Value → Shared → Prop}
    (F : Fr h₀ L s.heap m) (H : ArgsS m (envX cn cs L a ccd cl) es s.toks vs t') (hk : cs.kind = .function) (h : Q vs { s with toks := t' }) : wpAny (model prog w) A (spliced (backTo pos (starEach es (envX cn cs L a ccd cl)))) Q E s := args_batch H hk rfl F h
theorem args_n {prog : Program} {w : World} {A : Around} {s : Shared} {h₀ : Heap} {L : Addr} {m : Str → Option Value} {cn : Str} {cs : Scope} {a : Addr} {ccd : Value} {cl : List (Str × Addr)} {es : List PySem.Expr} {vs : List Value} {pos : Pos} {Q : List Value → Shared → Prop} {E : Value → Shared → Prop}
    (F : Fr h₀ L s.heap m) (H : ArgsS m (envX cn cs L a ccd cl) es s.toks vs s.toks) (hk : cs.kind = .function) (h : Q vs s) : wpAny (model prog w) A (spliced (backTo pos (starEach es (envX cn cs L a ccd cl)))) Q E s := args_batch H hk rfl F h

section
variable {prog : Program} {w : World} {A : Around} {s : Shared} {h₀ : Heap} {L : Addr} {m : Str → Option Value} {cn : Str} {cs : Scope} {a : Addr} {ccd : Value} {cl : List (Str × Addr)} {E : Value → Shared → Prop} {K : Frag} {mg mb : Str → Option Value} {p : Program} {loose : List Str}
theorem attr_n {x attr : Str} {xp pos : Pos} {v : Value} {Q : Value → Shared → Prop} (F : Fr h₀ L s.heap m) (hv : m x = some v) (h : wpAny (model prog w) A (getAttr v attr true) Q E s)
    (hk : cs.kind = .function := by rfl) (hx : (envX cn cs L a ccd cl).kindOf x = some .local := by rfl) (hd : (x == ("__debug__" : Str)) = false := by decide) :
    wpAny (model prog w) A (eval (.Attribute (.Name x xp) attr pos) (envX cn cs L a ccd cl)) Q E s := Attribute_Name_ (nameX_L F hv h hk hx hd)
theorem sub_nc {x : Str} {i : Int} {k : Nat} {xp ip pos : Pos} {v : Value} {Q : Value → Shared → Prop} (F : Fr h₀ L s.heap m) (hv : m x = some v) (h : wpAny (model prog w) A (subscriptTail (.Name x xp) (.Constant (.int i) k ip) v (.int i s.toks)) Q E { s with toks := s.toks + 1 })
    (hk : cs.kind = .function := by rfl) (hx : (envX cn cs L a ccd cl).kindOf x = some .local := by rfl) (hd : (x == ("__debug__" : Str)) = false := by decide) :
    wpAny (model prog w) A (eval (.Subscript (.Name x xp) (.Constant (.int i) k ip) pos) (envX cn cs L a ccd cl)) Q E s := Subscript_ (nameX_L F hv (wpAny_Constant_int h) hk hx hd)
theorem asg_nn {o x attr : Str} {op xp ap pos : Pos} {v ov : Value} {Q : Flow → Shared → Prop} (F : Fr h₀ L s.heap m) (hv : m x = some v) (ho : m o = some ov) (h : wpAny (model prog w) A (setAttr ov attr v) (fun _ => Q .next) E s)
    (hs : swapsWith (.Name x xp) (some (.Attribute (.Name o op) attr ap)) pos.line (envX cn cs L a ccd cl) = pure false)
    (hk : cs.kind = .function := by rfl) (hx : (envX cn cs L a ccd cl).kindOf x = some .local := by rfl) (hd : (x == ("__debug__" : Str)) = false := by decide) (hx2 : (envX cn cs L a ccd cl).kindOf o = some .local := by rfl) (hd2 : (o == ("__debug__" : Str)) = false := by decide) :
    wpAny (model prog w) A (exec (.Assign [.Attribute (.Name o op) attr ap] (.Name x xp) pos) (envX cn cs L a ccd cl)) Q E s := plainObj_wpAny_Assign_Attribute (nameX_L F hv (nameX_L F ho h hk hx2 hd2) hk hx hd) hs
theorem tuple_a {es : List PySem.Expr} {k : Nat} {pos : Pos} {vs : List Value} {t' : Tok} {Q : Value → Shared → Prop} (F : Fr h₀ L s.heap m) (H : ArgsS m (envX cn cs L a ccd cl) es s.toks vs t') (h : wpAny (model prog w) A (newTuple vs) Q E { s with toks := t' }) (hk : cs.kind = .function := by rfl) :
    wpAny (model prog w) A (eval (.Tuple es k pos) (envX cn cs L a ccd cl)) Q E s := Tuple_ (args_t F H hk h)
theorem call_g {x : Str} {xp pos : Pos} {e : PySem.Expr} {es : List PySem.Expr} {fv : Value} {vs : List Value} {t' : Tok} {Q : Value → Shared → Prop} (F : Fr h₀ L s.heap m) (X : K.In h₀) (T : TopRead p loose mg mb h₀) (en : nsIn K mainGlobals x = some (some fv)) (hf : keepIn K fv = true)
    (H : ArgsS m (envX cn cs L a ccd cl) (e :: es) s.toks vs t') (h : wpAny (model prog w) A (call fv vs) Q E { s with toks := t' })
    (he : starEach (e :: es) (envX cn cs L a ccd cl) = (false, eval e (envX cn cs L a ccd cl)) :: starEach es (envX cn cs L a ccd cl)) (hplain : (backTo pos (starEach es (envX cn cs L a ccd cl))).any (·.1) = false)
    (hk : cs.kind = .function := by rfl) (hx : (envX cn cs L a ccd cl).kindOf x = some .globalImplicit := by rfl) (hd : (x == ("__debug__" : Str)) = false := by decide) :
    wpAny (model prog w) A (eval (.Call (.Name x xp) (e :: es) [] pos) (envX cn cs L a ccd cl)) Q E s :=
  Call_ (nameX_K F X T en (callWith_K X hf (args_t F H hk ⟨X.keeps F.keep, h⟩) he hplain) hk hx hd)
theorem call_g0 {x : Str} {xp pos : Pos} {fv : Value} {Q : Value → Shared → Prop} (F : Fr h₀ L s.heap m) (X : K.In h₀) (T : TopRead p loose mg mb h₀) (en : nsIn K mainGlobals x = some (some fv)) (hf : keepIn K fv = true)
    (h : wpAny (model prog w) A (call fv []) Q E s)
    (hk : cs.kind = .function := by rfl) (hx : (envX cn cs L a ccd cl).kindOf x = some .globalImplicit := by rfl) (hd : (x == ("__debug__" : Str)) = false := by decide) :
    wpAny (model prog w) A (eval (.Call (.Name x xp) [] [] pos) (envX cn cs L a ccd cl)) Q E s :=
  Call_ (nameX_K F X T en (callWith_K0 (X.keeps F.keep) hf h) hk hx hd)
end

section
variable {M : Model} {A : Around} {s : Shared} {V : Env} {E : Value → Shared → Prop}
theorem if_ci {l : PySem.Expr} {op : CmpOp} {i : Int} {k : Nat} {ip cp pos : Pos} {body orelse : List Stmt} {Q : Flow → Shared → Prop}
    (h : wpAny M A (eval l V) (fun a s₁ => wpAny M A (compareOp op a (.int i s₁.toks)) (fun c s₃ => wpAny M A (truthy c) (fun b s₂ => if b then wpAny M A (execs body V) Q E s₂ else wpAny M A (execs orelse V) Q E s₂) E s₃) E { s₁ with toks := s₁.toks + 1 }) E s)
    (hm : behindInMarks op (.Constant (.int i) k ip) = false) : wpAny M A (exec (.If (.Compare l [op] [.Constant (.int i) k ip] cp) body orelse pos) V) Q E s :=
  wpAny_If (wpAny_isTrue_Compare1 (wpAny_mono h (fun _ _ z => wpAny_Constant_int z) fun _ _ z => z) hm)
theorem if_cs {l : PySem.Expr} {op : CmpOp} {x : Str} {k : Nat} {ip cp pos : Pos} {body orelse : List Stmt} {Q : Flow → Shared → Prop}
    (h : wpAny M A (eval l V) (fun a s₁ => wpAny M A (compareOp op a (.str x s₁.toks)) (fun c s₃ => wpAny M A (truthy c) (fun b s₂ => if b then wpAny M A (execs body V) Q E s₂ else wpAny M A (execs orelse V) Q E s₂) E s₃) E { s₁ with toks := s₁.toks + 1 }) E s)
    (hm : behindInMarks op (.Constant (.str x) k ip) = false) : wpAny M A (exec (.If (.Compare l [op] [.Constant (.str x) k ip] cp) body orelse pos) V) Q E s :=
  wpAny_If (wpAny_isTrue_Compare1 (wpAny_mono h (fun _ _ z => wpAny_Constant_str z) fun _ _ z => z) hm)
end
def qxN (k : Lean.Name) (as : Array Lean.Syntax) : Lean.Syntax := .node .none k as
def qxA (s : String) : Lean.Syntax := .atom .none s
def qxI (n : Lean.Name) : Lean.Syntax := (Lean.mkIdent n).raw
def qxL (as : List Lean.Syntax) : Lean.Syntax := qxN `null as.toArray
def qxJ (s : String) : List Lean.Syntax → List Lean.Syntax
  | [] => []
  | [x] => [x]
  | x :: r => x :: qxA s :: qxJ s r
def qxT (k s : String) (as : List Lean.Syntax) : Lean.Syntax := qxN (`Lean.Parser.Tactic ++ Lean.Name.mkSimple k) (qxA s :: as).toArray
def qxSeq (ts : List Lean.Syntax) : Lean.Syntax := qxN `Lean.Parser.Tactic.tacticSeq #[qxN `Lean.Parser.Tactic.tacticSeq1Indented #[qxL (qxJ ";" ts)]]
def qxFirst (as : List (List Lean.Syntax)) : Lean.Syntax := qxT "first" "first" [qxL (as.map fun a => qxN `group #[qxA "|", qxSeq a])]
def qxHole : Lean.Syntax := qxN `Lean.Parser.Term.syntheticHole #[qxA "?", qxA "_"]
def qxApp (f : Lean.Syntax) (as : List Lean.Syntax) : Lean.Syntax := qxN `Lean.Parser.Term.app #[f, qxL as]
def qxNil (t : Lean.Syntax) : Lean.Syntax := qxN `Lean.Parser.Term.noImplicitLambda #[qxA "no_implicit_lambda%", t]
def qxAs (e : Lean.Syntax) : Lean.Syntax := qxN `Lean.Parser.Term.typeAscription #[qxN `Lean.Parser.Term.hygienicLParen #[qxA "(", qxN `hygieneInfo #[qxI .anonymous]], e, qxA ":", qxL [], qxA ")"]
def qxFun (as : List Lean.Syntax) : Lean.Syntax := qxN `Lean.Parser.Term.fun #[qxA "fun", qxN `Lean.Parser.Term.basicFun #[qxL as, qxL [], qxA "=>", qxHole]]
def qxTryClear (h : Lean.Syntax) : Lean.Syntax := qxT "tacticTry_" "try" [qxSeq [qxT "clear" "clear" [qxL [h]]]]
def qxDflt (ts : List Lean.Syntax) : Lean.Syntax := qxN `PySem.W.tacticK_dflt_ #[qxA "k_dflt", qxT "paren" "(" [qxSeq ts, qxA ")"]]
def qxLo (m : List Lean.Syntax) : Lean.Syntax := qxN `Lean.Parser.Tactic.rcasesPatLo #[qxN `Lean.Parser.Tactic.rcasesPatMed #[qxL (qxJ "|" m)], qxL []]
def qxOne (x : Lean.Syntax) : Lean.Syntax := qxN `Lean.Parser.Tactic.rcasesPat.one #[x]
def qxTup (xs : List Lean.Syntax) : Lean.Syntax := qxN `Lean.Parser.Tactic.rcasesPat.tuple #[qxA "⟨", qxL (qxJ "," (xs.map fun x => qxLo [qxOne x])), qxA "⟩"]
def qxLoOf (x : Lean.Syntax) : Lean.Syntax := qxLo [x]
def qxRcases (h : Lean.Syntax) (m : List Lean.Syntax) : Lean.Syntax := qxT "rcases" "rcases" [qxL [qxN `Lean.Parser.Tactic.elimTarget #[qxL [], h]], qxL [qxA "with", qxLo m]]
def qxObtain (t h : Lean.Syntax) : Lean.Syntax := qxT "obtain" "obtain" [qxL [qxN `Lean.Parser.Tactic.rcasesPatMed #[qxL [t]]], qxL [], qxL [qxA ":=", qxL [h]]]
def qxHave (h v : Lean.Syntax) (ty : List Lean.Syntax) : Lean.Syntax := qxT "tacticHave__" "have" [qxN `Lean.Parser.Term.letConfig #[qxL []], qxN `Lean.Parser.Term.letDecl #[qxN `Lean.Parser.Term.letIdDecl #[qxN `Lean.Parser.Term.letId #[h], qxL [], qxL (ty.map fun t => qxN `Lean.Parser.Term.typeSpec #[qxA ":", t]), qxA ":=", v]]]
def qxHy (v : Lean.MacroScopesView) (i : Nat) : Lean.Syntax := qxI { v with name := Lean.Name.mkSimple ("zb" ++ toString i) }.review
def obKind (s : Lean.Syntax) (k : String) : Bool := s.getKind == `Lean.Parser.Tactic ++ Lean.Name.mkSimple k || s.getKind == `Lean.Parser.Tactic.rcasesPat ++ Lean.Name.mkSimple k
def obStrip : Nat → Lean.Syntax → Option Lean.Syntax
  | 0, _ => none
  | f + 1, s =>
    if obKind s "rcasesPatLo" then (if s[1].getNumArgs == 0 then obStrip f s[0] else none)
    else if obKind s "rcasesPatMed" then (if s[0].getNumArgs == 1 then obStrip f s[0][0] else none)
    else if obKind s "paren" then obStrip f s[1]
    else if ["tuple", "one", "ignore", "clear"].any (obKind s) then some s
    else none
def obSimple (s : Lean.Syntax) : Bool := (obKind s "one" && s[0].getId != `rfl) || obKind s "ignore"
def obName (v : Lean.MacroScopesView) (i : Nat) (s : Lean.Syntax) : Lean.Syntax := if obSimple s && obKind s "one" then s[0] else qxHy v i
def obProj : Nat → Lean.Syntax → List Lean.Syntax
  | 0, _ => []
  | 1, h => [h]
  | n + 2, h => qxApp (qxI `oq1) [h] :: obProj (n + 1) (qxApp (qxI `oq2) [h])
def obPs (n : Nat) (h : Lean.Syntax) : List Lean.Syntax := obProj n h
def qxAsc (e t : Lean.Syntax) : Lean.Syntax := qxN `Lean.Parser.Term.typeAscription #[qxN `Lean.Parser.Term.hygienicLParen #[qxA "(", qxN `hygieneInfo #[qxI .anonymous]], e, qxA ":", qxL [t], qxA ")"]
def qxArr : Nat → Lean.Syntax
  | 0 => qxN `Lean.Parser.Term.hole #[qxA "_"]
  | n + 1 => qxN `Lean.Parser.Term.arrow #[qxN `Lean.Parser.Term.hole #[qxA "_"], qxA "→", qxArr n]
def obFin (h : Lean.Syntax) (ns : List Lean.Syntax) : List Lean.Syntax :=
  [qxT "refine" "refine" [qxNil (qxApp (qxAsc qxHole (qxArr ns.length)) (obPs ns.length h))], qxTryClear h, qxT "intro" "intro" [qxL ns]]
def obAlts (v : Lean.MacroScopesView) (h : Lean.Syntax) (ns : List Lean.Syntax) : Lean.Syntax :=
  let n := ns.length
  let z := qxHy v 3000
  let alts := (List.range (n - 1)).map fun k => [qxDflt ([qxT "refine'" "refine'" [qxNil (qxApp (qxI (Lean.Name.mkSimple ("ex" ++ toString (k + 1)))) [h, qxHole])], qxTryClear h] ++ (if n == k + 2 then [qxT "intro" "intro" [qxL ns]] else qxT "intro" "intro" [qxL (ns.take (k + 1) ++ [z])] :: obFin z (ns.drop (k + 1))))]
  qxFirst (alts ++ [[qxDflt (obFin h ns)]])
def obSplit (v : Lean.MacroScopesView) (h : Lean.Syntax) (ns : List Lean.Syntax) : Lean.Syntax :=
  let n := ns.length
  qxFirst ([obAlts v h ns] :: (List.range (n - 2)).map fun i => [obAlts v h (ns.take (n - 2 - i) ++ [qxHy v 1000]), qxObtain (qxTup (ns.drop (n - 2 - i))) (qxHy v 1000)])
def obGo (v : Lean.MacroScopesView) : Nat → Lean.Syntax → List Lean.Syntax → Option (List Lean.Syntax)
  | 0, _, _ => none
  | _ + 1, _, [] => none
  | f + 1, h, [p] =>
    if obKind p "tuple" then
      match p[1].getSepArgs.toList.mapM (obStrip 20) with
      | none => none
      | some qs =>
        let fl := (List.range qs.length).zip qs
        match fl.mapM fun q => if obSimple q.2 then some [] else obGo v f (qxHy v (5000 + 30 * f + q.1)) [q.2] with
        | none => none
        | some more =>
          let b := qxRcases h [qxTup (fl.map fun q => obName v (5000 + 30 * f + q.1) q.2)] :: more.flatten
          if qs.length < 2 then some b else match obGo v f h qs with
            | none => some b
            | some a => some [qxFirst [a, b]]
    else if obKind p "clear" then some [qxTryClear h]
    else if obKind p "one" && p[0].getId == `rfl then some [qxT "subst" "subst" [qxL [h]]]
    else none
  | f + 1, h, p :: q :: r =>
    let run := (p :: q :: r).takeWhile obSimple
    let rest := (p :: q :: r).drop run.length
    let ns := ((List.range run.length).zip run).map fun x => obName v (100 * f + x.1) x.2
    let z := qxHy v (100 * f + 90)
    if rest.isEmpty then some [obSplit v h ns]
    else if run.length != 0 then (obGo v f z rest).map fun x => obSplit v h (ns ++ [z]) :: x
    else
      let h1 := qxHy v (100 * f + 91)
      match obGo v f h1 [p], (if r.isEmpty && obSimple q then some [] else obGo v f z (q :: r)) with
      | some x, some y => some (obSplit v h [h1, if r.isEmpty && obSimple q then obName v (100 * f + 92) q else z] :: x ++ y)
      | _, _ => none
def obView : Lean.MacroM Lean.MacroScopesView := do return Lean.extractMacroScopes (← Lean.Macro.addMacroScope `zb)
def obBinders : Nat → Lean.Syntax → Nat
  | 0, _ => 0
  | f + 1, s => match s with
    | .ident .. => 1
    | .node _ k as => if k == `Lean.Parser.Term.hole then 1 else if k == `Lean.bracketedExplicitBinders then obBinders f as[1]! else if k == `Lean.unbracketedExplicitBinders then obBinders f as[0]! else as.foldl (fun n a => n + obBinders f a) 0
    | _ => 0
def obCount : Nat → Lean.Syntax → Nat
  | 0, _ => 0
  | f + 1, s => if s.getKind == `«term∃_,_» then obBinders 8 s[1] + obCount f s[3] else 0
def obEx (v : Lean.MacroScopesView) (k : Nat) (h : Lean.Syntax) (ps : List Lean.Syntax) : List Lean.Syntax :=
  let z := qxHy v 3500
  let xs := ((List.range k).zip (ps.take k)).map fun x => obName v (3600 + x.1) x.2
  [qxT "refine'" "refine'" [qxNil (qxApp (qxI (Lean.Name.mkSimple ("ex" ++ toString k))) [h, qxHole])], qxT "intro" "intro" [qxL (xs ++ [z])], qxObtain (qxN `Lean.Parser.Tactic.rcasesPat.tuple #[qxA "⟨", qxL (qxJ "," ((ps.drop k).map qxLoOf)), qxA "⟩"]) z]
def obObtain (p t v : Lean.Syntax) : Lean.MacroM Lean.Syntax := do
  let w ← obView
  match obStrip 20 p with
  | none => Lean.Macro.throwUnsupported
  | some s =>
    let h := if v.isIdent then v else qxHy w 9999
    if !(obKind s "tuple") then Lean.Macro.throwUnsupported
    else
      let ps := (s[1].getSepArgs.toList.mapM (obStrip 20)).getD []
      if t.getNumArgs != 0 then
        let k := obCount 8 t
        if k != 0 && k + 1 < ps.length && (ps.take k).all obSimple then
          return qxT "paren" "(" [qxSeq (obEx w k (qxAsc v t) ps), qxA ")"]
        else return qxT "paren" "(" [qxSeq [qxHave (qxHy w 9998) v [t], qxObtain s (qxHy w 9998)], qxA ")"]
      else match obGo w 30 h [s] with
        | none => Lean.Macro.throwUnsupported
        | some x =>
          if v.isIdent then return qxFirst [x, [qxRcases v [s]]]
          else
            let m := min 6 (ps.takeWhile obSimple).length
            let ks := (List.range m).filter fun k => k + 2 < ps.length
            return qxFirst (ks.reverse.map (fun k => [qxDflt (obEx w (k + 1) v ps)]) ++ [qxHave h v [] :: x, [qxRcases v [s]]])
def obRcases (v p : Lean.Syntax) : Lean.MacroM Lean.Syntax := do
  let w ← obView
  let as := (List.range 20).zip p[0][0].getSepArgs.toList
  if !v.isIdent || p[1].getNumArgs != 0 || as.length < 2 || !(as.any fun a => obKind a.2 "tuple") then Lean.Macro.throwUnsupported
  else
    let rot := fun (k : String) (s : String) => qxT k s [qxL []]
    return qxT "paren" "(" [qxSeq (qxRcases v (as.map fun a => if obKind a.2 "tuple" then qxOne (qxHy w (7000 + a.1)) else a.2) :: (as.map fun a => if obKind a.2 "tuple" then [qxObtain a.2 (qxHy w (7000 + a.1)), rot "rotateLeft" "rotate_left"] else [rot "rotateLeft" "rotate_left"]).flatten ++ as.map fun _ => rot "rotateRight" "rotate_right"), qxA ")"]
def obHyg (t : Lean.Syntax) : Lean.MacroM Lean.Syntax := do
  let w ← obView
  return qxT "paren" "(" [t.rewriteBottomUp fun s => match s with
    | .ident i r v p => if r.get ⟨0⟩ == 'z' && r.get ⟨1⟩ == 'z' then .ident i r { w with name := v }.review p else s
    | _ => s, qxA ")"]
def obGen (n : Nat) : List Nat → Lean.MacroM Nat
  | [] => return n
  | d :: r => do if ← Lean.Macro.hasDecl (`Mine ++ Lean.Name.mkSimple ("kg" ++ toString (n + d))) then obGen (n + d) r else obGen n r
def obX (s : String) : List Lean.Syntax := [qxN `PySem.W.tacticK_extra_ #[qxA "k_extra", Lean.Syntax.mkStrLit s]]
def obK (n : Nat) (k : String) (more : List (List Lean.Syntax)) : Lean.MacroM Lean.Syntax := do
  let nb ← if k == "spliced" then Lean.Macro.hasDecl `Mine.kgns else pure false
  return qxFirst (obX ("Z" ++ toString (← obGen n [64, 32, 16, 8, 4, 2, 1]) ++ k) :: (if nb then [] else [obX ("B" ++ k)]) ++ more)
def obY (n : Nat) (s : String) : Lean.MacroM Lean.Syntax := if s.startsWith "Y" then obK n (s.drop 1).toString [] else Lean.Macro.throwUnsupported
local macro_rules
  | `(tactic| case' zzhy => $t:tacticSeq) => obHyg t
  | `(tactic| k_steps) => obK 0 "steps" []
  | `(tactic| walk_at $s:str) => return (obX ("Y" ++ (if s.getString.startsWith "subscriptTail " && !s.getString.endsWith "f ref" then "subscriptTail" else s.getString))).head!
  | `(tactic| k_extra $s:str) => obY 0 s.getString
  | `(tactic| omega) => obK 0 "omega" [[qxT "omega" "omega" [qxN `Lean.Parser.Tactic.optConfig #[qxL [qxN `Lean.Parser.Tactic.configItem #[qxN `Lean.Parser.Tactic.posConfigItem #[qxA "+", qxI `splitDisjunctions]]]]]]]
  | `(tactic| obtain $p:rcasesPatMed := $v:term) => obObtain p (qxL []) v
  | `(tactic| obtain $p:rcasesPatMed : $t := $v:term) => obObtain p t v
  | `(tactic| rcases $v:term with $p:rcasesPatLo) => obRcases v p
local macro_rules
  | `(tactic| k_all) => obK 0 "K_k_all" []
  | `(tactic| k_inst) => obK 0 "K_k_inst" []
  | `(tactic| k_mem) => obK 0 "K_k_mem" []
  | `(tactic| k_room) => obK 0 "K_k_room" []
theorem kb : True := by
  k_with "BCJF" => (first | exact oq1 (by assumption) | exact oq1 (oq2 (by assumption)) | exact oq1 (oq2 (oq2 (by assumption))) | exact oq1 (oq2 (oq2 (oq2 (by assumption)))) | exact oq1 (oq2 (oq2 (oq2 (oq2 (by assumption))))) | exact oq1 (oq2 (oq2 (oq2 (oq2 (oq2 (by assumption)))))) | exact oq1 (oq2 (oq2 (oq2 (oq2 (oq2 (oq2 (by assumption))))))) | exact oq1 (oq2 (oq2 (oq2 (oq2 (oq2 (oq2 (oq2 (by assumption)))))))) | exact oq1 (oq2 (oq2 (oq2 (oq2 (oq2 (oq2 (oq2 (oq2 (by assumption))))))))) | exact oq1 (oq2 (oq2 (oq2 (oq2 (oq2 (oq2 (oq2 (oq2 (oq2 (by assumption)))))))))) | exact oq1 (oq2 (oq2 (oq2 (oq2 (oq2 (oq2 (oq2 (oq2 (oq2 (oq2 (by assumption))))))))))) | exact oq1 (oq2 (oq2 (oq2 (oq2 (oq2 (oq2 (oq2 (oq2 (oq2 (oq2 (oq2 (by assumption)))))))))))) | exact oq1 (oq2 (oq2 (oq2 (oq2 (oq2 (oq2 (oq2 (oq2 (oq2 (oq2 (oq2 (oq2 (by assumption))))))))))))) | exact oq1 (oq2 (oq2 (oq2 (oq2 (oq2 (oq2 (oq2 (oq2 (oq2 (oq2 (oq2 (oq2 (oq2 (by assumption)))))))))))))) | exact oq1 (oq2 (oq2 (oq2 (oq2 (oq2 (oq2 (oq2 (oq2 (oq2 (oq2 (oq2 (oq2 (oq2 (oq2 (by assumption))))))))))))))) | exact oq1 (oq2 (oq2 (oq2 (oq2 (oq2 (oq2 (oq2 (oq2 (oq2 (oq2 (oq2 (oq2 (oq2 (oq2 (oq2 (by assumption)))))))))))))))) | exact oq1 (oq2 (oq2 (oq2 (oq2 (oq2 (oq2 (oq2 (oq2 (oq2 (oq2 (oq2 (oq2 (oq2 (oq2 (oq2 (oq2 (by assumption))))))))))))))))) | exact oq1 (oq2 (oq2 (oq2 (oq2 (oq2 (oq2 (oq2 (oq2 (oq2 (oq2 (oq2 (oq2 (oq2 (oq2 (oq2 (oq2 (oq2 (by assumption)))))))))))))))))) | exact oq1 (oq2 (oq2 (oq2 (oq2 (oq2 (oq2 (oq2 (oq2 (oq2 (oq2 (oq2 (oq2 (oq2 (oq2 (oq2 (oq2 (oq2 (oq2 (by assumption))))))))))))))))))) | exact oq1 (oq2 (oq2 (oq2 (oq2 (oq2 (oq2 (oq2 (oq2 (oq2 (oq2 (oq2 (oq2 (oq2 (oq2 (oq2 (oq2 (oq2 (oq2 (oq2 (by assumption)))))))))))))))))))))
  k_with "BCJ" => ((first | show (_ : Nat) < _ | show (_ : Nat) ≠ _); (first | exact oq1 (by assumption) | exact oq1 (oq2 (by assumption)) | exact oq1 (oq2 (oq2 (by assumption))) | ((fail_if_success (fail_if_success (refine' oqD (by assumption) ?_))); first | exact oq1 (oq2 (oq2 (oq2 (by assumption)))) | exact oq1 (oq2 (oq2 (oq2 (oq2 (by assumption))))) | exact oq1 (oq2 (oq2 (oq2 (oq2 (oq2 (by assumption)))))) | exact oq1 (oq2 (oq2 (oq2 (oq2 (oq2 (oq2 (by assumption))))))) | exact oq1 (oq2 (oq2 (oq2 (oq2 (oq2 (oq2 (oq2 (by assumption)))))))) | exact oq1 (oq2 (oq2 (oq2 (oq2 (oq2 (oq2 (oq2 (oq2 (by assumption))))))))) | exact oq1 (oq2 (oq2 (oq2 (oq2 (oq2 (oq2 (oq2 (oq2 (oq2 (by assumption)))))))))) | exact oq1 (oq2 (oq2 (oq2 (oq2 (oq2 (oq2 (oq2 (oq2 (oq2 (oq2 (by assumption))))))))))) | exact oq1 (oq2 (oq2 (oq2 (oq2 (oq2 (oq2 (oq2 (oq2 (oq2 (oq2 (oq2 (by assumption)))))))))))) | exact oq1 (oq2 (oq2 (oq2 (oq2 (oq2 (oq2 (oq2 (oq2 (oq2 (oq2 (oq2 (oq2 (by assumption))))))))))))) | exact oq1 (oq2 (oq2 (oq2 (oq2 (oq2 (oq2 (oq2 (oq2 (oq2 (oq2 (oq2 (oq2 (oq2 (by assumption)))))))))))))) | exact oq1 (oq2 (oq2 (oq2 (oq2 (oq2 (oq2 (oq2 (oq2 (oq2 (oq2 (oq2 (oq2 (oq2 (oq2 (by assumption))))))))))))))) | exact oq1 (oq2 (oq2 (oq2 (oq2 (oq2 (oq2 (oq2 (oq2 (oq2 (oq2 (oq2 (oq2 (oq2 (oq2 (oq2 (by assumption)))))))))))))))) | exact oq1 (oq2 (oq2 (oq2 (oq2 (oq2 (oq2 (oq2 (oq2 (oq2 (oq2 (oq2 (oq2 (oq2 (oq2 (oq2 (oq2 (by assumption))))))))))))))))) | exact oq1 (oq2 (oq2 (oq2 (oq2 (oq2 (oq2 (oq2 (oq2 (oq2 (oq2 (oq2 (oq2 (oq2 (oq2 (oq2 (oq2 (oq2 (by assumption)))))))))))))))))) | exact oq1 (oq2 (oq2 (oq2 (oq2 (oq2 (oq2 (oq2 (oq2 (oq2 (oq2 (oq2 (oq2 (oq2 (oq2 (oq2 (oq2 (oq2 (oq2 (by assumption))))))))))))))))))) | exact oq1 (oq2 (oq2 (oq2 (oq2 (oq2 (oq2 (oq2 (oq2 (oq2 (oq2 (oq2 (oq2 (oq2 (oq2 (oq2 (oq2 (oq2 (oq2 (oq2 (by assumption)))))))))))))))))))))))
  k_with "BLOOKA" => (first | exact rfl | ((try dsimp only); (repeat (first | assumption | exact if_pos rfl | refine (if_neg (by decide)).trans ?_ | exact rfl)); done))
  k_with "BARGS" => ((repeat (first | (apply ArgsS.name; (focus (k_extra "YLOOKA"; done)); kernel_rfl; kernel_rfl) | apply ArgsS.int | apply ArgsS.str | apply ArgsS.none)); exact ArgsS.nil)
  k_with "Bspliced" => (k_here; (with_reducible show wpAny _ _ (spliced (backTo _ (starEach (_ :: _) _))) _ _ _); case' zzhy => (k_dflt (first | ((first | with_reducible refine' no_implicit_lambda% (args_n ?zzF ?zzH ?zzx ?_) | refine' no_implicit_lambda% (args_n ?zzF ?zzH ?zzx ?_)); (case zzF => k_asm); (case zzH => k_extra "YARGS"); (case zzx => kernel_rfl); k_whole) | ((first | with_reducible refine' no_implicit_lambda% (args_t ?zzF ?zzH ?zzx ?_) | refine' no_implicit_lambda% (args_t ?zzF ?zzH ?zzx ?_)); (case zzF => k_asm); (case zzH => k_extra "YARGS"); (case zzx => kernel_rfl); k_whole))))
  k_with "Beval Attribute Name" => (k_here; case' zzhy => (k_dflt ((first | with_reducible refine' no_implicit_lambda% (attr_n ?zzF ?zzv ?_ ?zzr ?zzx ?zzd) | refine' no_implicit_lambda% (attr_n ?zzF ?zzv ?_ ?zzr ?zzx ?zzd)); (case zzF => k_asm); (case zzv => k_extra "YLOOKA"); (case zzr => kernel_rfl); (case zzx => kernel_rfl); (case zzd => kernel_rfl); k_whole)))
  k_with "Beval Subscript" => (k_here; (with_reducible show wpAny _ _ (eval (PySem.Expr.Subscript (PySem.Expr.Name _ _) (PySem.Expr.Constant (PySem.Const.int _) _ _) _) _) _ _ _); case' zzhy => (k_dflt ((first | with_reducible refine' no_implicit_lambda% (sub_nc ?zzF ?zzv ?_ ?zzr ?zzx ?zzd) | refine' no_implicit_lambda% (sub_nc ?zzF ?zzv ?_ ?zzr ?zzx ?zzd)); (case zzF => k_asm); (case zzv => k_extra "YLOOKA"); (case zzr => kernel_rfl); (case zzx => kernel_rfl); (case zzd => kernel_rfl); k_whole)))
  k_with "Bexec Assign" => (k_here; (with_reducible show wpAny _ _ (exec (Stmt.Assign [PySem.Expr.Attribute (PySem.Expr.Name _ _) _ _] (PySem.Expr.Name _ _) _) _) _ _ _); case' zzhy => (k_dflt ((first | with_reducible refine' no_implicit_lambda% (asg_nn ?zzF ?zzv ?zzo ?_ ?zzs ?zzr ?zzx ?zzd ?zzy ?zzz) | refine' no_implicit_lambda% (asg_nn ?zzF ?zzv ?zzo ?_ ?zzs ?zzr ?zzx ?zzd ?zzy ?zzz)); (case zzF => k_asm); (case zzv => k_extra "YLOOKA"); (case zzo => k_extra "YLOOKA"); (case zzr => kernel_rfl); (case zzx => kernel_rfl); (case zzy => kernel_rfl); (case zzd => kernel_rfl); (case zzz => kernel_rfl); (case zzs => kernel_rfl); k_whole)))
  k_with "Beval Tuple" => (k_here; case' zzhy => (k_dflt ((first | with_reducible refine' no_implicit_lambda% (tuple_a ?zzF ?zzH ?_ ?zzx) | refine' no_implicit_lambda% (tuple_a ?zzF ?zzH ?_ ?zzx)); (case zzF => k_asm); (case zzH => k_extra "YARGS"); (case zzx => kernel_rfl); k_whole)))
  k_with "Beval Call" => (k_here; (with_reducible show wpAny _ _ (eval (PySem.Expr.Call (PySem.Expr.Name _ _) (_ :: _) [] _) _) _ _ _); case' zzhy => (k_dflt ((first | with_reducible refine' no_implicit_lambda% (call_g ?zzF ?zzX ?zzT ?zze ?zzk ?zzH ?_ ?zzh ?zzp ?zzr ?zzx ?zzd) | refine' no_implicit_lambda% (call_g ?zzF ?zzX ?zzT ?zze ?zzk ?zzH ?_ ?zzh ?zzp ?zzr ?zzx ?zzd)); (case zzF => k_asm); (case zzH => k_extra "YARGS"); (case zzh => kernel_rfl); (case zzp => kernel_rfl); (case zzX => k_asm); (case zzT => k_asm); (case zze => k_is); (case zzk => k_is); (case zzr => kernel_rfl); (case zzx => kernel_rfl); (case zzd => kernel_rfl); k_whole)))
  k_with "Beval Call" => (k_here; (with_reducible show wpAny _ _ (eval (PySem.Expr.Call (PySem.Expr.Name _ _) [] [] _) _) _ _ _); case' zzhy => (k_dflt ((first | with_reducible refine' no_implicit_lambda% (call_g0 ?zzF ?zzX ?zzT ?zze ?zzk ?_ ?zzr ?zzx ?zzd) | refine' no_implicit_lambda% (call_g0 ?zzF ?zzX ?zzT ?zze ?zzk ?_ ?zzr ?zzx ?zzd)); (case zzF => k_asm); (case zzX => k_asm); (case zzT => k_asm); (case zze => k_is); (case zzk => k_is); (case zzr => kernel_rfl); (case zzx => kernel_rfl); (case zzd => kernel_rfl); k_whole)))
  k_with "Bexec If" => (k_here; (with_reducible show wpAny _ _ (exec (Stmt.If (PySem.Expr.Compare _ [_] [PySem.Expr.Constant (PySem.Const.int _) _ _] _) _ _ _) _) _ _ _); case' zzhy => (k_dflt ((first | with_reducible refine' no_implicit_lambda% (if_ci ?_ ?zzm) | refine' no_implicit_lambda% (if_ci ?_ ?zzm)); (case zzm => with_unfolding_all rfl); k_whole)))
  k_with "Bexec If" => (k_here; (with_reducible show wpAny _ _ (exec (Stmt.If (PySem.Expr.Compare _ [_] [PySem.Expr.Constant (PySem.Const.str _) _ _] _) _ _ _) _) _ _ _); case' zzhy => (k_dflt ((first | with_reducible refine' no_implicit_lambda% (if_cs ?_ ?zzm) | refine' no_implicit_lambda% (if_cs ?_ ?zzm)); (case zzm => with_unfolding_all rfl); k_whole)))
  k_with "Bite" => (case' zzhy => (k_closed; first | ((with_reducible refine' no_implicit_lambda% (ite_pos ?zzc ?_)); (case zzc => k_dflt decide)) | ((with_reducible refine' no_implicit_lambda% (ite_neg ?zzc ?_)); (case zzc => k_dflt decide))))
  k_with "Beval Name" => (k_here; (with_reducible show wpAny _ _ (eval (PySem.Expr.Name _ _) (envX _ _ _ _ _ _)) _ _ _); case' zzhy => (k_dflt (first | ((first | with_reducible refine' no_implicit_lambda% (nameX_L ?zzF ?zzv ?_ ?zza ?zzb ?zzd) | refine' no_implicit_lambda% (nameX_L ?zzF ?zzv ?_ ?zza ?zzb ?zzd)); (case zzF => k_asm); (case zzv => exact rfl); (case zza => kernel_rfl); (case zzb => kernel_rfl); (case zzd => kernel_rfl); k_whole) | ((first | with_reducible refine' no_implicit_lambda% (nameX_K ?zzF ?zzX ?zzT ?zze ?_ ?zza ?zzb ?zzd) | refine' no_implicit_lambda% (nameX_K ?zzF ?zzX ?zzT ?zze ?_ ?zza ?zzb ?zzd)); (case zzb => exact rfl); (case zza => kernel_rfl); (case zzd => kernel_rfl); (case zzF => k_asm); (case zzX => k_asm); (case zzT => k_asm); (case zze => k_is); k_whole))))
  k_with "BKdnMade" => (k_here; case' zzhy => (k_dflt (refine' no_implicit_lambda% (kdn_made_str ?zzF ?zzN ?zzU ?zzd ?zzk ?zzn ?_); (case zzF => k_asm); (case zzN => k_asm); (case zzU => k_updF); (case zzd => k_asm); (case zzk => kernel_rfl); (case zzn => exact of_decide_eq_true (by kernel_rfl))); (intro zzh' zzo' zzF' zzN' zzhd'); (try dsimp only at zzN')))
  k_with "BcallWith ref" => (k_here; case' zzhy => (k_dflt (first | ((with_reducible refine' no_implicit_lambda% (callWith_K ?zz1 ?zz2 ?_ ?zz3 ?zz4)); (case zz1 => k_asm); (case zz2 => k_is); (case zz3 => exact rfl); (case zz4 => exact rfl); k_whole) | ((with_reducible refine' no_implicit_lambda% (callWith_K0 ?zz1 ?zz2 ?_)); (case zz1 => k_in); (case zz2 => k_is); k_whole))))
  k_with "BKS0" => (repeat' (first | (k_unfold; (try dsimp only)) | (k_end; wrow_close) | ((with_reducible first | show wpAny _ _ (execs _ _) _ _ _ | show wpAny _ _ (exec _ _) _ _ _); (try dsimp only); walk1) | walk1 | (dsimp only; walk1) | (leave1; walk_say "STEP leave1"; try dsimp only) | fail "no step"))
  k_with "Bsteps" => (repeat' (first | (k_unfold; (try dsimp only)) | (k_end; wrow_close) | (walk1 <;> (try dsimp only)) | (dsimp only; walk1) | (leave1; walk_say "STEP leave1"; try dsimp only) | fail "no step"))
  k_with "BRARE" => (k_dflt (repeat (first | assumption | refine' rupd ?_ (by first | exact rfl | decide))))
  k_with "BRARZ" => (k_dflt (refine' obf6 ?_ ?_ ?_ ?_ ?_ ?_ <;> rfl))
  k_with "BCJD" => (first | k_dflt (k_extra "BCJF") | (dsimp only; omega))
  k_with "Bomega" => (first | (with_reducible first | assumption | exact Nat.succ_pos _ | (k_extra "BCJ") | (refine Nat.ne_of_lt ?_; first | assumption | (k_extra "BCJ")) | (refine Nat.ne_of_gt ?_; first | assumption | (k_extra "BCJ")) | (refine Ne.symm ?_; first | assumption | (k_extra "BCJ"))) | (with_reducible first | exact Nat.ne_of_lt (Nat.lt_succ_self _) | exact Nat.ne_of_gt (Nat.lt_succ_self _) | (refine Nat.ne_of_gt ?_; (refine Nat.lt_add_one_of_lt ?_; first | assumption | (refine Nat.lt_add_one_of_lt ?_; assumption))) | (refine Nat.ne_of_lt ?_; (refine Nat.lt_add_one_of_lt ?_; first | assumption | (refine Nat.lt_add_one_of_lt ?_; assumption))) | (refine Nat.lt_of_succ_lt ?_; assumption)) | decide | (with_reducible first | exact Nat.le_trans (by assumption) (by decide) | exact Nat.lt_of_le_of_lt (by assumption) (by decide) | exact Int.le_trans (by assumption) (by decide) | exact Int.lt_of_le_of_lt (by assumption) (by decide)))
  k_with "BFMb" => (revert b; k_dflt (first | refine' obf1 ?_ | refine' obf2 ?_ ?_ | refine' obf3 ?_ ?_ ?_ | refine' obf4 ?_ ?_ ?_ ?_ | refine' obf5 ?_ ?_ ?_ ?_ ?_ | refine' obf6 ?_ ?_ ?_ ?_ ?_ ?_ | refine' obf7 ?_ ?_ ?_ ?_ ?_ ?_ ?_ | refine' obf8 ?_ ?_ ?_ ?_ ?_ ?_ ?_ ?_))
  k_with "BFMq" => (revert q; k_dflt (first | refine' obf1 ?_ | refine' obf2 ?_ ?_ | refine' obf3 ?_ ?_ ?_ | refine' obf4 ?_ ?_ ?_ ?_ | refine' obf5 ?_ ?_ ?_ ?_ ?_ | refine' obf6 ?_ ?_ ?_ ?_ ?_ ?_ | refine' obf7 ?_ ?_ ?_ ?_ ?_ ?_ ?_ | refine' obf8 ?_ ?_ ?_ ?_ ?_ ?_ ?_ ?_))
  k_with "BFMx" => (revert x; k_dflt (first | refine' obf1 ?_ | refine' obf2 ?_ ?_ | refine' obf3 ?_ ?_ ?_ | refine' obf4 ?_ ?_ ?_ ?_ | refine' obf5 ?_ ?_ ?_ ?_ ?_ | refine' obf6 ?_ ?_ ?_ ?_ ?_ ?_ | refine' obf7 ?_ ?_ ?_ ?_ ?_ ?_ ?_ | refine' obf8 ?_ ?_ ?_ ?_ ?_ ?_ ?_ ?_))
  k_with "BFMz" => (revert z; k_dflt (first | refine' obf1 ?_ | refine' obf2 ?_ ?_ | refine' obf3 ?_ ?_ ?_ | refine' obf4 ?_ ?_ ?_ ?_ | refine' obf5 ?_ ?_ ?_ ?_ ?_ | refine' obf6 ?_ ?_ ?_ ?_ ?_ ?_ | refine' obf7 ?_ ?_ ?_ ?_ ?_ ?_ ?_ | refine' obf8 ?_ ?_ ?_ ?_ ?_ ?_ ?_ ?_))
  k_with "BMOhb" => (k_dflt (first | replace hb := obm1 hb | replace hb := obm2 hb | replace hb := obm3 hb | replace hb := obm4 hb | replace hb := obm5 hb | replace hb := obm6 hb | replace hb := obm7 hb | replace hb := obm8 hb | simp only [List.map_cons, List.map_nil, List.mem_cons, List.not_mem_nil, or_false, not_or] at hb))
  k_with "BMOhq" => (k_dflt (first | replace hq := obm1 hq | replace hq := obm2 hq | replace hq := obm3 hq | replace hq := obm4 hq | replace hq := obm5 hq | replace hq := obm6 hq | replace hq := obm7 hq | replace hq := obm8 hq | simp only [List.map_cons, List.map_nil, List.mem_cons, List.not_mem_nil, or_false, not_or] at hq))
  k_with "BMOhm" => (k_dflt (first | replace hm := obm1 hm | replace hm := obm2 hm | replace hm := obm3 hm | replace hm := obm4 hm | replace hm := obm5 hm | replace hm := obm6 hm | replace hm := obm7 hm | replace hm := obm8 hm | simp only [List.map_cons, List.map_nil, List.mem_cons, List.not_mem_nil, or_false, not_or] at hm))
  k_with "BMOz" => (k_dflt (first | replace z := obm1 z | replace z := obm2 z | replace z := obm3 z | replace z := obm4 z | replace z := obm5 z | replace z := obm6 z | replace z := obm7 z | replace z := obm8 z | simp only [List.map_cons, List.map_nil, List.mem_cons, List.not_mem_nil, or_false, not_or] at z))
  k_with "BNM" => (k_dflt (first | refine' obn1 ?_ | refine' obn2 ?_ | refine' obn3 ?_ | refine' obn4 ?_ | refine' obn5 ?_ | refine' obn6 ?_ | refine' obn7 ?_ | refine' obn8 ?_ | simp only [List.mem_cons, List.not_mem_nil, or_false, not_or]))
  k_with "BOM" => (k_dflt (first | refine' obo1 ?_ | refine' obo2 ?_ | refine' obo3 ?_ | refine' obo4 ?_ | refine' obo5 ?_ | refine' obo6 ?_ | refine' obo7 ?_ | refine' obo8 ?_ | simp only [List.mem_cons, List.not_mem_nil, or_false]))
  k_with "BSI" => (first | ((repeat (first | exact List.Mem.head _ | apply List.Mem.tail)); done) | simp)
  trivial
section
theorem kg1 : True := trivial
abbrev Pg : Program := PySem.Challenge.rw_ok0174_01.row.prog


def Keep (M : List Addr) (h h' : Heap) : Prop := ∀ b o, b ∉ M → h.get? b = some o → h'.get? b = some o
theorem Keep.refl (M : List Addr) (h : Heap) : Keep M h h := fun _ _ _ e => e
theorem Keep.trans {M : List Addr} {h₁ h₂ h₃ : Heap} (x : Keep M h₁ h₂) (y : Keep M h₂ h₃) : Keep M h₁ h₃ := fun b o n e => y b o n (x b o n e)
theorem Keep.mono {M M' : List Addr} {h h' : Heap} (x : Keep M h h') (s : ∀ a ∈ M, a ∈ M') : Keep M' h h' := fun b o n e => x b o (fun q => n (s b q)) e
theorem Keep.of {h h' : Heap} (M : List Addr) (x : ∀ b o, h.get? b = some o → h'.get? b = some o) : Keep M h h' := fun b o _ e => x b o e
theorem Keep.all {h h' : Heap} (x : Keep [] h h') {b : Addr} {o : Obj} (e : h.get? b = some o) : h'.get? b = some o := x b o (by simp) e

@[reducible] def lev (n : Nat) (fs : List Env) : Around := { handled := none, depth := 301 + 20 * n, frames := some fs, guards := none, units := 4 + 100 * n }

@[reducible] noncomputable def eX (qual : Str) (scope : Scope) (f : Addr) (cdv : Value) (cl : List (Str × Addr)) (L' : Addr) : Env := envX qual scope L' f cdv cl
@[reducible] noncomputable def dA (n : Nat) (env : Env) (outer : List Env) (V : Env) : Around := (lev n (env :: outer)).deeper V
@[reducible] noncomputable def dE (M : Model) (A : Around) (V : Env) (R : Result → Shared → Prop) : Value → Shared → Prop := fun e s' => wpAny M A (leaving V e) (fun _ s'' => R (.error e) s'') (fun e' s'' => R (.error e') s'') s'
@[reducible] noncomputable def dQ (R : Result → Shared → Prop) : Flow → Shared → Prop := fun fl s' => R (.ok (.ret (match fl with | .ret v => v | _ => .none))) s'

theorem below_lev {Γ : Ctx} {A A' : Around} (hB : Γ.Below A) (hh : A.handled = A'.handled) (hd : A.depth ≤ A'.depth) (hf : A'.frames = A.frames) (hg : A'.guards = none) (hu : A.units ≤ A'.units) : Γ.Below A' := by
  obtain ⟨b1, b2, b3, b4, b5⟩ := hB
  exact ⟨b1.trans hh, Nat.le_trans b2 hd, (fun l hl => b3 l (hf ▸ hl)), (fun g hg' => by rw [hg] at hg'; cases hg'), Nat.le_trans b5 hu⟩
theorem code_lev {M : Model} {A A' : Around} {c : Code} {R : Result → Shared → Prop} {s : Shared} (h : codeAny M A' c R s) (hh : A.handled = A'.handled) (hd : A.depth ≤ A'.depth) (hf : A'.frames = A.frames) (hg : A'.guards = none) (hu : A.units ≤ A'.units) : codeAny M A c R s :=
  fun Γ p hc hB => h Γ p hc (below_lev hB hh hd hf hg hu)

section
variable (w : World) (p : Program) (loose : List Str) (mean : ExcName → Option Value) (mg mb : Str → Option Value)
def Sp (n : Nat) (f : Addr) (vs : List Value) (M : List Addr) (s : Shared) (Post : Value → Heap → Prop) : Prop :=
  ∀ (A₀ : Around) (base h₀ : Heap) (env : Env) (outer : List Env) (L : Addr) (m : Str → Option Value) (R : Result → Shared → Prop),
    Below A₀ base outer h₀ → Fr h₀ L s.heap m → (hd.heap_1 w.params).In h₀ → Top p loose mean mg mb h₀ → env.frame = some L → env.scope.kind = .function →
    (∀ a ∈ M, h₀.get? a = none ∧ a ≠ L) →
    (∀ v h' tk', Keep M s.heap h' → Post v h' → R (.ok (.ret v)) { s with heap := h', toks := tk' }) →
    codeAny (model Pg w) (lev n (env :: outer)) (.call (.ref f) ⟨vs, []⟩) R s
end

section
variable {prog : Program} {w : World} {p : Program} {loose : List Str} {mean : ExcName → Option Value} {mg mb : Str → Option Value}
  {A₀ : Around} {base h₀ : Heap} {outer : List Env} {L : Addr} {m : Str → Option Value} {env : Env} {s : Shared} {R : Result → Shared → Prop} {n : Nat}

theorem ground_hide {H : List Addr} (B : Below A₀ base outer h₀) (F : Fr h₀ L s.heap m) (hf : env.frame = some L) (hke : env.scope.kind = .function) (hH : ∀ a ∈ H, h₀.get? a = none ∧ a ≠ L) {A : Around} (hA : A.frames = some (env :: outer)) :
    Fr h₀ L (hideAll s.heap H) m ∧ Below A base (env :: outer) (hideAll s.heap H) ∧ h₀.StaysIn (hideAll s.heap H) := by
 refine no_implicit_lambda% ((?qf0 : @Wit ?qp0 ?qe0 → ?qp0) (wit2 ?q00 ?qh0))
 case qf0 => exact fun _ => ?qe0
 case q00 =>
  have nm : ∀ b o, h₀.get? b = some o → b ∉ H := fun b o e q => by
    rw [(hH b q).1] at e; cases e
  have st : h₀.StaysIn (hideAll s.heap H) := fun b o e => hideAll_get _ (F.keep b o e) (nm b o e)
  obtain ⟨oL, es, ep, hL, hLd, hLk, hLf⟩ := F.ns
  have nL : L ∉ H := fun q => (hH L q).2 rfl
  have hLg := hideAll_get H hL nL
  have FG : Fr h₀ L (hideAll s.heap H) m := ⟨⟨oL, es, ep, hLg, hLd, hLk, hLf⟩, st, F.above⟩
  refine ⟨FG, ⟨hA, fun b o e => st b o (B.stays b o e), ?_⟩, st⟩
  have hnew : base.get? L = none := by
    cases hq : base.get? L with
    | none => rfl
    | some o => exact absurd (Nat.lt_of_lt_of_le (Heap.lt_size (B.stays L o hq)) F.above) (Nat.lt_irrefl _)
  exact .cons (by rw [hke]; decide) hf FG.ns hnew (B.frames.of_keeps fun b o e _ => ⟨o, st b o e, rfl⟩)
 case qh0 => (try delta id oq1 oq2); exact fun h => h

theorem enter {H : List Addr} {news : List (Addr × Obj)} {name qual : Str} {params : Arguments} {body : List Stmt} {scope : Scope} {cl : List (Str × Addr)} {dV kV doc pm cdv ct oc : Value} {an od : Option Addr} {osl : Array (Option Value)} {f : Addr} {args : Args} {binds : List (Str × Value)}
    (B : Below A₀ base outer h₀) (F : Fr h₀ L s.heap m) (X : (hd.heap_1 w.params).In h₀) (T : Top p loose mean mg mb h₀) (hf : env.frame = some L) (hke : env.scope.kind = .function)
    (hH : ∀ a ∈ H, h₀.get? a = none ∧ a ≠ L) (hN : ∀ q ∈ news, s.heap.get? q.1 = some q.2 ∧ q.1 ∈ H)
    (ho : (hd.heap_1 w.params).lookup f = some ⟨oc, od, .func (fnX name qual params body scope cl dV kV doc pm an cdv ct), osl⟩) (hcd : codeIn (hd.heap_1 w.params) cdv qual = true)
    (hbind : BindsTo s (fnX name qual params body scope cl dV kV doc pm an cdv ct) args binds) (hloc : ∀ y ∈ binds, scope.names.lookup y.1 = some .local)
    (h : ∀ g L' h₁ tk₁, Keep H s.heap g → (∀ b o, g.get? b = some o → s.heap.get? b = some o) → Fr g L' h₁ (fun y => binds.reverse.lookup y) → s.heap.get? L' = none → News g L' h₁ news → Keep [] s.heap h₁ → Below (lev n (env :: outer)) base (env :: outer) g → (hd.heap_1 w.params).In g → Top p loose mean mg mb g →
      wpAny (model prog w) (dA n env outer (eX qual scope f cdv cl L')) (execs body (eX qual scope f cdv cl L')) (dQ R) (dE (model prog w) (dA n env outer (eX qual scope f cdv cl L')) (eX qual scope f cdv cl L') R)
        { s with heap := h₁, toks := tk₁ })
    (hcell : ∀ x ∈ scope.names, x.2 ≠ .cell) (hroom : (lev n (env :: outer)).depth < recursionLimit)
    (hco : scope.isCoroutine = false := by rfl) (hgen : scope.isGenerator = false := by rfl) (hk : scope.kind = .function := by rfl) : codeAny (model prog w) (lev n (env :: outer)) (.call (.ref f) args) R s := by
 refine no_implicit_lambda% ((?qf0 : @Wit ?qp0 ?qe0 → ?qp0) (wit2 ?q00 ?qh0))
 case qf0 => exact fun _ => ?qe0
 case q00 =>
  obtain ⟨FG, BG, st⟩ := ground_hide (A := lev n (env :: outer)) B F hf hke hH rfl
  refine codeAny_call_def (fd := fnX name qual params body scope cl dV kV doc pm an cdv ct) (body := body) (binds := binds) hroom (F.keep _ _ (X _ _ ho)) rfl ((T.nolimit).keeps F.keep) (codeRec_of (X.keeps F.keep) hcd) rfl hbind hcell hloc (fun h₁ hns hk₁ => ?_) hco hgen hk
  refine h _ s.heap.objs.size h₁ _ (fun b o n e => hideAll_get _ e n) (fun b o e => of_hideAll _ e) ⟨hns, fun b o e => hk₁ b o (of_hideAll _ e), Nat.le_of_eq (hideAll_size _ _)⟩ ?_
    (fun q hq => ⟨hk₁ _ _ (hN q hq).1, Nat.ne_of_lt (Heap.lt_size (hN q hq).1), hideAll_none _ (hN q hq).2⟩) (fun b o _ e => hk₁ b o e) BG (X.keeps st) (T.keeps st)
  exact Heap.get?_none_of_le (Nat.le_refl _)
 case qh0 => (try delta id oq1 oq2); exact fun h => h

end

section
variable {w : World} {p : Program} {loose : List Str} {mean : ExcName → Option Value} {mg mb : Str → Option Value}
  {A A₀ : Around} {base g h h' : Heap} {outer : List Env} {L : Addr} {m : Str → Option Value} {env : Env} {s : Shared} {n : Nat} {news : List (Addr × Obj)} {M : List Addr}

theorem frKeep (F : Fr g L h m) (hM : ∀ a ∈ M, g.get? a = none ∧ a ≠ L) (k : Keep M h h') : Fr g L h' m := by
  obtain ⟨o, es, ep, ho, r⟩ := F.ns
  exact ⟨⟨o, es, ep, k L o (fun q => (hM L q).2 rfl) ho, r⟩, fun b x e => k b x (fun q => by rw [(hM b q).1] at e; cases e) (F.keep b x e), F.above⟩
theorem newsKeep (N : News g L h news) (hd : ∀ q ∈ news, q.1 ∉ M) (k : Keep M h h') : News g L h' news :=
  fun q hq => ⟨k _ _ (hd q hq) (N q hq).1, (N q hq).2⟩
theorem newsCons {a : Addr} {o : Obj} (h1 : h.get? a = some o) (h2 : g.get? a = none) (h3 : a ≠ L) (N : News g L h news) : News g L h ((a, o) :: news) := by
  intro q hq
  rcases List.mem_cons.mp hq with rfl | hq
  · exact ⟨h1, h3, h2⟩
  · exact N q hq
theorem ne_L {a : Addr} {o : Obj} (h0 : Heap) (hL : h0.get? L = none) (e : h0.get? a = some o) : a ≠ L := fun q => by rw [q, hL] at e; cases e

theorem use_sp {f : Addr} {vs : List Value} {Post : Value → Heap → Prop} {Q E : Value → Shared → Prop} (S : Sp w p loose mean mg mb n f vs M s Post)
    (B : Below A₀ base outer g) (F : Fr g L s.heap m) (X : (hd.heap_1 w.params).In g) (T : Top p loose mean mg mb g)
    (hA : A.frames = some (env :: outer)) (hf : env.frame = some L) (hke : env.scope.kind = .function) (hh : A.handled = none) (hd : A.depth ≤ 301 + 20 * n) (hu : A.units ≤ 4 + 100 * n)
    (hM : ∀ a ∈ M, g.get? a = none ∧ a ≠ L)
    (hQ : ∀ v h' tk', Keep M s.heap h' → Fr g L h' m → Post v h' → Q v { s with heap := h', toks := tk' }) : wpAny (model Pg w) A (call (.ref f) vs) Q E s := by
  refine wpAny_call (code_lev (A' := lev n (env :: outer)) (S A₀ base g env outer L m _ B F X T hf hke hM fun v h' tk' k q => ?_) hh hd hA.symm rfl hu)
  exact hQ v h' tk' k (frKeep F hM k) q
end

theorem call_eq {M : Model} {A : Around} {f f' : Value} {vs vs' : List Value} {Q E : Value → Shared → Prop} {s : Shared} (a : f = f') (b : vs = vs') (h : wpAny M A (call f' vs') Q E s) : wpAny M A (call f vs) Q E s := by
  subst a b
  exact h
def Stop (P : Prop) : Prop := P
theorem Stop.out {P : Prop} (h : Stop P) : P := h
theorem Stop.in {P : Prop} (h : P) : Stop P := h

def rare : List Str := ["map_number", "umin", "mask", "kinds", "cells", "slots"]
def isImm : Obj → Bool
  | ⟨.ref _, _, .plain, _⟩ => true
  | ⟨.type "tuple", _, .seq _ _, _⟩ => true
  | ⟨.type "dict", _, .dict es _, _⟩ => es.toList.any fun e => rare.any fun x => e.key.isStr x
  | _ => false
def KeepI (h h' : Heap) : Prop := ∀ b o, h.get? b = some o → isImm o = true → h'.get? b = some o
theorem Keep.keepI {M : List Addr} {h h' : Heap} (k : Keep M h h') (hM : ∀ a ∈ M, ∀ o, h.get? a = some o → isImm o = false) : KeepI h h' := fun b o e i =>
  k b o (fun q => by rw [hM b q o e] at i; cases i) e
theorem KeepI.refl (h : Heap) : KeepI h h := fun _ _ e _ => e
theorem KeepI.trans {h₁ h₂ h₃ : Heap} (x : KeepI h₁ h₂) (y : KeepI h₂ h₃) : KeepI h₁ h₃ := fun b o e i => y b o (x b o e i) i
theorem KeepI.of {h h' : Heap} (x : ∀ b o, h.get? b = some o → h'.get? b = some o) : KeepI h h' := fun b o e _ => x b o e
theorem imm_list {h : Heap} {l : Addr} {its : Array Value} (x : h.IsList l its) : ∀ o, h.get? l = some o → isImm o = false := by
 refine no_implicit_lambda% ((?qf0 : @Wit ?qp0 ?qe0 → ?qp0) (wit2 ?q00 ?qh0))
 case qf0 => exact fun _ => ?qe0
 case q00 =>
  intro o e
  obtain ⟨⟨c, d, dt, sl⟩, ho, hc, n, hd⟩ := x
  rw [ho] at e
  cases e
  (try dsimp only at hc hd)
  subst hc hd
  rfl
 case qh0 => (try delta id oq1 oq2); exact fun h => h

theorem imm_keys {c : Value} {d : Option Addr} {es : Array DictEntry} {ep : Nat} {sl : Array (Option Value)} (h : ∀ e ∈ es.toList, ∀ x ∈ rare, e.key.isStr x = false) : isImm ⟨c, d, .dict es ep, sl⟩ = false := by
 refine no_implicit_lambda% ((?qf0 : @Wit ?qp0 ?qe0 → ?qp0) (wit2 ?q00 ?qh0))
 case qf0 => exact fun _ => ?qe0
 case q00 =>
  unfold isImm
  split
  · rename_i q; cases q
  · rename_i q; cases q
  · rename_i q
    cases q
    refine Bool.eq_false_iff.mpr fun z => ?_
    obtain ⟨e, he, z⟩ := List.any_eq_true.mp z
    obtain ⟨x, hx, z⟩ := List.any_eq_true.mp z
    rw [h e he x hx] at z
    cases z
  · rfl
 case qh0 => (try delta id oq1 oq2); exact fun h => h

theorem imm_dict {w : World} {h : Heap} {d : Addr} {kvs : List (Int × Value)} (x : h.DictOf (intKind Pg w) d kvs) : ∀ o, h.get? d = some o → isImm o = false := by
 refine no_implicit_lambda% ((?qf0 : @Wit ?qp0 ?qe0 → ?qp0) (wit2 ?q00 ?qh0))
 case qf0 => exact fun _ => ?qe0
 case q00 =>
  intro o e
  obtain ⟨⟨c, dd, dt, sl⟩, es, ep, ho, hc, hd, hk, _⟩ := x
  rw [ho] at e
  cases e
  obtain ⟨c1, c2, c3⟩ := hc
  (try dsimp only at c1 c2 c3 hd)
  subst c1 c2 c3 hd
  refine imm_keys fun e he x _ => ?_
  obtain ⟨k, hk, _⟩ := hk e (Array.mem_toList_iff.mp he)
  obtain ⟨t, ht⟩ := Value.isInt_shape (show Value.isInt k e.key = true from hk)
  rw [ht]
  rfl
 case qh0 => (try delta id oq1 oq2); exact fun h => h

theorem imm_ns {h : Heap} {L : Addr} {m : Str → Option Value} (N : h.Ns L m) (hr : ∀ x ∈ rare, m x = none) : ∀ o, h.get? L = some o → isImm o = false := by
 refine no_implicit_lambda% ((?qf0 : @Wit ?qp0 ?qe0 → ?qp0) (wit2 ?q00 ?qh0))
 case qf0 => exact fun _ => ?qe0
 case q00 =>
  intro o e
  obtain ⟨⟨c, dd, dt, sl⟩, es, ep, ho, hd, hs, hf⟩ := N
  rw [ho] at e
  cases e
  (try dsimp only at hd)
  subst hd
  refine imm_keys fun e he x hx => ?_
  cases q : e.key.isStr x with
  | false => rfl
  | true =>
    have z := hf x
    rw [hr x hx] at z
    unfold nsFind findBy at z
    rw [Option.map_eq_none_iff, Array.find?_eq_none] at z
    exact absurd q (z e (Array.mem_toList_iff.mp he))
 case qh0 => (try delta id oq1 oq2); exact fun h => h

noncomputable def fullBut (g : Heap) (L : Addr) (h : Heap) (ex : List Addr) : List (Addr × Obj) :=
  (List.range h.objs.size).filterMap fun a => match h.get? a with
    | some o => if (g.get? a).isNone = true ∧ a ≠ L ∧ a ∉ ex then some (a, o) else none
    | none => none
theorem fullBut_mem {g h : Heap} {L : Addr} {ex : List Addr} {q : Addr × Obj} : q ∈ fullBut g L h ex ↔ h.get? q.1 = some q.2 ∧ g.get? q.1 = none ∧ q.1 ≠ L ∧ q.1 ∉ ex := by
 refine no_implicit_lambda% ((?qf0 : @Wit ?qp0 ?qe0 → ?qp0) (wit2 ?q00 ?qh0))
 case qf0 => exact fun _ => ?qe0
 case q00 =>
  unfold fullBut
  rw [List.mem_filterMap]
  constructor
  · intro rq0
    obtain ⟨a, _, ha⟩ := rq0
    split at ha
    · rename_i o ho
      split at ha
      · rename_i c
        cases ha
        exact ⟨ho, by simpa using c.1, c.2⟩
      · cases ha
    · cases ha
  · intro rq0
    obtain ⟨h1, h2, h3, h4⟩ := rq0
    refine ⟨q.1, List.mem_range.mpr (Heap.lt_size h1), ?_⟩
    rw [h1]
    (try dsimp only)
    rw [if_pos ⟨by simp [h2], h3, h4⟩]
 case qh0 => (try delta id oq1 oq2); exact fun h => h

theorem fullBut_ne {g h : Heap} {L d : Addr} {ex : List Addr} (hd : d ∈ ex) : ∀ q ∈ fullBut g L h ex, q.1 ≠ d := fun q hq e => (fullBut_mem.mp hq).2.2.2 (by rw [e]; exact hd)
theorem newsFull {g h : Heap} {L : Addr} {news : List (Addr × Obj)} (ex : List Addr) (N : News g L h news) : News g L h (news ++ fullBut g L h ex) := by
  intro q hq
  rcases List.mem_append.mp hq with hq | hq
  · exact N q hq
  · have z := fullBut_mem.mp hq
    exact ⟨z.1, z.2.2.1, z.2.1⟩
theorem keepFull {g h h₂ : Heap} {L : Addr} {m₂ : Str → Option Value} {ex : List Addr} {news : List (Addr × Obj)} (F₂ : Fr g L h₂ m₂) (hg : ∀ b o, g.get? b = some o → h.get? b = some o) (N₂ : News g L h₂ news) (hs : ∀ q ∈ fullBut g L h ex, q ∈ news) : Keep (L :: ex) h h₂ := by
  intro b o hb e
  rw [List.mem_cons, not_or] at hb
  cases q : g.get? b with
  | some o' =>
    have := hg b o' q
    rw [e] at this
    cases this
    exact F₂.keep b o q
  | none => exact (N₂ (b, o) (hs _ (fullBut_mem.mpr ⟨e, q, hb.1, hb.2⟩))).1
theorem keepIFull {g h h₂ : Heap} {L : Addr} {m m₂ : Str → Option Value} {ex : List Addr} {news : List (Addr × Obj)} (F : Fr g L h m) (hr : ∀ x ∈ rare, m x = none) (hx : ∀ a ∈ ex, ∀ o, h.get? a = some o → isImm o = false)
    (F₂ : Fr g L h₂ m₂) (N₂ : News g L h₂ news) (hs : ∀ q ∈ fullBut g L h ex, q ∈ news) : KeepI h h₂ :=
  (keepFull F₂ F.keep N₂ hs).keepI fun a ha => by
    rcases List.mem_cons.mp ha with rfl | ha
    · exact imm_ns F.ns hr
    · exact hx a ha

inductive Pre : List (Addr × Obj) → List (Addr × Obj) → Prop
  | nil : Pre [] []
  | tail {g : Heap} {L : Addr} {h : Heap} {ex : List Addr} : Pre (fullBut g L h ex) []
  | cons {q : Addr × Obj} {r es : List (Addr × Obj)} : Pre r es → Pre (q :: r) (q :: es)
theorem Pre.sub {news es : List (Addr × Obj)} (p : Pre news es) : ∀ q ∈ es, q ∈ news := by
  induction p with
  | nil => exact fun _ h => h
  | tail => exact fun _ h => nomatch h
  | cons _ ih => exact fun q h => (List.mem_cons.mp h).elim (fun e => List.mem_cons.mpr (.inl e)) fun h => List.mem_cons.mpr (.inr (ih q h))
theorem newsPre {g h h' : Heap} {L : Addr} {M : List Addr} {news es : List (Addr × Obj)} (N : News g L h news) (p : Pre news es) (k : Keep M h h') (hd : ∀ q ∈ es, q.1 ∉ M) : News g L h' (es ++ fullBut g L h' (es.map (·.1))) :=
  newsFull _ (newsKeep (fun q hq => N q (p.sub q hq)) hd k)
theorem sub_tail {g : Heap} {L : Addr} {h : Heap} {ex : List Addr} : ∀ q ∈ fullBut g L h ex, q ∈ fullBut g L h ex := fun _ h => h
theorem sub_cons {l r : List (Addr × Obj)} {x : Addr × Obj} (s : ∀ q ∈ l, q ∈ r) : ∀ q ∈ l, q ∈ x :: r := fun q h => .tail _ (s q h)
end
section
theorem kg2 : True := trivial
abbrev ent (P : Params) (x : Str) (t : Tok) (v : Value) : DictEntry := ⟨PyData.keyHash P x, .str x t, v⟩
abbrev tupObj (vs : List Value) : Obj := { cls := .type "tuple", data := .seq vs.toArray }

structure TnumAt (P : Params) (h : Heap) (a : Addr) (value mask : Int) : Prop where
  ex : ∃ d t1 t2 u1 u2, h.get? a = some (instObj 197 d) ∧ h.get? d = some (dictOf [ent P "value" t1 (.int value u1), ent P "mask" t2 (.int mask u2)] 2)
theorem TnumAt.keepI {P : Params} {h h' : Heap} {a : Addr} {v m : Int} (x : TnumAt P h a v m) (k : KeepI h h') : TnumAt P h' a v m := by
  obtain ⟨d, t1, t2, u1, u2, e1, e2⟩ := x
  exact ⟨d, t1, t2, u1, u2, k _ _ e1 rfl, k _ _ e2 rfl⟩

structure ScalarAt (P : Params) (h : Heap) (a : Addr) (value mask : Int) : Prop where
  ex : ∃ d b t0 t1 t2 t3 t4 t5 t6 t7 t8 v1 v2 v3 v4 v5 v6 v7 v8, h.get? a = some (instObj 310 d) ∧
    h.get? d = some (dictOf [ent P "bits" t0 (.ref b), ent P "umin" t1 v1, ent P "umax" t2 v2, ent P "smin" t3 v3, ent P "smax" t4 v4, ent P "umin32" t5 v5, ent P "umax32" t6 v6, ent P "smin32" t7 v7, ent P "smax32" t8 v8] 9) ∧
    TnumAt P h b value mask
theorem ScalarAt.keepI {P : Params} {h h' : Heap} {a : Addr} {v m : Int} (x : ScalarAt P h a v m) (k : KeepI h h') : ScalarAt P h' a v m := by
  obtain ⟨d, b, t0, t1, t2, t3, t4, t5, t6, t7, t8, v1, v2, v3, v4, v5, v6, v7, v8, e1, e2, e3⟩ := x
  exact ⟨d, b, t0, t1, t2, t3, t4, t5, t6, t7, t8, v1, v2, v3, v4, v5, v6, v7, v8, k _ _ e1 rfl, k _ _ e2 rfl, e3.keepI k⟩

structure RF where
  kind : Str
  off : Int
  number : Int
  mapn : Int
  frame : Int
  value : Int
  mask : Int

structure RegAt (P : Params) (h : Heap) (a : Addr) (r : RF) : Prop where
  ex : ∃ d sc t0 t1 t2 t3 t4 t5 t6 t7 u0 u1 u3 u4 u7 v5 v6, h.get? a = some (instObj 339 d) ∧
    h.get? d = some (dictOf [ent P "kind" t0 (.str r.kind u0), ent P "off" t1 (.int r.off u1), ent P "scalar" t2 (.ref sc), ent P "number" t3 (.int r.number u3), ent P "map_number" t4 (.int r.mapn u4), ent P "reach" t5 v5, ent P "room" t6 v6, ent P "frame" t7 (.int r.frame u7)] 8) ∧
    ScalarAt P h sc r.value r.mask
theorem RegAt.keepI {P : Params} {h h' : Heap} {a : Addr} {r : RF} (x : RegAt P h a r) (k : KeepI h h') : RegAt P h' a r := by
  obtain ⟨d, sc, t0, t1, t2, t3, t4, t5, t6, t7, u0, u1, u3, u4, u7, v5, v6, e1, e2, e3⟩ := x
  exact ⟨d, sc, t0, t1, t2, t3, t4, t5, t6, t7, u0, u1, u3, u4, u7, v5, v6, k _ _ e1 rfl, k _ _ e2 rfl, e3.keepI k⟩

inductive W where
  | num (n : Int)
  | any
  | stack (f off : Int)
  | none
  | room (r : Int)
  | value
  | ctx
  deriving DecidableEq

inductive W.Vals : W → List Value → Prop
  | num (n : Int) (t u : Tok) : W.Vals (.num n) [.str "number" t, .int n u]
  | any (t u : Tok) : W.Vals .any [.str "any" t, .int 0 u]
  | stack (f o : Int) (t u v : Tok) : W.Vals (.stack f o) [.str "stack" t, .int f u, .int o v]
  | none (t : Tok) : W.Vals .none [.str "none" t]
  | room (r : Int) (t u : Tok) : W.Vals (.room r) [.str "room" t, .int r u]
  | value (t u : Tok) : W.Vals .value [.str "value" t, .int 3 u]
  | ctx (t : Tok) : W.Vals .ctx [.str "context" t]

inductive W.Fits : W → RF → Prop
  | num (n o mp fr : Int) : W.Fits (.num n) ⟨"scalar", o, 0, mp, fr, n, 0⟩
  | any (o mp fr v : Int) : W.Fits .any ⟨"scalar", o, 0, mp, fr, v, 18446744073709551615⟩
  | stack (f o n mp v m : Int) : W.Fits (.stack f o) ⟨"stack", o, n, mp, f, v, m⟩
  | none (o n mp f v m : Int) : W.Fits .none ⟨"none", o, n, mp, f, v, m⟩
  | room (r o mp f v m : Int) : W.Fits (.room r) ⟨"room", o, r, mp, f, v, m⟩
  | value (o n f v m : Int) : W.Fits .value ⟨"value", o, n, 3, f, v, m⟩
  | ctx (o n mp f v m : Int) : W.Fits .ctx ⟨"context", o, n, mp, f, v, m⟩

def WordAt (h : Heap) (t : Addr) (x : W) : Prop := ∃ vs, h.get? t = some (tupObj vs) ∧ x.Vals vs
theorem WordAt.keepI {h h' : Heap} {t : Addr} {x : W} (z : WordAt h t x) (k : KeepI h h') : WordAt h' t x := let ⟨vs, e, v⟩ := z; ⟨vs, k _ _ e rfl, v⟩
def RegW (P : Params) (h : Heap) (a : Addr) (x : W) : Prop := ∃ r, RegAt P h a r ∧ x.Fits r
theorem RegW.keepI {P : Params} {h h' : Heap} {a : Addr} {x : W} (z : RegW P h a x) (k : KeepI h h') : RegW P h' a x := let ⟨r, e, v⟩ := z; ⟨r, e.keepI k, v⟩

theorem inst_base {g h : Heap} {L x C dx : Addr} {m : Str → Option Value} {od : Obj} (F : Fr g L h m) (h1 : g.get? x = some (instObj C dx)) (h2 : g.get? dx = some od) : InstAt h x (instObj C dx) C (some od) :=
  ⟨F.keep _ _ h1, rfl, rfl, F.keep _ _ h2⟩
end
section
theorem kg3 : True := trivial
theorem fillK : (fun (_ : OpenLaw) (_ : Params → Frag) => True) PySem.Challenge.rw_ok0174_01 hd.heap_1 := by k_fill; trivial
/- enter a def by its contract, nothing hidden -/
theorem keep_end {s : Heap} {g h : Heap} {L : Addr} {m : Str → Option Value} {M : List Addr} (k : Keep M s g) (F : Fr g L h m) : Keep M s h := k.trans (Keep.of M F.keep)
theorem fresh_of {s g h : Heap} {L : Addr} {news : List (Addr × Obj)} {M : List Addr} (k : Keep M s g) (N : News g L h news) {a : Addr} {o : Obj} (hm : (a, o) ∈ news) (hM : a ∉ M) : s.get? a = none := by
  cases q : s.get? a with
  | none => rfl
  | some o' => have := k _ _ hM q; rw [(N _ hm).2.2] at this; cases this
theorem end_word {s g h : Heap} {L D : Addr} {m : Str → Option Value} {news : List (Addr × Obj)} {vs : List Value} {x : W} (k : Keep [] s g) (_F : Fr g L h m) (N : News g L h ((D, tupObj vs) :: news)) (hv : x.Vals vs) :
    ∃ t, Value.ref D = .ref t ∧ s.get? t = none ∧ WordAt h t x := ⟨D, rfl, fresh_of k N (.head _) (by simp), vs, (N _ (.head _)).1, hv⟩

section
variable {w : World} {p : Program} {loose : List Str} {mean : ExcName → Option Value} {mg mb : Str → Option Value}
theorem kg4 : True := by
  k_with "Z4K_k_room" => (exact Nat.le_of_ble_eq_true rfl)
  k_with "Z4K_k_inst" => (case' zzhy => (refine' inst_base ?zzF ?zzh1 ?zzh2; (case zzF => k_asm); (case zzh1 => assumption); (case zzh2 => assumption)))
  k_with "Z4ENTER0" => case' zzhy => (
  k_dflt (refine' enter (H := []) (news := []) ?zzeB ?zzeF ?zzeX ?zzeT ?zzef ?zzek (fun zza zzha => nomatch zzha) (fun zzq hq => nomatch hq) ?zzho ?zzhcd ?zzhb ?zzhl ?_ ?zzhc ?zzhr ?zzc1 ?zzc2 ?zzc3)
  case zzeB => assumption
  case zzeF => assumption
  case zzeX => assumption
  case zzeT => assumption
  case zzef => assumption
  case zzek => assumption
  case zzho => k_is
  case zzhcd => k_is
  case zzhb => exact BindsTo.of_eq rfl
  case zzhl => exact locs rfl
  case zzhc => decide
  case zzhr => exact Nat.le_of_ble_eq_true rfl
  case zzc1 => exact rfl
  case zzc2 => exact rfl
  case zzc3 => exact rfl)
  trivial
theorem told_sp {s : Shared} {a : Addr} {x : W} (hr : RegW w.params s.heap a x) : Sp w p loose mean mg mb 20 721 [.ref a] [] s (fun v h => ∃ t, v = .ref t ∧ s.heap.get? t = none ∧ WordAt h t x) := by
 refine no_implicit_lambda% ((?qf0 : @Wit ?qp0 ?qe0 → ?qp0) (wit2 ?q00 ?qh0))
 case qf0 => exact fun _ => ?qe0
 case q00 =>
  intro A₀ base h₀ env outer L m R B F X T hf hke hM hret
  k_dflt (refine' enter (H := []) (news := []) (binds := [(Str.ofString "reg", .ref a)]) B F X T hf hke (fun a ha => nomatch ha) (fun q hq => nomatch hq) ?ho ?hcd ?hb ?hl ?_ ?hc ?hr ?c1 ?c2 ?c3)
  case ho => k_is
  case hcd => k_is
  case hb => exact BindsTo.of_eq rfl
  case hl => exact locs rfl
  case hc => decide
  case hr => exact Nat.le_of_ble_eq_true rfl
  case c1 => exact rfl
  case c2 => exact rfl
  case c3 => exact rfl
  intro g L' h₁ tk₁ hkeep hback F' hL' N' hk1 B' X' T'
  clear B F X T hk1
  obtain ⟨r, ⟨⟨d, sc, t0, t1, t2, t3, t4, t5, t6, t7, u0, u1, u3, u4, u7, v5, v6, e1, e2, ⟨d', b, t0', t1', t2', t3', t4', t5', t6', t7', t8', v1, v2, v3, v4, v5', v6', v7, v8, e3, e4, ⟨bd, t1'', t2'', u1', u2', e5, e6⟩⟩⟩⟩, fit⟩ := hr
  replace e1 := hkeep.all e1
  replace e2 := hkeep.all e2
  replace e3 := hkeep.all e3
  replace e4 := hkeep.all e4
  replace e5 := hkeep.all e5
  replace e6 := hkeep.all e6
  cases fit
  all_goals (
    ((try dsimp only at e2 e6))
    (try dsimp only)
    (try k_fold)
    k_steps)
  all_goals (refine hret _ _ _ (keep_end hkeep (by assumption)) ?_; refine end_word hkeep (by assumption) (by assumption) (by constructor))
 case qh0 => (try delta id oq1 oq2); exact fun h => h

end
end
section
theorem kg5 : True := trivial
theorem tup_base {g h : Heap} {L t : Addr} {m : Str → Option Value} {vs : List Value} (F : Fr g L h m) (h1 : g.get? t = some (tupObj vs)) : IsTup h t vs.toArray := ⟨_, F.keep _ _ h1, rfl, 0, rfl⟩
theorem endI {x y : Int} {t : Tok} (h : x = y) : ∃ u, Value.int x t = Value.int y u := ⟨t, by rw [h]⟩
theorem and_mask (n : Int) (k : Nat) (h0 : 0 ≤ n) (h1 : n < 500) (hk : 9 ≤ k) : Builtin.bitAnd n (2 ^ k - 1) = n := by
  have h2 : (2 : Int) ^ k = ((2 ^ k : Nat) : Int) := by simp
  have h3 : 512 ≤ 2 ^ k := Nat.le_trans (by decide : 512 ≤ 2 ^ 9) (Nat.pow_le_pow_right (by decide) hk)
  have h4 : (0 : Int) ≤ 2 ^ k - 1 := by omega
  rw [bitAnd_pp h0 h4]
  have h5 : ((2 : Int) ^ k - 1).toNat = 2 ^ k - 1 := by omega
  rw [h5, Nat.and_two_pow_sub_one_eq_mod, Nat.mod_eq_of_lt (by omega)]
  omega
theorem and64 {n : Int} (h0 : 0 ≤ n) (h1 : n < 500) : Builtin.bitAnd n (1 * 2 ^ Int.toNat 64 - 1) = n := by
  rw [Int.one_mul]; exact and_mask n 64 h0 h1 (by decide)
theorem and32 {n : Int} (h0 : 0 ≤ n) (h1 : n < 500) : Builtin.bitAnd n (1 * 2 ^ Int.toNat 32 - 1) = n := by
  rw [Int.one_mul]; exact and_mask n 32 h0 h1 (by decide)
theorem fdiv63 {n : Int} (h0 : 0 ≤ n) (h1 : n < 500) : n.fdiv (2 ^ (64 - 1 : Int).toNat) = 0 := by
  rw [Int.fdiv_eq_ediv_of_nonneg _ (by decide)]; exact Int.ediv_eq_zero_of_lt h0 (Int.lt_trans h1 (by decide))
theorem fdiv31 {n : Int} (h0 : 0 ≤ n) (h1 : n < 500) : n.fdiv (2 ^ (32 - 1 : Int).toNat) = 0 := by
  rw [Int.fdiv_eq_ediv_of_nonneg _ (by decide)]; exact Int.ediv_eq_zero_of_lt h0 (Int.lt_trans h1 (by decide))
def Made (s h : Heap) (φ : Heap → Prop) : Prop := ∀ h2 : Heap, (∀ b o, s.get? b = none → h.get? b = some o → h2.get? b = some o) → φ h2
theorem Made.here {s h : Heap} {φ : Heap → Prop} (x : Made s h φ) : φ h := x h fun _ _ _ e => e
theorem Made.keep {s h h' : Heap} {φ : Heap → Prop} (x : Made s h φ) (k : ∀ b o, s.get? b = none → h.get? b = some o → h'.get? b = some o) : Made s h' φ := fun h2 k2 => x h2 fun b o q e => k2 b o q (k b o q e)
def ScalarNew (P : Params) (s h : Heap) (a : Addr) (n m : Int) : Prop := ∃ d od b ob bd obd, (s.get? a = none ∧ h.get? a = some (instObj 310 d)) ∧ (s.get? d = none ∧ h.get? d = some od) ∧ (s.get? b = none ∧ h.get? b = some ob) ∧ (s.get? bd = none ∧ h.get? bd = some obd) ∧
  ∀ h2 : Heap, h2.get? a = some (instObj 310 d) → h2.get? d = some od → h2.get? b = some ob → h2.get? bd = some obd → ScalarAt P h2 a n m
theorem end_scalar {P : Params} {s g h : Heap} {L a d b bd : Addr} {news : List (Addr × Obj)} {n m : Int} {t0 t1 t2 t3 t4 t5 t6 t7 t8 t9 ta u1 u2 : Tok} {v1 v2 v3 v4 v5 v6 v7 v8 : Value} (k : Keep [] s g) (N : News g L h news)
    (m1 : (a, instObj 310 d) ∈ news) (m2 : (d, dictOf [ent P "bits" t0 (.ref b), ent P "umin" t1 v1, ent P "umax" t2 v2, ent P "smin" t3 v3, ent P "smax" t4 v4, ent P "umin32" t5 v5, ent P "umax32" t6 v6, ent P "smin32" t7 v7, ent P "smax32" t8 v8] 9) ∈ news)
    (m3 : (b, instObj 197 bd) ∈ news) (m4 : (bd, dictOf [ent P "value" t9 (.int n u1), ent P "mask" ta (.int m u2)] 2) ∈ news) :
    ∃ a', Value.ref a = .ref a' ∧ ScalarNew P s h a' n m :=
  ⟨a, rfl, d, _, b, _, bd, _, ⟨fresh_of k N m1 (by simp), (N _ m1).1⟩, ⟨fresh_of k N m2 (by simp), (N _ m2).1⟩, ⟨fresh_of k N m3 (by simp), (N _ m3).1⟩, ⟨fresh_of k N m4 (by simp), (N _ m4).1⟩,
    fun _ e1 e2 e3 e4 => ⟨d, b, t0, t1, t2, t3, t4, t5, t6, t7, t8, v1, v2, v3, v4, v5, v6, v7, v8, e1, e2, ⟨bd, t9, ta, u1, u2, e3, e4⟩⟩⟩
def AllNe (d : Addr) : List (Addr × Obj) → Prop
  | [] => True
  | p :: r => @Ne Nat p.1 d ∧ AllNe d r
def AllNes (news : List (Addr × Obj)) : List (Addr × Obj) → Prop
  | [] => True
  | p :: r => AllNe p.1 news ∧ AllNes news r
theorem allNe_of {h : Heap} {d : Addr} (f : h.get? d = none) : ∀ {news : List (Addr × Obj)}, (∀ p ∈ news, h.get? p.1 = some p.2) → AllNe d news
  | [], _ => trivial
  | p :: _, N => ⟨fun e => (by have z := N p (.head _); rw [show p.1 = d from e, f] at z; cases z), allNe_of f fun q hq => N q (.tail _ hq)⟩
theorem allNes_of {h : Heap} {news : List (Addr × Obj)} (N : ∀ p ∈ news, h.get? p.1 = some p.2) : ∀ {nw : List (Addr × Obj)}, (∀ p ∈ nw, h.get? p.1 = none) → AllNes news nw
  | [], _ => trivial
  | p :: _, f => ⟨allNe_of (f p (.head _)) N, allNes_of N fun q hq => f q (.tail _ hq)⟩
theorem newsFreshes {g s h : Heap} {L : Addr} {m : Str → Option Value} {news : List (Addr × Obj)} (nw : List (Addr × Obj)) (F : Fr g L s m) (N : News g L s news) (k : Keep [] s h) (f : ∀ p ∈ nw, s.get? p.1 = none ∧ h.get? p.1 = some p.2) :
    News g L h (nw ++ news) ∧ AllNes news nw := by
 refine no_implicit_lambda% ((?qf0 : @Wit ?qp0 ?qe0 → ?qp0) (wit2 ?q00 ?qh0))
 case qf0 => exact fun _ => ?qe0
 case q00 =>
  refine ⟨fun q hq => ?_, allNes_of (fun p hp => (N p hp).1) fun p hp => (f p hp).1⟩
  rcases List.mem_append.mp hq with hq | hq
  · refine ⟨(f q hq).2, ?_, ?_⟩
    · intro e
      obtain ⟨oL, _, _, ho, _⟩ := F.ns
      rw [← e, (f q hq).1] at ho
      cases ho
    · cases z : g.get? q.1 with
      | none => rfl
      | some o' => have := F.keep _ _ z; rw [(f q hq).1] at this; cases this
  · exact newsKeep N (fun _ _ => List.not_mem_nil) k q hq
 case qh0 => (try delta id oq1 oq2); exact fun h => h

section
variable {w : World} {p : Program} {loose : List Str} {mean : ExcName → Option Value} {mg mb : Str → Option Value}
theorem kg6 : True := by
  k_with "Z6K_k_room" => (exact Nat.le_of_ble_eq_true rfl)
  k_with "Z6K_k_inst" => (case' zzhy => (refine' inst_base ?zzF ?zzh1 ?zzh2; (case zzF => k_asm); (case zzh1 => assumption); (case zzh2 => assumption)))
  k_with "Z6subscriptTail" => (k_here; (with_reducible show wpAny _ _ (subscriptTail _ _ (Value.ref _) (Value.int _ _)) _ _ _); case' zzhy => (k_dflt (refine' item_tupleT ?zzt ?zza ?zzb ?zzc ?zzd ?_; (case zzt => exact tup_base (by k_asm) (by assumption)); (case zza => decide); (case zzb => decide); (case zzc => rfl); (case zzd => rfl); k_whole)))
  k_with "Z6MEM" => (repeat (first | exact List.Mem.head _ | apply List.Mem.tail))
  trivial
theorem wrap_sp {s : Shared} {n : Int} {t : Tok} (h0 : 0 ≤ n) (h1 : n < 500) : Sp w p loose mean mg mb 29 69 [.int n t] [] s (fun v h => ∃ u, v = .int n u) := by
 refine no_implicit_lambda% ((?qf0 : @Wit ?qp0 ?qe0 → ?qp0) (wit2 ?q00 ?qh0))
 case qf0 => exact fun _ => ?qe0
 case q00 =>
  intro A₀ base h₀ env outer L m R B F X T hf hke hM hret
  k_dflt (refine' enter (H := []) (news := [])  B F X T hf hke (fun a ha => nomatch ha) (fun q hq => nomatch hq) ?ho ?hcd ?hb ?hl ?_ ?hc ?hr ?c1 ?c2 ?c3)
  case ho => k_is
  case hcd => k_is
  case hb => exact binds_K (X.keeps F.keep) rfl (by k_is) rfl rfl rfl
  case hl => exact locs rfl
  case hc => decide
  case hr => exact Nat.le_of_ble_eq_true rfl
  case c1 => exact rfl
  case c2 => exact rfl
  case c3 => exact rfl
  intro g L' h₁ tk₁ hkeep hback F' hL' N' hk1 B' X' T'
  clear B F X T
  (try dsimp only)
  (try k_fold)
  k_steps
  (try dsimp only)
  refine hret _ _ _ (keep_end hkeep F') (endI (and64 h0 h1))
 case qh0 => (try delta id oq1 oq2); exact fun h => h

theorem wrap32_sp {s : Shared} {n : Int} {t t' : Tok} (h0 : 0 ≤ n) (h1 : n < 500) : Sp w p loose mean mg mb 29 69 [.int n t, .int 32 t'] [] s (fun v h => ∃ u, v = .int n u) := by
 refine no_implicit_lambda% ((?qf0 : @Wit ?qp0 ?qe0 → ?qp0) (wit2 ?q00 ?qh0))
 case qf0 => exact fun _ => ?qe0
 case q00 =>
  intro A₀ base h₀ env outer L m R B F X T hf hke hM hret
  k_dflt (refine' enter (H := []) (news := [])  B F X T hf hke (fun a ha => nomatch ha) (fun q hq => nomatch hq) ?ho ?hcd ?hb ?hl ?_ ?hc ?hr ?c1 ?c2 ?c3)
  case ho => k_is
  case hcd => k_is
  case hb => exact binds_K (X.keeps F.keep) rfl (by k_is) rfl rfl rfl
  case hl => exact locs rfl
  case hc => decide
  case hr => exact Nat.le_of_ble_eq_true rfl
  case c1 => exact rfl
  case c2 => exact rfl
  case c3 => exact rfl
  intro g L' h₁ tk₁ hkeep hback F' hL' N' hk1 B' X' T'
  clear B F X T
  (try dsimp only)
  (try k_fold)
  k_steps
  (try dsimp only)
  refine hret _ _ _ (keep_end hkeep F') (endI (and32 h0 h1))
 case qh0 => (try delta id oq1 oq2); exact fun h => h

theorem signed_sp {s : Shared} {n : Int} {t : Tok} (h0 : 0 ≤ n) (h1 : n < 500) : Sp w p loose mean mg mb 29 77 [.int n t] [] s (fun v h => ∃ u, v = .int n u) := by
 refine no_implicit_lambda% ((?qf0 : @Wit ?qp0 ?qe0 → ?qp0) (wit2 ?q00 ?qh0))
 case qf0 => exact fun _ => ?qe0
 case q00 =>
  intro A₀ base h₀ env outer L m R B F X T hf hke hM hret
  k_dflt (refine' enter (H := []) (news := [])  B F X T hf hke (fun a ha => nomatch ha) (fun q hq => nomatch hq) ?ho ?hcd ?hb ?hl ?_ ?hc ?hr ?c1 ?c2 ?c3)
  case ho => k_is
  case hcd => k_is
  case hb => exact binds_K (X.keeps F.keep) rfl (by k_is) rfl rfl rfl
  case hl => exact locs rfl
  case hc => decide
  case hr => exact Nat.le_of_ble_eq_true rfl
  case c1 => exact rfl
  case c2 => exact rfl
  case c3 => exact rfl
  intro g L' h₁ tk₁ hkeep hback F' hL' N' hk1 B' X' T'
  clear B F X T
  (try dsimp only)
  (try k_fold)
  k_steps
  · rename_i z
    rw [and64 h0 h1, fdiv63 h0 h1] at z
    exact absurd rfl z
  · (try dsimp only)
    refine hret _ _ _ (keep_end hkeep (by assumption)) (endI (and64 h0 h1))
 case qh0 => (try delta id oq1 oq2); exact fun h => h

theorem signed32_sp {s : Shared} {n : Int} {t t' : Tok} (h0 : 0 ≤ n) (h1 : n < 500) : Sp w p loose mean mg mb 29 77 [.int n t, .int 32 t'] [] s (fun v h => ∃ u, v = .int n u) := by
 refine no_implicit_lambda% ((?qf0 : @Wit ?qp0 ?qe0 → ?qp0) (wit2 ?q00 ?qh0))
 case qf0 => exact fun _ => ?qe0
 case q00 =>
  intro A₀ base h₀ env outer L m R B F X T hf hke hM hret
  k_dflt (refine' enter (H := []) (news := [])  B F X T hf hke (fun a ha => nomatch ha) (fun q hq => nomatch hq) ?ho ?hcd ?hb ?hl ?_ ?hc ?hr ?c1 ?c2 ?c3)
  case ho => k_is
  case hcd => k_is
  case hb => exact binds_K (X.keeps F.keep) rfl (by k_is) rfl rfl rfl
  case hl => exact locs rfl
  case hc => decide
  case hr => exact Nat.le_of_ble_eq_true rfl
  case c1 => exact rfl
  case c2 => exact rfl
  case c3 => exact rfl
  intro g L' h₁ tk₁ hkeep hback F' hL' N' hk1 B' X' T'
  clear B F X T
  (try dsimp only)
  (try k_fold)
  k_steps
  · rename_i z
    rw [and32 h0 h1, fdiv31 h0 h1] at z
    exact absurd rfl z
  · (try dsimp only)
    refine hret _ _ _ (keep_end hkeep (by assumption)) (endI (and32 h0 h1))
 case qh0 => (try delta id oq1 oq2); exact fun h => h

theorem kx1 : True := by
  k_with "Z6call ref cons nil" => (case' zzhy => ((with_reducible_and_instances show wpAny _ _ (call (Value.ref 69) [Value.int _ _]) _ _ _); k_dflt (refine' use_sp (wrap_sp ?zzp0 ?zzp1) ?zzuB ?zzuF ?zzuX ?zzuT ?zzuA ?zzuf ?zzuk ?zzuh ?zzud ?zzuu ?zzuM ?_; (case zzp0 => omega); (case zzp1 => omega); (case zzuB => k_asm); (case zzuF => k_asm); (case zzuX => k_asm); (case zzuT => k_asm); (case zzuA => exact rfl); (case zzuf => exact rfl); (case zzuk => exact rfl); (case zzuh => exact rfl); (case zzud => exact Nat.le_of_ble_eq_true rfl); (case zzuu => exact Nat.le_of_ble_eq_true rfl); (case zzuM => exact fun zza zzha => nomatch zzha); k_whole); intro zzv' zzh' zztk' zzK' zzF' zzP'; (refine (fun zzN' => ?_) (newsKeep (M := []) (by assumption) (fun _ _ => List.not_mem_nil) zzK')); (obtain ⟨zzu', zze'⟩ := zzP'); subst zze'; (try dsimp only)))
  k_with "Z6call ref cons nil" => (case' zzhy => ((with_reducible_and_instances show wpAny _ _ (call (Value.ref 69) [Value.int _ _, Value.int 32 _]) _ _ _); k_dflt (refine' use_sp (wrap32_sp ?zzp0 ?zzp1) ?zzuB ?zzuF ?zzuX ?zzuT ?zzuA ?zzuf ?zzuk ?zzuh ?zzud ?zzuu ?zzuM ?_; (case zzp0 => omega); (case zzp1 => omega); (case zzuB => k_asm); (case zzuF => k_asm); (case zzuX => k_asm); (case zzuT => k_asm); (case zzuA => exact rfl); (case zzuf => exact rfl); (case zzuk => exact rfl); (case zzuh => exact rfl); (case zzud => exact Nat.le_of_ble_eq_true rfl); (case zzuu => exact Nat.le_of_ble_eq_true rfl); (case zzuM => exact fun zza zzha => nomatch zzha); k_whole); intro zzv' zzh' zztk' zzK' zzF' zzP'; (refine (fun zzN' => ?_) (newsKeep (M := []) (by assumption) (fun _ _ => List.not_mem_nil) zzK')); (obtain ⟨zzu', zze'⟩ := zzP'); subst zze'; (try dsimp only)))
  k_with "Z6call ref cons nil" => (case' zzhy => ((with_reducible_and_instances show wpAny _ _ (call (Value.ref 77) [Value.int _ _]) _ _ _); k_dflt (refine' use_sp (signed_sp ?zzp0 ?zzp1) ?zzuB ?zzuF ?zzuX ?zzuT ?zzuA ?zzuf ?zzuk ?zzuh ?zzud ?zzuu ?zzuM ?_; (case zzp0 => omega); (case zzp1 => omega); (case zzuB => k_asm); (case zzuF => k_asm); (case zzuX => k_asm); (case zzuT => k_asm); (case zzuA => exact rfl); (case zzuf => exact rfl); (case zzuk => exact rfl); (case zzuh => exact rfl); (case zzud => exact Nat.le_of_ble_eq_true rfl); (case zzuu => exact Nat.le_of_ble_eq_true rfl); (case zzuM => exact fun zza zzha => nomatch zzha); k_whole); intro zzv' zzh' zztk' zzK' zzF' zzP'; (refine (fun zzN' => ?_) (newsKeep (M := []) (by assumption) (fun _ _ => List.not_mem_nil) zzK')); (obtain ⟨zzu', zze'⟩ := zzP'); subst zze'; (try dsimp only)))
  k_with "Z6call ref cons nil" => (case' zzhy => ((with_reducible_and_instances show wpAny _ _ (call (Value.ref 77) [Value.int _ _, Value.int 32 _]) _ _ _); k_dflt (refine' use_sp (signed32_sp ?zzp0 ?zzp1) ?zzuB ?zzuF ?zzuX ?zzuT ?zzuA ?zzuf ?zzuk ?zzuh ?zzud ?zzuu ?zzuM ?_; (case zzp0 => omega); (case zzp1 => omega); (case zzuB => k_asm); (case zzuF => k_asm); (case zzuX => k_asm); (case zzuT => k_asm); (case zzuA => exact rfl); (case zzuf => exact rfl); (case zzuk => exact rfl); (case zzuh => exact rfl); (case zzud => exact Nat.le_of_ble_eq_true rfl); (case zzuu => exact Nat.le_of_ble_eq_true rfl); (case zzuM => exact fun zza zzha => nomatch zzha); k_whole); intro zzv' zzh' zztk' zzK' zzF' zzP'; (refine (fun zzN' => ?_) (newsKeep (M := []) (by assumption) (fun _ _ => List.not_mem_nil) zzK')); (obtain ⟨zzu', zze'⟩ := zzP'); subst zze'; (try dsimp only)))
  trivial
theorem const_sp {s : Shared} {n : Int} {t : Tok} (h0 : 0 ≤ n) (h1 : n < 500) : Sp w p loose mean mg mb 28 232 [.int n t] [] s (fun v h => ∃ a, v = .ref a ∧ ScalarNew w.params s.heap h a n 0) := by
 refine no_implicit_lambda% ((?qf0 : @Wit ?qp0 ?qe0 → ?qp0) (wit2 ?q00 ?qh0))
 case qf0 => exact fun _ => ?qe0
 case q00 =>
  intro A₀ base h₀ env outer L m R B F X T hf hke hM hret
  k_dflt (refine' enter (H := []) (news := []) (binds := [(Str.ofString "worth", .int n t)]) B F X T hf hke (fun a ha => nomatch ha) (fun q hq => nomatch hq) ?ho ?hcd ?hb ?hl ?_ ?hc ?hr ?c1 ?c2 ?c3)
  case ho => k_is
  case hcd => k_is
  case hb => exact BindsTo.of_eq rfl
  case hl => exact locs rfl
  case hc => decide
  case hr => exact Nat.le_of_ble_eq_true rfl
  case c1 => exact rfl
  case c2 => exact rfl
  case c3 => exact rfl
  intro g L' h₁ tk₁ hkeep hback F' hL' N' hk1 B' X' T'
  clear B F X T
  (try dsimp only)
  (try k_fold)
  k_steps
  refine hret _ _ _ (keep_end hkeep (by assumption)) ?_
  (refine' end_scalar hkeep ?N ?m1 ?m2 ?m3 ?m4; (case N => assumption); (case m1 => walk_at "MEM"); (case m2 => walk_at "MEM"); (case m3 => walk_at "MEM"); (case m4 => walk_at "MEM"))
 case qh0 => (try delta id oq1 oq2); exact fun h => h

theorem unknown_sp {s : Shared} : Sp w p loose mean mg mb 28 222 [] [] s (fun v h => ∃ a, v = .ref a ∧ ScalarNew w.params s.heap h a 0 18446744073709551615) := by
 refine no_implicit_lambda% ((?qf0 : @Wit ?qp0 ?qe0 → ?qp0) (wit2 ?q00 ?qh0))
 case qf0 => exact fun _ => ?qe0
 case q00 =>
  intro A₀ base h₀ env outer L m R B F X T hf hke hM hret
  k_dflt (refine' enter (H := []) (news := []) (binds := []) B F X T hf hke (fun a ha => nomatch ha) (fun q hq => nomatch hq) ?ho ?hcd ?hb ?hl ?_ ?hc ?hr ?c1 ?c2 ?c3)
  case ho => k_is
  case hcd => k_is
  case hb => exact BindsTo.of_eq rfl
  case hl => exact locs rfl
  case hc => decide
  case hr => exact Nat.le_of_ble_eq_true rfl
  case c1 => exact rfl
  case c2 => exact rfl
  case c3 => exact rfl
  intro g L' h₁ tk₁ hkeep hback F' hL' N' hk1 B' X' T'
  clear B F X T
  (try dsimp only)
  (try k_fold)
  k_steps
  refine hret _ _ _ (keep_end hkeep (by assumption)) ?_
  (refine' end_scalar hkeep ?N ?m1 ?m2 ?m3 ?m4; (case N => assumption); (case m1 => walk_at "MEM"); (case m2 => walk_at "MEM"); (case m3 => walk_at "MEM"); (case m4 => walk_at "MEM"))
 case qh0 => (try delta id oq1 oq2); exact fun h => h

end
end
section
theorem kg7 : True := trivial
section
variable {prog : Program} {w : World} {A : Around} {R : Result → Shared → Prop} {E : Value → Shared → Prop} {h : Heap} {g : Array GenState} {d : Drawn} {t : Nat} {os : OsState}
variable {nm q : Str} {C N D : Addr} {bs bm bmB : List Value} {hdct : Bool} {sn : List Str} {sub : List Value} {ab : Bool} {col : Option Bool} {dd : Option Addr} {k0 k1 k2 k3 k5 : Option Value} {B newId initId : String}

theorem oi_check (F : ExcBaseFacts B newId initId bmB) (hcont : (Value.ref C :: bm).contains (.type B) = true) {rest : List Value} {Q : Unit → Shared → Prop} (hC : h.get? C = some (excClassObj nm q C N bs bm hdct sn sub ab col dd k0 k1 k2 k3 k5 newId))
    (hq : Q () ⟨h, g, d, t, os⟩) : wpAny (model prog w) A (checkBuiltinCall newId ⟨.ref C :: rest, []⟩) Q E ⟨h, g, d, t, os⟩ := by
  have hstar := F.noStar
  simp only [checkBuiltinCall, F.newKind, F.newSplit, F.newRow]
  repeat (first | refine wpAny_loadPart_at hC ?_ | (refine wpAny_isSubtype_exc hC ?_; rw [hcont]) | refine wpAny_staticBase_exc hC ?_ | refine wpAny_madeBy_exc hC ?_ | simp only [bne_self_eq_false, Bool.false_eq_true, if_false] | wp_step)
  exact hq

theorem oi_new (F : ExcBaseFacts B newId initId bmB) (hcB : (Value.ref C :: bm).contains (.type B) = true) (hcA : (Value.ref C :: bm).contains (.type "AttributeError") = false) (hcN : (Value.ref C :: bm).contains (.type "NameError") = false) {rest : List Value}
    (hC : h.get? C = some (excClassObj nm q C N bs bm hdct sn sub ab col dd k0 k1 k2 k3 k5 newId))
    (hq : R (.ok (.ret (.ref (h.objs.size + 1)))) ⟨(h.push { cls := .type "tuple", data := .seq rest.toArray }).push
      { cls := .ref C, data := .fields #[.ref h.objs.size, .none, .none, .none, .bool false, .none] }, g, d, t, os⟩) (hrest : rest.length ≤ sizeLine) :
    codeAny (model prog w) A (.builtin newId ⟨.ref C :: rest, []⟩) R ⟨h, g, d, t, os⟩ := by
  have hends := F.ends
  refine codeAny_builtinAt F.entry ?_
  unfold Builtin.«BaseException.__new__»
  refine PySem.wpAt_bind ?_
  show PySem.wpAt _ _ _ (stack >>= _) _ _ _
  refine PySem.wpAt_bind (PySem.wpAt_stack fun p below => PySem.wpAt_of_wpAny ?_)
  wp_walk
  refine PySem.wpAt_of_wpAny ?_
  rw [F.owner]
  repeat (first | with_reducible refine wpAny_madeHere_exc F.canon hC ?_ | with_reducible refine wpAny_loadPart_at hC ?_ | (with_reducible refine wpAny_isSubtype_exc hC ?_; first | rw [hcB] | rw [hcA] | rw [hcN]) | wp_step)
  show R _ _
  rw [Heap.size_push]
  exact hq

theorem oi_type_call (F : ExcBaseFacts B newId initId bmB) {mN mD : Str → Option Value} {c0 : Value} {dD : Option Addr} {cd : ClassData} {sD : Array (Option Value)} {tl : List Value} {rest : List Value} {fI : Addr} {oI : Obj} {Q : Fin → Shared → Prop}
    (hcB : (Value.ref C :: bm).contains (.type B) = true) (hcA : (Value.ref C :: bm).contains (.type "AttributeError") = false) (hcN : (Value.ref C :: bm).contains (.type "NameError") = false)
    (hC : h.get? C = some (excClassObj nm q C N bs bm hdct sn sub ab col dd k0 k1 k2 k3 k5 newId)) (hn : h.Ns N mN) (hni : mN "__init__" = none)
    (hbm : bm = .ref D :: tl) (hD : h.get? D = some { cls := c0, dict := dD, data := .cls cd, slots := sD }) (hnD : h.Ns cd.ns mD) (hi : mD "__init__" = some (.ref fI))
    (hfI : h.get? fI = some oI) (hfc : oI.cls = .type "function")
    (hq : ∀ h' e, Heap.MadeExcOf h h' e (.ref C) rest →
      wpAny (model prog w) A (call (.ref fI) (.ref e :: rest)) (fun r s' => r = .none ∧ Q (.done (.ret (.ref e))) s') E ⟨h', g, d, t, os⟩) (hrest : rest.length ≤ sizeLine) :
    wpAny (model prog w) A (Builtin.«type.__call__» ⟨.ref C :: rest, []⟩) Q E ⟨h, g, d, t, os⟩ := by
 refine no_implicit_lambda% ((?qf0 : @Wit ?qp0 ?qe0 → ?qp0) (wit2 ?q00 ?qh0))
 case qf0 => exact fun _ => ?qe0
 case q00 =>
  repeat (first | with_reducible refine wpAny_loadPart_at hC ?_ | with_reducible refine wpAny_madeBy_exc hC ?_ | wp_step)
  refine codeAny_call_builtin_code (Code.quiet_builtin _ F.quiet) (oi_check F hcB hC ?_)
  refine oi_new F hcB hcA hcN hC ?_ hrest
  show wpAny _ _ _ _ _ _
  have up : ∀ b o, h.get? b = some o → ((h.push { cls := .type "tuple", data := .seq rest.toArray }).push { cls := .ref C, data := .fields #[.ref h.objs.size, .none, .none, .none, .bool false, .none] }).get? b = some o :=
    fun b o e => Heap.get?_push_of_some _ (Heap.get?_push_of_some _ e)
  have hC₁ := up _ _ hC
  have hD₁ := up _ _ hD
  have hfI₁ := up _ _ hfI
  have hn₁ := hn.keeps up
  have hnD₁ := hnD.keeps up
  have hget : ((h.push { cls := .type "tuple", data := .seq rest.toArray }).push
      { cls := .ref C, data := .fields #[.ref h.objs.size, .none, .none, .none, .bool false, .none] }).get? (h.objs.size + 1) = some
      { cls := .ref C, data := .fields #[.ref h.objs.size, .none, .none, .none, .bool false, .none] } := by heap_get
  have hcC : (Value.ref C :: bm).contains (.ref C) = true := by simp
  unfold isInstance
  repeat (first | with_reducible refine wpAny_loadPart_at hget ?_ | (with_reducible refine wpAny_isSubtype_exc hC₁ ?_; rw [hcC]) | wp_step)
  show wpAny _ _ (typeLookup (.ref C) _) _ _ _
  rw [typeLookup_eq]
  refine wpAny_bind (wpAny_mroOf_exc hC₁ ?_)
  rw [lookupAlong_cons]
  refine wpAny_bind (wpAny_classOwn_exc hC₁ hn₁ ?_)
  rw [hni, hbm]
  show wpAny _ _ (lookupAlong (Value.ref D :: tl) _) _ _ _
  rw [lookupAlong_cons]
  refine wpAny_bind (wpAny_classOwn_cls hD₁ hnD₁ ?_)
  rw [hi]
  refine wpAny_pure ?_
  refine wpAny_holding (wpAny_bind ?_)
  unfold bindSpecial
  refine wpAny_bind (wpAny_typeOf (T := "function") ⟨_, hfI₁, hfc⟩ ?_)
  rw [if_pos (by decide)]
  refine wpAny_pure (wpAny_bind (wpAny_mono (hq _ (h.objs.size + 1) ⟨up, Heap.get?_none_of_le (Nat.le_succ _), h.objs.size, hget, Heap.get?_none_of_le (Nat.le_refl _), ?_⟩) (fun r s' hr => ?_) fun _ _ x => x))
  · exact Heap.get?_push_of_some _ (Heap.get?_push_at rfl rfl)
  · obtain ⟨rfl, hQ⟩ := hr
    wp_walk
    exact hQ
 case qh0 => (try delta id oq1 oq2); exact fun h => h

theorem oi_call (F : ExcBaseFacts B newId initId bmB) {mN mD : Str → Option Value} {c0 : Value} {dD : Option Addr} {cd : ClassData} {sD : Array (Option Value)} {tl : List Value} {rest : List Value} {fI : Addr} {oI : Obj} {Q : Value → Shared → Prop}
    (hcB : (Value.ref C :: bm).contains (.type B) = true) (hcA : (Value.ref C :: bm).contains (.type "AttributeError") = false) (hcN : (Value.ref C :: bm).contains (.type "NameError") = false)
    (hC : h.get? C = some (excClassObj nm q C N bs bm hdct sn sub ab col dd k0 k1 k2 k3 k5 newId)) (hn : h.Ns N mN) (hni : mN "__init__" = none)
    (hbm : bm = .ref D :: tl) (hD : h.get? D = some { cls := c0, dict := dD, data := .cls cd, slots := sD }) (hnD : h.Ns cd.ns mD) (hi : mD "__init__" = some (.ref fI))
    (hfI : h.get? fI = some oI) (hfc : oI.cls = .type "function")
    (hq : ∀ h' e, Heap.MadeExcOf h h' e (.ref C) rest →
      wpAny (model prog w) (A.under (.builtin "type.__call__" ⟨.ref C :: rest, []⟩)) (call (.ref fI) (.ref e :: rest)) (fun r s' => r = .none ∧ Q (.ref e) s') E ⟨h', g, d, t, os⟩) (hrest : rest.length ≤ sizeLine) :
    wpAny (model prog w) A (call (.ref C) rest) Q E ⟨h, g, d, t, os⟩ := by
  have f1 := tc_lookup
  have f2 := tc_bind (.ref C)
  have hT : (⟨h, g, d, t, os⟩ : Shared).TypeIs (.ref C) "type" := ⟨_, hC, rfl⟩
  refine wpAny_call (codeAny_of_tree ?_)
  show wpAny _ _ (callAny (.ref C) _) _ _ _
  repeat (any_goals (first | assumption | with_reducible refine wpAny_loadPart_at hC ?_ | wp_step))
  refine ⟨rfl, ?_⟩
  refine codeAny_call_builtin_at (Code.quiet_builtin _ (by decide +kernel)) entry_typeCall (wpAny_check_type_call_sub hC (oi_type_call F hcB hcA hcN hC hn hni hbm hD hnD hi hfI hfc (fun h' e hm => ?_) hrest))
  exact hq h' e hm
end
end
section
theorem kg8 : True := trivial
abbrev excObj (dd : Option Addr) (a0 tb : Value) : Obj := { cls := .ref 59, dict := dd, data := .fields #[a0, tb, .none, .none, .bool false, .none] }
theorem meta_Exception : typeOf (.type "Exception") = pure (.type "type") := by kernel_rfl
section
variable {prog : Program} {w : World} {A : Around} {E : Value → Shared → Prop} {h : Heap} {g : Array GenState} {d : Drawn} {t : Nat} {os : OsState}
variable {nm q : Str} {C N : Addr} {bs bm bmB : List Value} {hdct : Bool} {sn : List Str} {sub : List Value} {ab : Bool} {col : Option Bool} {dd : Option Addr} {k0 k1 k2 k3 k5 : Option Value} {B newId initId : String}
theorem kg9 : True := by
  k_with "Z9K_k_room" => (exact Nat.le_of_ble_eq_true rfl)
  k_with "Z9K_k_inst" => (case' zzhy => (refine' inst_base ?zzF ?zzh1 ?zzh2; (case zzF => k_asm); (case zzh1 => assumption); (case zzh2 => assumption)))
  trivial
theorem oi_check_init (F : ExcBaseFacts B newId initId bmB) (hcB : (Value.ref C :: bm).contains (.type B) = true) {e : Addr} {oe : Obj} {rest : List Value} {Q : Unit → Shared → Prop}
    (hC : h.get? C = some (excClassObj nm q C N bs bm hdct sn sub ab col dd k0 k1 k2 k3 k5 newId)) (he : h.get? e = some oe) (hcls : oe.cls = .ref C) (hq : Q () ⟨h, g, d, t, os⟩) :
    wpAny (model prog w) A (checkBuiltinCall initId ⟨.ref e :: rest, []⟩) Q E ⟨h, g, d, t, os⟩ := by
  have hshort := F.noStar
  simp only [checkBuiltinCall, F.initKind, F.initSplit, F.initRow]
  repeat (first | (with_reducible refine wpAny_loadPart_at he ?_; rw [hcls]) | with_reducible refine wpAny_loadPart_at hC ?_ | (with_reducible refine wpAny_isSubtype_exc hC ?_; rw [hcB]) | wp_step)
  refine wpAny_onRaise ?_
  rw [show ∀ (a b : String) (n : Nat), Bind.check ⟨.positional, "*", B, .self, [⟨"args", .varPos, false⟩]⟩ a b n (List.map (fun x => x.fst) ({ pos := Value.ref e :: rest } : Args).kw) = pure () from
    fun a b n => check_star_args _ _ _ _ _ _]
  exact wpAny_pure hq
theorem oi_init (F : ExcBaseFacts B newId initId bmB) (hcB : (Value.ref C :: bm).contains (.type B) = true) {e : Addr} {de : Option Addr} {a0 : Addr} {tb : Value} {rest : List Value} {Q : Value → Shared → Prop}
    (hC : h.get? C = some (excClassObj nm q C N bs bm hdct sn sub ab col dd k0 k1 k2 k3 k5 newId)) (he : h.get? e = some { cls := .ref C, dict := de, data := .fields #[.ref a0, tb, .none, .none, .bool false, .none] }) (hrest : rest.length ≤ sizeLine)
    (hq : ∀ h', (∀ b o, b ≠ e → h.get? b = some o → h'.get? b = some o) → h'.get? e = some { cls := .ref C, dict := de, data := .fields #[.ref h.objs.size, tb, .none, .none, .bool false, .none] } → Q .none ⟨h', g, d, t, os⟩) :
    wpAny (model prog w) A (call (.builtin initId) (.ref e :: rest)) Q E ⟨h, g, d, t, os⟩ := by
  refine wpAny_call (codeAny_call_builtin F.init.plain F.initEntry (oi_check_init F hcB hC he rfl ?_))
  wp_walk
  refine hq _ (fun b o hb hbo => ?_) ?_
  · rw [Heap.get?_update_other _ _ (Ne.symm hb)]
    exact Heap.get?_push_of_some _ hbo
  · rw [Heap.get?_update_self _ (Heap.get?_push_of_some _ he) rfl]
    rfl
end
end
section
theorem kg10 : True := trivial
section
variable {prog : Program} {w : World} {A : Around} {E : Value → Shared → Prop} {s : Shared} {R : Result → Shared → Prop}
open Builtin Builtin.ObjectAttr
theorem ex_put {d : Addr} {es : List DictEntry} {n : Nat} {name : Str} {tk : Tok} {v : Value} {Q : Fin → Shared → Prop} (D : s.heap.get? d = some (dictOf es n)) (hl : (lookIn name (dictOf es n)).isSome = true)
    (hz : (putL name (PyData.keyHash w.params name) (.str name s.toks) v es).length ≤ 1000)
    (h : ∀ h', (∀ b o, b ≠ d → s.heap.get? b = some o → h'.get? b = some o) → h'.get? d = some (dictOf (putL name (PyData.keyHash w.params name) (.str name s.toks) v es) (putN name es n)) → Q (.done (.ret .none)) { s with heap := h', toks := s.toks + 1 }) :
    wpAny (model prog w) A (storeInDict d (.str name tk) name v) Q E s := by
 refine no_implicit_lambda% ((?qf0 : @Wit ?qp0 ?qe0 → ?qp0) (wit2 ?q00 ?qh0))
 case qf0 => exact fun _ => ?qe0
 case q00 =>
  unfold storeInDict newKeyGuard
  refine wpAny_bind (wpAny_pure (wpAny_bind ?_))
  have U : ∀ h' : Heap, h' = s.heap.update d (Obj.putName name (PyData.keyHash w.params name) (.str name s.toks) v) → (∀ b o, b ≠ d → s.heap.get? b = some o → h'.get? b = some o) ∧ h'.get? d = some (dictOf (putL name (PyData.keyHash w.params name) (.str name s.toks) v es) (putN name es n)) := by
    intro h' e
    subst e
    refine ⟨fun b o hb hbo => (Heap.get?_update_other _ _ (Ne.symm hb)).trans hbo, ?_⟩
    rw [← putName_dict]
    refine Heap.get?_update_self _ D ?_
    rw [putName_dict]
    rfl
  unfold nsSet
  refine wpAny_bind (wpAny_bind (wpAny_askSetting (wpAny_pure (wpAny_bind (wpAny_mkText (wpAny_bind (wpAny_loadPart D ?_)))))))
  have c : (!es.toArray.any (·.key.isStr name) && es.toArray.any (·.refKey)) = false := by
    unfold lookIn at hl
    rw [← Array.any_toList, ← Array.any_toList]
    (try dsimp only at hl)
    split at hl
    · rename_i en he
      rw [List.any_eq_true.mpr ⟨en, List.mem_of_find?_eq_some he, List.find?_some he⟩]; rfl
    · split at hl
      · cases hl
      · rename_i z; rw [Bool.not_eq_true] at z; rw [z, Bool.and_false]
  (try dsimp only)
  rw [aRefKeyMayBeTheName_at, c]
  refine wpAny_updatePart D ?_
  obtain ⟨u1, u2⟩ := U _ rfl
  refine wpAny_bind (wpAny_lookBehind u2 (pastItsLine_dict (by rw [List.size_toArray, sizeLine_eq]; omega)) ?_)
  exact wpAny_pure (h _ u1 u2)
 case qh0 => (try delta id oq1 oq2); exact fun h => h

end
section
variable {w : World} {A : Around} {E : Value → Shared → Prop} {s : Shared} {R : Result → Shared → Prop}
open Builtin Builtin.ObjectAttr
abbrev mro59 : List Value := [.ref 59, .ref 46, .type "Exception", .type "BaseException", .type "object"]
theorem cls59 {w : World} : ∃ cd, clsIn (hd.heap_1 w.params) 59 = some cd ∧ cd.mro = mro59 ∧ cd.hasDict = true := ⟨_, rfl, rfl, rfl⟩
theorem ex_open {e : Addr} {ox : Obj} {od : Option Obj} {name : Str} {v : Value} {Q : Unit → Shared → Prop} (X : (hd.heap_1 w.params).In s.heap) (I : InstAt s.heap e ox 59 od)
    (hs : findIn (hd.heap_1 w.params) (.ref 59) "__setattr__" = some (some (.builtin "object.__setattr__"))) (ht : takerIn (hd.heap_1 w.params) 59 name = some none)
    (h : ∀ b, wpAny (model Pg w) A.in1 (storeInOwnDict (.ref e) (.ref 59) (.str name s.toks) name v b)
      (fun fin s' => fin = .done (.ret .none) ∧ Q () s') (fun e s' => E e s') { s with toks := s.toks + 1 }) : wpAny (model Pg w) A (setAttr (.ref e) name v) Q E s := by
 refine no_implicit_lambda% ((?qf0 : @Wit ?qp0 ?qe0 → ?qp0) (wit2 ?q00 ?qh0))
 case qf0 => exact fun _ => ?qe0
 case q00 =>
  refine set_plain X I hs ?_
  have SF := PySem.F.store_object
  obtain ⟨cd, hc, ho, hdt⟩ := cls59 (w := w)
  have sub : Looks (model Pg w) s.heap (isInstance (.ref e) (.type "object")) true := I.type.andThen (looks_mroIn X (by unfold mroIn; rw [hc, Option.bind_some, ho]; rfl))
  refine codeAny_call_builtin SF.slot.plain SF.entry (@check_slot (model Pg w) _ _ { s with toks := s.toks + 1 } "object.__setattr__" "object" "__setattr__" (.ref e) [.str name s.toks, v] [] _ SF.kind SF.split sub (SF.args (.ref e) (.str name s.toks) v) ?_)
  obtain ⟨attr, ha, hr⟩ := Option.bind_eq_some_iff.mp ht
  have hm : Looks (model Pg w) s.heap (mroOf (.ref 59)) mro59 := ho ▸ (looks_clsIn X hc).andThen .now
  have L3 : Looks (model Pg w) s.heap (storeTaker? attr) none := by
    cases attr with
    | none => exact .now
    | some a =>
      obtain ⟨b, hb, hq⟩ := Option.map_eq_some_iff.mp hr
      refine (looks_takesIn X hb).andThen ?_
      cases b
      · exact .now
      · cases hq
  rw [osa_eq, refuse_eq]
  refine wpAny_bind (wpAny_bind (I.type.here (s := { s with toks := s.toks + 1 }) (wpAny_bind (hm.here (s := { s with toks := s.toks + 1 }) ?_))))
  rw [refuseLoop_ref, refuseLoop_ref, PySem.F.store_Exception.passes]
  refine wpAny_pure (wpAny_bind (I.type.here (s := { s with toks := s.toks + 1 }) (wpAny_bind ((looks_findIn X ha).here (s := { s with toks := s.toks + 1 }) (wpAny_bind (L3.here (s := { s with toks := s.toks + 1 }) ?_))))))
  refine wpAny_mono (h _) (fun fin s' z => ?_) fun _ _ z => z
  obtain ⟨rfl, z⟩ := z
  exact z
 case qh0 => (try delta id oq1 oq2); exact fun h => h

theorem ex_set_some {e d : Addr} {a0 tb : Value} {es : List DictEntry} {n : Nat} {name : Str} {v : Value} {Q : Unit → Shared → Prop} (X : (hd.heap_1 w.params).In s.heap) (he : s.heap.get? e = some (excObj (some d) a0 tb)) (hd' : s.heap.get? d = some (dictOf es n))
    (hs : findIn (hd.heap_1 w.params) (.ref 59) "__setattr__" = some (some (.builtin "object.__setattr__"))) (ht : takerIn (hd.heap_1 w.params) 59 name = some none)
    (hl : (lookIn name (dictOf es n)).isSome = true) (hz : (putL name (PyData.keyHash w.params name) (.str name (s.toks + 1)) v es).length ≤ 1000)
    (h : ∀ h', (∀ b o, b ≠ d → s.heap.get? b = some o → h'.get? b = some o) → h'.get? d = some (dictOf (putL name (PyData.keyHash w.params name) (.str name (s.toks + 1)) v es) (putN name es n)) → Q () { s with heap := h', toks := s.toks + 2 }) :
    wpAny (model Pg w) A (setAttr (.ref e) name v) Q E s := by
 refine no_implicit_lambda% ((?qf0 : @Wit ?qp0 ?qe0 → ?qp0) (wit2 ?q00 ?qh0))
 case qf0 => exact fun _ => ?qe0
 case q00 =>
  refine ex_open X (od := some (dictOf es n)) ⟨he, rfl, rfl, hd'⟩ hs ht fun b => ?_
  obtain ⟨cd, hc, ho, hdt⟩ := cls59 (w := w)
  unfold storeInOwnDict
  refine wpAny_bind (wpAny_pure (wpAny_bind (wpAny_bind (wpAny_loadPart he (wpAny_bind ((looks_clsIn X hc).here (s := { s with toks := s.toks + 1 }) ?_))))))
  rw [hdt]
  refine wpAny_pure (a := some d) ?_
  exact ex_put (s := { s with toks := s.toks + 1 }) hd' hl hz fun h' k1 k2 => ⟨rfl, h h' k1 k2⟩
 case qh0 => (try delta id oq1 oq2); exact fun h => h

theorem ex_set_none {e : Addr} {a0 tb : Value} {name : Str} {v : Value} {Q : Unit → Shared → Prop} (X : (hd.heap_1 w.params).In s.heap) (he : s.heap.get? e = some (excObj none a0 tb))
    (hs : findIn (hd.heap_1 w.params) (.ref 59) "__setattr__" = some (some (.builtin "object.__setattr__"))) (ht : takerIn (hd.heap_1 w.params) 59 name = some none)
    (h : ∀ d h', s.heap.get? d = none → (∀ b o, b ≠ e → s.heap.get? b = some o → h'.get? b = some o) → h'.get? e = some (excObj (some d) a0 tb) → h'.get? d = some (dictOf [⟨PyData.keyHash w.params name, .str name (s.toks + 1), v⟩] 1) → Q () { s with heap := h', toks := s.toks + 2 }) :
    wpAny (model Pg w) A (setAttr (.ref e) name v) Q E s := by
 refine no_implicit_lambda% ((?qf0 : @Wit ?qp0 ?qe0 → ?qp0) (wit2 ?q00 ?qh0))
 case qf0 => exact fun _ => ?qe0
 case q00 =>
  refine ex_open X (od := none) ⟨he, rfl, rfl, trivial⟩ hs ht fun b => ?_
  obtain ⟨cd, hc, ho, hdt⟩ := cls59 (w := w)
  unfold storeInOwnDict
  refine wpAny_bind (wpAny_pure (wpAny_bind (wpAny_bind (wpAny_loadPart he (wpAny_bind ((looks_clsIn X hc).here (s := { s with toks := s.toks + 1 }) ?_))))))
  rw [hdt]
  (try dsimp only)
  rw [if_neg (by simp), if_neg (by simp [typeHasDict])]
  have hes : e ≠ s.heap.objs.size := Nat.ne_of_lt (Heap.lt_size he)
  have he₁ : (s.heap.push emptyDict).get? e = some (excObj none a0 tb) := Heap.get?_push_of_some _ he
  have he₂ : ((s.heap.push emptyDict).update e fun o => { o with dict := some s.heap.objs.size }).get? e = some (excObj (some s.heap.objs.size) a0 tb) := Heap.get?_update_self _ he₁ rfl
  have hd₂ : ((s.heap.push emptyDict).update e fun o => { o with dict := some s.heap.objs.size }).get? s.heap.objs.size = some (dictOf [] 0) :=
    (Heap.get?_update_other _ _ hes).trans (Heap.get?_push_at rfl rfl)
  refine wpAny_bind (wpAny_alloc' (wpAny_bind (wpAny_update' he₁ (wpAny_pure ?_))))
  refine ex_put (s := { s with heap := (s.heap.push emptyDict).update e fun o => { o with dict := some s.heap.objs.size }, toks := s.toks + 1 }) hd₂ rfl (Nat.le_of_ble_eq_true rfl) fun h' k1 k2 => ⟨rfl, ?_⟩
  refine h _ h' (Heap.get?_none_of_le (Nat.le_refl _)) (fun b o hb hbo => k1 b o (Nat.ne_of_lt (Heap.lt_size hbo)) ((Heap.get?_update_other _ _ (Ne.symm hb)).trans (Heap.get?_push_of_some _ hbo))) (k1 _ _ hes he₂) ?_
  rw [k2]
  rfl
 case qh0 => (try delta id oq1 oq2); exact fun h => h

theorem frBut {g h h' : Heap} {L e : Addr} {m : Str → Option Value} (F : Fr g L h m) (k : ∀ b o, b ≠ e → h.get? b = some o → h'.get? b = some o) (hg : g.get? e = none) (hL : e ≠ L) : Fr g L h' m :=
  frKeep (M := [e]) F (fun a ha => by rcases List.mem_singleton.mp ha with rfl; exact ⟨hg, hL⟩) fun b o hb => k b o (by simpa using hb)
theorem exl_none {g : Heap} {L e : Addr} {m : Str → Option Value} {news : List (Addr × Obj)} {f : Obj → List (Addr × Obj)} {a0 tb : Value} {name : Str} {v : Value} {Q : Unit → Shared → Prop} (F : Fr g L s.heap m) (X₀ : (hd.heap_1 w.params).In g) (N : News g L s.heap news) (U : UpdF e (excObj none a0 tb) news f)
    (hs : findIn (hd.heap_1 w.params) (.ref 59) "__setattr__" = some (some (.builtin "object.__setattr__"))) (ht : takerIn (hd.heap_1 w.params) 59 name = some none)
    (h : ∀ d h', Fr g L h' m → News g L h' ((d, dictOf [⟨PyData.keyHash w.params name, .str name (s.toks + 1), v⟩] 1) :: f (excObj (some d) a0 tb)) → AllNe d news → Q () { s with heap := h', toks := s.toks + 2 }) :
    wpAny (model Pg w) A (setAttr (.ref e) name v) Q E s := by
 refine no_implicit_lambda% ((?qf0 : @Wit ?qp0 ?qe0 → ?qp0) (wit2 ?q00 ?qh0))
 case qf0 => exact fun _ => ?qe0
 case q00 =>
  obtain ⟨pre, post, rfl, hf, x, y⟩ := U.split
  have z := N (e, _) (List.mem_append.mpr (.inr (.head _)))
  refine ex_set_none (X₀.keeps F.keep) z.1 hs ht fun d h' hd0 k1 k2 k3 => ?_
  have FF := frBut F k1 z.2.2 z.2.1
  refine h d h' FF (newsCons k3 ?_ ?_ ?_) (allNe_of hd0 fun p hp => (N p hp).1)
  · cases q : g.get? d with
    | none => rfl
    | some o => have := F.keep _ _ q; rw [hd0] at this; cases this
  · intro q
    obtain ⟨oL, _, _, ho, _⟩ := F.ns
    rw [← q, hd0] at ho
    cases ho
  · rw [hf]
    intro q hq
    rcases List.mem_append.mp hq with hq | hq
    · have := N q (List.mem_append.mpr (.inl hq))
      exact ⟨k1 _ _ (x q hq) this.1, this.2⟩
    · rcases List.mem_cons.mp hq with rfl | hq
      · exact ⟨k2, z.2⟩
      · have := N q (List.mem_append.mpr (.inr (.tail _ hq)))
        exact ⟨k1 _ _ (y q hq) this.1, this.2⟩
 case qh0 => (try delta id oq1 oq2); exact fun h => h

theorem exl_some {g : Heap} {L e d : Addr} {m : Str → Option Value} {news news' : List (Addr × Obj)} {a0 tb : Value} {es es' : List DictEntry} {n n' : Nat} {name : Str} {v : Value} {Q : Unit → Shared → Prop} (F : Fr g L s.heap m) (X₀ : (hd.heap_1 w.params).In g) (N : News g L s.heap news)
    (me : (e, excObj (some d) a0 tb) ∈ news) (_md : (d, dictOf es n) ∈ news) (hl : (getL name es).isSome = true) (e1 : (putL name (PyData.keyHash w.params name) (.str name (s.toks + 1)) v es, putN name es n) = (es', n')) (U : Upd d (dictOf es n) (dictOf es' n') news news')
    (hs : findIn (hd.heap_1 w.params) (.ref 59) "__setattr__" = some (some (.builtin "object.__setattr__"))) (ht : takerIn (hd.heap_1 w.params) 59 name = some none) (hz : es'.length ≤ 1000)
    (h : ∀ h', Fr g L h' m → News g L h' news' → Q () { s with heap := h', toks := s.toks + 2 }) : wpAny (model Pg w) A (setAttr (.ref e) name v) Q E s := by
 refine no_implicit_lambda% ((?qf0 : @Wit ?qp0 ?qe0 → ?qp0) (wit2 ?q00 ?qh0))
 case qf0 => exact fun _ => ?qe0
 case q00 =>
  obtain ⟨q1, q2⟩ := Prod.mk.inj e1
  have zd : (d, dictOf es n) ∈ news := by
    obtain ⟨pre, post, rfl, _, _, _⟩ := U.split
    exact List.mem_append.mpr (.inr (.head _))
  have z := N _ zd
  refine ex_set_some (X₀.keeps F.keep) (N _ me).1 z.1 hs ht hl (q1 ▸ hz) fun h' k1 k2 => ?_
  rw [q1, q2] at k2
  refine h h' (frBut F k1 z.2.2 z.2.1) ?_
  obtain ⟨pre, post, rfl, rfl, x, y⟩ := U.split
  intro q hq
  rcases List.mem_append.mp hq with hq | hq
  · have := N q (List.mem_append.mpr (.inl hq))
    exact ⟨k1 _ _ (x q hq) this.1, this.2⟩
  · rcases List.mem_cons.mp hq with rfl | hq
    · exact ⟨k2, z.2⟩
    · have := N q (List.mem_append.mpr (.inr (.tail _ hq)))
      exact ⟨k1 _ _ (y q hq) this.1, this.2⟩
 case qh0 => (try delta id oq1 oq2); exact fun h => h

theorem h59 {h : Heap} (X : (hd.heap_1 w.params).In h) : ∃ q hdct sn sub ab col dd k0 k1 k2 k3 k5, h.get? 59 = some (excClassObj "Refusal" q 59 58 [.ref 46] [.ref 46, .type "Exception", .type "BaseException", .type "object"] hdct sn sub ab col dd k0 k1 k2 k3 k5 "Exception.__new__") :=
  ⟨_, _, _, _, _, _, _, _, _, _, _, _, X 59 _ rfl⟩
theorem exl_init {g : Heap} {L e a0 : Addr} {m : Str → Option Value} {news : List (Addr × Obj)} {f : Obj → List (Addr × Obj)} {de : Option Addr} {tb : Value} {x : Value} {Q : Value → Shared → Prop} (F : Fr g L s.heap m) (X₀ : (hd.heap_1 w.params).In g) (N : News g L s.heap news) (U : UpdF e (excObj de (.ref a0) tb) news f)
    (h : ∀ t1 h', Fr g L h' m → News g L h' (f (excObj de (.ref t1) tb)) → Q .none { s with heap := h' }) : wpAny (model Pg w) A (call (.builtin "Exception.__init__") [.ref e, x]) Q E s := by
 refine no_implicit_lambda% ((?qf0 : @Wit ?qp0 ?qe0 → ?qp0) (wit2 ?q00 ?qh0))
 case qf0 => exact fun _ => ?qe0
 case q00 =>
  obtain ⟨pre, post, rfl, hf, x', y⟩ := U.split
  have z := N (e, _) (List.mem_append.mpr (.inr (.head _)))
  obtain ⟨q, hdct, sn, sub, ab, col, dd, k0, k1, k2, k3, k5, hC⟩ := h59 (X₀.keeps F.keep)
  obtain ⟨hp, gn, dr, tk, os⟩ := s
  refine oi_init PySem.F.excBase_Exception rfl hC z.1 (by show 1 ≤ sizeLine; rw [sizeLine_eq]; decide) fun h' c1 c2 => ?_
  refine h hp.objs.size h' (frBut F c1 z.2.2 z.2.1) ?_
  rw [hf]
  intro q hq
  rcases List.mem_append.mp hq with hq | hq
  · have := N q (List.mem_append.mpr (.inl hq))
    exact ⟨c1 _ _ (x' q hq) this.1, this.2⟩
  · rcases List.mem_cons.mp hq with rfl | hq
    · exact ⟨c2, z.2⟩
    · have := N q (List.mem_append.mpr (.inr (.tail _ hq)))
      exact ⟨c1 _ _ (y q hq) this.1, this.2⟩
 case qh0 => (try delta id oq1 oq2); exact fun h => h

end
end
section
theorem kg11 : True := trivial
theorem end_init {P : Params} {s g h : Heap} {L e d t1 : Addr} {u1 u2 : Tok} {what : Str} {tw tp : Tok} {pl : Int} {news : List (Addr × Obj)} (k : Keep [e] s g) (N : News g L h news) (m1 : (e, excObj (some d) (.ref t1) .none) ∈ news)
    (m2 : (d, dictOf [⟨PyData.keyHash P "what", .str "what" u1, .str what tw⟩, ⟨PyData.keyHash P "at", .str "at" u2, .int pl tp⟩] 2) ∈ news) (hne : d ≠ e) :
    ∃ d t1 u1 u2, s.get? d = none ∧ h.get? e = some (excObj (some d) (.ref t1) .none) ∧ h.get? d = some (dictOf [⟨PyData.keyHash P "what", .str "what" u1, .str what tw⟩, ⟨PyData.keyHash P "at", .str "at" u2, .int pl tp⟩] 2) :=
  ⟨d, t1, u1, u2, fresh_of k N m2 (by simpa using hne), (N _ m1).1, (N _ m2).1⟩
section
variable {w : World} {p : Program} {loose : List Str} {mean : ExcName → Option Value} {mg mb : Str → Option Value}

theorem kg12 : True := by
  k_with "Z12K_k_room" => (exact Nat.le_of_ble_eq_true rfl)
  k_with "Z12K_k_inst" => (case' zzhy => (refine' inst_base ?zzF ?zzh1 ?zzh2; (case zzF => k_asm); (case zzh1 => assumption); (case zzh2 => assumption)))
  k_with "Z12MEM" => (repeat (first | exact List.Mem.head _ | apply List.Mem.tail))
  k_with "Z12getMethod type:Exception" => (k_here; case' zzhy => (k_dflt (refine' method_type ?zzF ?zzX ?zzm (by decide +kernel) ?zze ?zzh ?_; (case zzF => k_asm); (case zzX => k_asm); (case zzm => exact meta_Exception); (case zze => k_is); (case zzh => k_handed))))
  k_with "Z12call builtin:Exception.__init__" => (k_here; case' zzhy => (k_dflt ((refine' exl_init ?zzk1 ?zzk2 ?zzk3 ?zzk4 ?_; (case zzk1 => k_asm); (case zzk2 => k_asm); (case zzk3 => k_asm); (case zzk4 => k_updF)); intro zzt1' zzh' zzF' zzN'; (try dsimp only at zzN'))))
  k_with "Z12setAttr ref" => (k_here; case' zzhy => (k_dflt ((refine' exl_none ?zzk1 ?zzk2 ?zzk3 ?zzk4 ?zzk5 ?zzk6 ?_; (case zzk1 => k_asm); (case zzk2 => k_asm); (case zzk3 => k_asm); (case zzk4 => k_updF); (case zzk5 => k_is); (case zzk6 => k_is)); intro zzd' zzh' zzF' zzN' zzq'; (simp only [AllNe, and_true] at zzq'); (try dsimp only at zzN'))))
  k_with "Z12setAttr ref" => (k_here; case' zzhy => (k_dflt ((refine' exl_some ?zzk1 ?zzk2 ?zzk3 ?zzk4 ?zzkd ?zzk5 ?zzk6 ?zzk7 ?zzk8 ?zzk9 ?zzkz ?_; (case zzk1 => k_asm); (case zzk2 => k_asm); (case zzk3 => k_asm); (case zzk4 => k_mem); (case zzkd => k_mem); (case zzk5 => k_get); (case zzk6 => k_put); (case zzk7 => k_upd); (case zzk8 => k_is); (case zzk9 => k_is); (case zzkz => exact Nat.le_of_ble_eq_true rfl)); intro zzh' zzF' zzN'; (try dsimp only at zzN'))))
  trivial
theorem init_sp {s : Shared} {e t0 : Addr} {what : Str} {tw : Tok} {pl : Int} {tp : Tok} (he : s.heap.get? e = some (excObj none (.ref t0) .none)) : Sp w p loose mean mg mb 29 36 [.ref e, .str what tw, .int pl tp] [e] s
    (fun v h => v = .none ∧ ∃ d t1 u1 u2, s.heap.get? d = none ∧ h.get? e = some (excObj (some d) (.ref t1) .none) ∧ h.get? d = some (dictOf [⟨PyData.keyHash w.params "what", .str "what" u1, .str what tw⟩, ⟨PyData.keyHash w.params "at", .str "at" u2, .int pl tp⟩] 2)) := by
 refine no_implicit_lambda% ((?qf0 : @Wit ?qp0 ?qe0 → ?qp0) (wit2 ?q00 ?qh0))
 case qf0 => exact fun _ => ?qe0
 case q00 =>
  intro A₀ base h₀ env outer L m R B F X T hf hke hM hret
  k_dflt (refine' enter (H := [e]) (news := [(e, excObj none (.ref t0) .none)])  B F X T hf hke (fun x hx => hM x hx) (fun q hq => by rcases List.mem_singleton.mp hq with rfl; exact ⟨he, .head _⟩) ?ho ?hcd ?hb ?hl ?_ ?hc ?hr ?c1 ?c2 ?c3)
  case ho => k_is
  case hcd => k_is
  case hb => exact binds_K (X.keeps F.keep) rfl (by k_is) rfl rfl rfl
  case hl => exact locs rfl
  case hc => decide
  case hr => exact Nat.le_of_ble_eq_true rfl
  case c1 => exact rfl
  case c2 => exact rfl
  case c3 => exact rfl
  intro g L' h₁ tk₁ hkeep hback F' hL' N' hk1 B' X' T'
  clear B F X T

  (try dsimp only)
  (try k_fold)
  k_steps
  refine hret _ _ _ (keep_end hkeep (by assumption)) ⟨rfl, ?_⟩
  refine' end_init hkeep ?zN ?zm1 ?zm2 ?zne
  case zN => assumption
  case zm1 => walk_at "MEM"
  case zm2 => walk_at "MEM"
  case zne => exact Ne.symm (by assumption)
 case qh0 => (try delta id oq1 oq2); exact fun h => h

end
end
section
theorem kg13 : True := trivial
theorem dict_mapFields (o : Obj) (f : Array Value → Array Value) : (o.mapFields f).dict = o.dict := by
  obtain ⟨c, d, dt, sl⟩ := o
  cases dt <;> rfl
def TrD (h B : Heap) (e d : Addr) (fl : Value) : Prop :=
  ∃ oe vs T oT ts, h.get? e = some oe ∧ (oe.cls = .ref 59 ∧ oe.dict = some d) ∧ oe.data = .fields vs ∧ vs[1]? = some (.ref T) ∧ B.get? T = none ∧ T ≠ e ∧ h.get? T = some oT ∧ oT.data = .fields ts ∧ ts[3]? = some fl
def NotedD (B : Heap) (l : List Env) (e d : Addr) (fl : Value) (h h' : Heap) : Prop := B.StaysIn h' ∧ h'.FunFrames B l ∧ TrD h' B e d fl ∧ h.UpToSlots h'
def FlyD (B : Heap) (l : List Env) (e d : Addr) (h : Heap) : Prop := B.StaysIn h ∧ B.get? e = none ∧ h.FunFrames B l ∧ TrD h B e d .none
section
variable {M : Model} {A : Around} {E : Value → Shared → Prop} {s : Shared}
theorem entryD {B : Heap} {env : Env} {outer : List Env} {L e d : Addr} {oe : Obj} {vs : Array Value} {head : Value} {hadNext : Bool} {Q : Unit → Shared → Prop}
    (hfr : A.frames = some (env :: outer)) (hl : s.heap.FunFrames B (env :: outer)) (hf : env.frame = some L)
    (he : s.heap.get? e = some oe) (hc : oe.cls = .ref 59 ∧ oe.dict = some d) (hkb : B.StaysIn s.heap) (hen : B.get? e = none) (hd : oe.data = .fields vs) (hsz : 1 < vs.size)
    (h : ∀ h', NotedD B (env :: outer) e d (rawInt L) s.heap h' → Q () { s with heap := h' }) :
    wpAny M A (do let a ← frameOf env; let pl ← entryPlaceOf L hadNext; let b ← EntryCells.newEntry head a .none (rawInt L) .none pl; setField (.ref e) 1 b) Q E s := by
 refine no_implicit_lambda% ((?qf0 : @Wit ?qp0 ?qe0 → ?qp0) (wit2 ?q00 ?qh0))
 case qf0 => exact fun _ => ?qe0
 case q00 =>
  have hene : e ∉ (env :: outer).filterMap (·.frame) := fun hm => by
    obtain ⟨_, o, ho, hnf⟩ := hl.mem hm
    rw [he] at ho; injection ho with ho; subst ho; exact hnf vs hd
  refine wpAny_bind (wpAny_frameOf_fun hfr hl hf fun h₁ hs₁ => ?_)
  refine wpAny_bind (wpAny_entryPlaceOf fun pl hpl => ?_)
  unfold EntryCells.newEntry newFields
  refine wpAny_bind (wpAny_newObj_type ?_ (hpl.sizeOk5 _ _ _ _ _))
  have he₁ : h₁.get? e = some oe := (hs₁.2.1 e hene).trans he
  have kb₁ : B.StaysIn h₁ := fun b o hbo => (hs₁.2.1 b fun hm => by rw [(hl.mem hm).1] at hbo; cases hbo).trans (hkb b o hbo)
  have he₂ := Heap.get?_push_of_some (h := h₁) { cls := .type "traceback", dict := none, data := .fields ([head, .ref L, .none, rawInt L, .none] ++ (if pl.isEmpty then List.replicate 6 Value.none else pl)).toArray } he₁
  refine wpAny_setField he₂ hd hsz (h _ ?_)
  have hTe : h₁.objs.size ≠ e := Nat.ne_of_gt (Heap.lt_size he₁)
  have hd₃ := Obj.data_mapFields hd (·.setIfInBounds 1 (Value.ref h₁.objs.size))
  have he₃ := Heap.get?_update_self (Obj.mapFields (·.setIfInBounds 1 (Value.ref h₁.objs.size))) he₂ (Obj.isFreed_of_fields hd₃)
  have hT₃ := (Heap.get?_update_other (h₁.push { cls := .type "traceback", dict := none, data := .fields ([head, .ref L, .none, rawInt L, .none] ++ (if pl.isEmpty then List.replicate 6 Value.none else pl)).toArray })
    (Obj.mapFields (·.setIfInBounds 1 (Value.ref h₁.objs.size))) (Ne.symm hTe)).trans (Heap.get?_push_size h₁ rfl)
  have keep : ∀ b o, b ≠ e → h₁.get? b = some o →
      ((h₁.push { cls := .type "traceback", dict := none, data := .fields ([head, .ref L, .none, rawInt L, .none] ++ (if pl.isEmpty then List.replicate 6 Value.none else pl)).toArray }).update e (Obj.mapFields (·.setIfInBounds 1 (Value.ref h₁.objs.size)))).get? b = some o :=
    fun b o hbe hb => by
      rw [Heap.get?_update_other _ _ (Ne.symm hbe)]
      exact Heap.get?_push_of_some _ hb
  have noRecord : ∀ b o, s.heap.get? b = some o → (∀ vs, o.data ≠ .fields vs) → b ≠ e := fun b o hb hnf q => by
    rw [q, he] at hb; injection hb with hb; subst hb; exact hnf vs hd
  refine ⟨fun b o hbo => keep b o (fun q => by rw [q, hen] at hbo; cases hbo) (kb₁ b o hbo), hl.of_keeps fun b o hb hnf => ?_, ?_, fun b o hb hnf => ?_⟩
  · obtain ⟨sl, hs⟩ := hs₁.2.2 b o hb
    exact ⟨_, keep b _ (noRecord b o hb hnf) hs, rfl⟩
  · exact (ei2 ⟨h₁.objs.size, _, _, he₃, ⟨(Obj.cls_mapFields _ _).trans hc.1, (dict_mapFields _ _).trans hc.2⟩, hd₃, by simp [hsz], kb₁.fresh, hTe, hT₃, rfl, by first | (simp; done) | (rcases hpl with rfl | ⟨_, _, _, _, _, _, _, rfl⟩ <;> simp)⟩)
  · obtain ⟨sl, hs⟩ := hs₁.2.2 b o hb
    exact ⟨sl, keep b _ (noRecord b o hb hnf) hs⟩
 case qh0 => (try delta id oq1 oq2); exact fun h => h

theorem noteFirstD {B : Heap} {env : Env} {outer : List Env} {L e d : Addr} {oe : Obj} {vs : Array Value} {Q : Unit → Shared → Prop}
    (hfr : A.frames = some (env :: outer)) (hl : s.heap.FunFrames B (env :: outer)) (hf : env.frame = some L)
    (he : s.heap.get? e = some oe) (hc : oe.cls = .ref 59 ∧ oe.dict = some d) (hkb : B.StaysIn s.heap) (hen : B.get? e = none) (hd : oe.data = .fields vs) (h1 : vs[1]? = some .none)
    (h : ∀ h', NotedD B (env :: outer) e d (rawInt L) s.heap h' → Q () { s with heap := h' }) : wpAny M A (noteFrame (.ref e) env) Q E s := by
  unfold noteFrame
  simp only [hf]
  refine wpAny_bind (wpAny_field he hd h1 ?_)
  rw [if_neg (by decide)]
  exact entryD hfr hl hf he hc hkb hen hd (Array.getElem?_eq_some_iff.mp h1).1 h
theorem noteD {B : Heap} {env : Env} {outer : List Env} {L e d : Addr} {Q : Unit → Shared → Prop}
    (hfr : A.frames = some (env :: outer)) (hl : s.heap.FunFrames B (env :: outer)) (hf : env.frame = some L) (ht : TrD s.heap B e d .none) (hkb : B.StaysIn s.heap) (hen : B.get? e = none)
    (h : ∀ h', NotedD B (env :: outer) e d (rawInt L) s.heap h' → Q () { s with heap := h' }) : wpAny M A (noteFrame (.ref e) env) Q E s := by
 refine no_implicit_lambda% ((?qf0 : @Wit ?qp0 ?qe0 → ?qp0) (wit2 ?q00 ?qh0))
 case qf0 => exact fun _ => ?qe0
 case q00 =>
  obtain ⟨oe, vs, T, oT, ts, he, hcls, hd, h1, hnT, hTe, hT, hdT, h3⟩ := ht
  unfold noteFrame
  simp only [hf]
  refine wpAny_bind (wpAny_field he hd h1 ?_)
  rw [if_pos (show (Value.ref T != Value.none) = true from by simp)]
  refine wpAny_bind (wpAny_field hT hdT h3 ?_)
  rw [if_neg (show ¬ ((Value.none == rawInt L) = true) from by simp [rawInt])]
  refine wpAny_bind (wpAny_setField hT hdT (Array.getElem?_eq_some_iff.mp h3).1 ?_)
  have other : ∀ b, b ≠ T → (s.heap.update T (Obj.mapFields (·.setIfInBounds 3 Value.none))).get? b = s.heap.get? b := fun b hb => Heap.get?_update_other _ _ (Ne.symm hb)
  have noRecord : ∀ b o, s.heap.get? b = some o → (∀ vs, o.data ≠ .fields vs) → b ≠ T := fun b o hb hnf q => by
    rw [q, hT] at hb; injection hb with hb; subst hb; exact hnf ts hdT
  refine entryD hfr (hl.of_keeps fun b o hb hnf => ⟨o, (other b (noRecord b o hb hnf)).trans hb, rfl⟩) hf ((other e (Ne.symm hTe)).trans he) hcls
    (fun b o hbo => (other b fun q => by rw [q, hnT] at hbo; cases hbo).trans (hkb b o hbo)) hen hd (Array.getElem?_eq_some_iff.mp h1).1
    fun h' ⟨x1, x2, x3, x4⟩ => h h' ⟨x1, x2, x3, fun b o hb hnf => x4 b o ((other b (noRecord b o hb hnf)).trans hb) hnf⟩
 case qh0 => (try delta id oq1 oq2); exact fun h => h

theorem flightD {B : Heap} {l : List Env} {e d : Addr} {fl : Value} {Q : Unit → Shared → Prop}
    (hkb : B.StaysIn s.heap) (hl : s.heap.FunFrames B l) (hen : B.get? e = none) (ht : TrD s.heap B e d fl)
    (h : ∀ h', FlyD B l e d h' → s.heap.UpToSlots h' → Q () { s with heap := h' }) : wpAny M A (setFlight (.ref e) none) Q E s := by
 refine no_implicit_lambda% ((?qf0 : @Wit ?qp0 ?qe0 → ?qp0) (wit2 ?q00 ?qh0))
 case qf0 => exact fun _ => ?qe0
 case q00 =>
  obtain ⟨oe, vs, T, oT, ts, he, hcls, hd, h1, hnT, hTe, hT, hdT, h3⟩ := ht
  have hsz3 : 3 < ts.size := (Array.getElem?_eq_some_iff.mp h3).1
  have other : ∀ b, b ≠ T → (s.heap.update T (Obj.mapFields (·.setIfInBounds 3 ((none : Option Addr).elim Value.none fun f => rawInt f)))).get? b = s.heap.get? b :=
    fun b hb => Heap.get?_update_other _ _ (Ne.symm hb)
  have noRecord : ∀ b o, s.heap.get? b = some o → (∀ vs, o.data ≠ .fields vs) → b ≠ T := fun b o hb hnf q => by
    rw [q, hT] at hb; injection hb with hb; subst hb; exact hnf ts hdT
  unfold setFlight
  refine wpAny_bind (wpAny_field he hd h1 ?_)
  rw [if_pos (show (Value.ref T != Value.none) = true from by simp)]
  refine wpAny_setField hT hdT hsz3 (h _ ⟨fun b o hbo => (other b fun q => by rw [q, hnT] at hbo; cases hbo).trans (hkb b o hbo), hen,
    hl.of_keeps fun b o hb hnf => ⟨o, (other b (noRecord b o hb hnf)).trans hb, rfl⟩, ?_⟩ fun b o hb hnf => ⟨o.slots, (other b (noRecord b o hb hnf)).trans hb⟩)
  exact ⟨oe, vs, T, _, _, (other e (Ne.symm hTe)).trans he, hcls, hd, h1, hnT, hTe, Heap.get?_update_self _ hT (Obj.isFreed_of_fields (Obj.data_mapFields hdT _)), Obj.data_mapFields hdT _, by simp [hsz3]⟩
 case qh0 => (try delta id oq1 oq2); exact fun h => h

theorem flyTail {B h : Heap} {env : Env} {outer : List Env} {e d : Addr} (x : FlyD B (env :: outer) e d h) : FlyD B outer e d h := ⟨x.1, x.2.1, x.2.2.1.2.2, x.2.2.2⟩
theorem leaveD {B : Heap} {env : Env} {outer : List Env} {L e d : Addr} {Q : Unit → Shared → Prop} (hfr : A.frames = some (env :: outer)) (hf : env.frame = some L) (hfl : FlyD B (env :: outer) e d s.heap)
    (hQ : ∀ h', FlyD B outer e d h' → s.heap.UpToSlots h' → Q () { s with heap := h' }) : wpAny M A (leaving env (.ref e)) Q E s := by
 refine no_implicit_lambda% ((?qf0 : @Wit ?qp0 ?qe0 → ?qp0) (wit2 ?q00 ?qh0))
 case qf0 => exact fun _ => ?qe0
 case q00 =>
  obtain ⟨f1, f2, f3, f4⟩ := hfl
  unfold leaving
  refine wpAny_bind (noteD hfr f3 hf f4 f1 f2 fun h₁ ⟨k1, k2, k3, k4⟩ => ?_)
  exact flightD (s := { s with heap := h₁ }) k1 k2 f2 k3 fun h' x1 x2 => hQ h' (flyTail x1) (k4.trans x2)
 case qh0 => (try delta id oq1 oq2); exact fun h => h

theorem leaveFirstD {B : Heap} {env : Env} {outer : List Env} {L e d : Addr} {a0 : Value} {Q : Unit → Shared → Prop} (hfr : A.frames = some (env :: outer)) (hf : env.frame = some L)
    (hl : s.heap.FunFrames B (env :: outer)) (he : s.heap.get? e = some (excObj (some d) a0 .none)) (hkb : B.StaysIn s.heap) (hen : B.get? e = none)
    (hQ : ∀ h', FlyD B outer e d h' → s.heap.UpToSlots h' → Q () { s with heap := h' }) : wpAny M A (leaving env (.ref e)) Q E s := by
  unfold leaving
  refine wpAny_bind (noteFirstD hfr hl hf he ⟨rfl, rfl⟩ hkb hen rfl rfl fun h₁ ⟨k1, k2, k3, k4⟩ => ?_)
  exact flightD (s := { s with heap := h₁ }) k1 k2 hen k3 fun h' x1 x2 => hQ h' (flyTail x1) (k4.trans x2)
end
end
section
theorem kg14 : True := trivial
theorem fresh_bk {s h : Heap} {a : Addr} (f : h.get? a = none) (k : ∀ b o, s.get? b = some o → h.get? b = some o) : s.get? a = none := by
  cases q : s.get? a with
  | none => rfl
  | some o => have := k _ _ q; rw [f] at this; cases this
section
variable {w : World}
theorem ns58 {h : Heap} (X : (hd.heap_1 w.params).In h) : ∃ mN, h.Ns 58 mN ∧ mN "__init__" = none := by
  refine ⟨_, ⟨_, _, _, X 58 _ rfl, rfl, ?_, fun _ => rfl⟩, rfl⟩
  intro e he
  simp only [List.mem_toArray, List.mem_cons, List.not_mem_nil, or_false] at he
  rcases he with rfl | rfl | rfl | rfl <;> exact (ei2 (rfl))
theorem ns45 {h : Heap} (X : (hd.heap_1 w.params).In h) : ∃ mN, h.Ns 45 mN ∧ mN "__init__" = some (.ref 36) := by
  refine ⟨_, ⟨_, _, _, X 45 _ rfl, rfl, ?_, fun _ => rfl⟩, rfl⟩
  intro e he
  simp only [List.mem_toArray, List.mem_cons, List.not_mem_nil, or_false] at he
  rcases he with rfl | rfl | rfl | rfl | rfl | rfl | rfl <;> exact (ei2 (rfl))
theorem h46 {h : Heap} (X : (hd.heap_1 w.params).In h) : ∃ c0 dD cd sD, h.get? 46 = some { cls := c0, dict := dD, data := .cls cd, slots := sD } ∧ cd.ns = 45 := (ei4 ⟨X 46 _ rfl, rfl⟩)
theorem h36 {h : Heap} (X : (hd.heap_1 w.params).In h) : ∃ o, h.get? 36 = some o ∧ o.cls = .type "function" := ⟨_, X 36 _ rfl, rfl⟩
end
section
variable {w : World} {p : Program} {loose : List Str} {mean : ExcName → Option Value} {mg mb : Str → Option Value}
  {A A₀ : Around} {base g : Heap} {outer : List Env} {L : Addr} {m : Str → Option Value} {env : Env} {s : Shared}
def SaysAt (P : Params) (h : Heap) (d : Addr) (what : Str) (pl : Int) : Prop := ∃ u1 u2 tw tp, h.get? d = some (dictOf [⟨PyData.keyHash P "what", .str "what" u1, .str what tw⟩, ⟨PyData.keyHash P "at", .str "at" u2, .int pl tp⟩] 2)
theorem refusal_call {what : Str} {tw : Tok} {pl : Int} {tp : Tok} {Q E : Value → Shared → Prop} (B : Below A₀ base outer g) (F : Fr g L s.heap m) (X : (hd.heap_1 w.params).In g) (T : Top p loose mean mg mb g)
    (hA : A.frames = some (env :: outer)) (hf : env.frame = some L) (hke : env.scope.kind = .function) (hh : A.handled = none) (hd : (A.under (.builtin "type.__call__" ⟨[.ref 59, .str what tw, .int pl tp], []⟩)).depth ≤ 301 + 20 * 29) (hu : (A.under (.builtin "type.__call__" ⟨[.ref 59, .str what tw, .int pl tp], []⟩)).units ≤ 4 + 100 * 29)
    (hQ : ∀ e d t1 h' tk', s.heap.get? e = none → s.heap.get? d = none → (∀ b o, s.heap.get? b = some o → h'.get? b = some o) → h'.get? e = some (excObj (some d) (.ref t1) .none) → SaysAt w.params h' d what pl → Fr g L h' m → Q (.ref e) { s with heap := h', toks := tk' }) :
    wpAny (model Pg w) A (call (.ref 59) [.str what tw, .int pl tp]) Q E s := by
 refine no_implicit_lambda% ((?qf0 : @Wit ?qp0 ?qe0 → ?qp0) (wit2 ?q00 ?qh0))
 case qf0 => exact fun _ => ?qe0
 case q00 =>
  obtain ⟨hp, gn, dr, tk, os⟩ := s
  have X' := X.keeps F.keep
  obtain ⟨q, hdct, sn, sub, ab, col, dd, k0, k1, k2, k3, k5, hC⟩ := h59 X'
  obtain ⟨mN, n1, n2⟩ := ns58 X'
  obtain ⟨mD, n3, n4⟩ := ns45 X'
  obtain ⟨c0, dD, cd, sD, n5, n6⟩ := h46 X'
  obtain ⟨o36, n7, n8⟩ := h36 X'
  refine oi_call PySem.F.excBase_Exception rfl rfl rfl hC n1 n2 rfl n5 (n6 ▸ n3) n4 n7 n8 (fun h' e hm => ?_) (by show 2 ≤ sizeLine; rw [sizeLine_eq]; decide)
  obtain ⟨t, he, ht, _⟩ := hm.there
  have hM : ∀ a ∈ [e], g.get? a = none ∧ a ≠ L := by
    intro a ha
    rcases List.mem_singleton.mp ha with rfl
    refine ⟨?_, fun z => ?_⟩
    · cases z : g.get? a with
      | none => rfl
      | some o => have := F.keep _ _ z; rw [hm.new] at this; cases this
    · obtain ⟨oL, _, _, ho, _⟩ := F.ns
      rw [← z, hm.new] at ho
      cases ho
  have F1 : Fr g L h' m := frKeep (M := []) F (fun _ ha => nomatch ha) (Keep.of _ hm.keeps)
  refine use_sp (init_sp (s := ⟨h', gn, dr, tk, os⟩) he) B F1 X T hA hf hke hh hd hu hM fun v h2 tk2 k2 F2 P2 => ?_
  obtain ⟨rfl, d, t1, u1, u2, hd0, he2, hd2⟩ := P2
  refine ⟨rfl, hQ e d t1 h2 tk2 hm.new (fresh_bk hd0 hm.keeps) (fun b o hb => k2 b o (fun z => ?_) (hm.keeps b o hb)) he2 ⟨u1, u2, tw, tp, hd2⟩ F2⟩
  rcases List.mem_singleton.mp z with rfl
  rw [hm.new] at hb
  cases hb
 case qh0 => (try delta id oq1 oq2); exact fun h => h

theorem ex_raiseStmt {M : Model} {x : Sem Value} {Q : Flow → Shared → Prop} {E : Value → Shared → Prop} (hh : A.handled = none)
    (h : wpAny M A x (fun v s₁ => ∃ e dd t, v = .ref e ∧ (hd.heap_1 w.params).In s₁.heap ∧ s₁.heap.get? e = some (excObj dd (.ref t) .none) ∧ E (.ref e) s₁) E s) :
    wpAny M A (raiseStmt env (some x) none) Q E s := by
 refine no_implicit_lambda% ((?qf0 : @Wit ?qp0 ?qe0 → ?qp0) (wit2 ?q00 ?qh0))
 case qf0 => exact fun _ => ?qe0
 case q00 =>
  unfold raiseStmt
  refine wpAny_bind (wpAny_mono h (fun v s₁ h₁ => ?_) fun _ _ x => x)
  obtain ⟨e, dd', t, rfl, X, he, hE⟩ := h₁
  obtain ⟨q, hdct, sn, sub, ab, col, dd, k0, k1, k2, k3, k5, hC⟩ := h59 X
  have hcB : (Value.ref 59 :: [Value.ref 46, .type "Exception", .type "BaseException", .type "object"]).contains (.type "BaseException") = true := rfl
  obtain ⟨hp, g, d, tk, os⟩ := s₁
  repeat (first | with_reducible refine wpAny_loadPart_at he ?_ | with_reducible refine wpAny_loadPart_at hC ?_ | (with_reducible refine wpAny_isSubtype_exc hC ?_; rw [hcB]) | wp_step)
  exact wpAny_raiseNew_none hh hE
 case qh0 => (try delta id oq1 oq2); exact fun h => h

theorem ex_raise {M : Model} {x : Expr} {pos : Pos} {Q : Flow → Shared → Prop} {E : Value → Shared → Prop} (_X : (hd.heap_1 w.params).In g) (hh : A.handled = none)
    (h : wpAny M A (eval x env) (fun v s₁ => ∃ e dd t, v = .ref e ∧ (hd.heap_1 w.params).In s₁.heap ∧ s₁.heap.get? e = some (excObj dd (.ref t) .none) ∧ E (.ref e) s₁) E s) :
    wpAny M A (exec (.Raise (some x) none pos) env) Q E s := by
  rw [arm_exec_Raise]
  refine wpAny_bind (wpAny_standAt ?_)
  simp only [evalOpt, Option.map]
  exact ex_raiseStmt (w := w) hh (wpAny_bind (wpAny_mono h (fun v s₃ h₃ => wpAny_bind (wpAny_standAt (wpAny_pure h₃))) fun _ _ x => x))
end
end
section
theorem kg15 : True := trivial
@[reducible] def frs (l : List Env) : List Addr := l.filterMap (·.frame)
structure Thrown (P : Params) (s : Heap) (M : List Addr) (l : List Env) (e : Addr) (what : Str) (pl : Int) (h' : Heap) : Prop where
  fly : ∃ B d, FlyD B l e d h' ∧ SaysAt P B d what pl ∧ (hideAll s (M ++ frs l)).StaysIn B ∧ (hideAll s (M ++ frs l)).get? d = none
  up : ∀ b ∈ frs l, ∀ o, s.get? b = some o → ∃ sl, h'.get? b = some { o with slots := sl }
section
variable (w : World) (p : Program) (loose : List Str) (mean : ExcName → Option Value) (mg mb : Str → Option Value)
def SpE (n : Nat) (f : Addr) (vs : List Value) (M : List Addr) (s : Shared) (Post : Value → Heap → Prop) (Err : Str → Int → Prop) : Prop :=
  ∀ (A₀ : Around) (base h₀ : Heap) (env : Env) (outer : List Env) (L : Addr) (m : Str → Option Value) (R : Result → Shared → Prop),
    Below A₀ base outer h₀ → Fr h₀ L s.heap m → (hd.heap_1 w.params).In h₀ → Top p loose mean mg mb h₀ → env.frame = some L → env.scope.kind = .function →
    (∀ a ∈ M, h₀.get? a = none ∧ a ≠ L) →
    (∀ v h' tk', Keep M s.heap h' → Post v h' → R (.ok (.ret v)) { s with heap := h', toks := tk' }) →
    (∀ e what pl h' tk', Err what pl → Thrown w.params s.heap M (env :: outer) e what pl h' → R (.error (.ref e)) { s with heap := h', toks := tk' }) →
    codeAny (model Pg w) (lev n (env :: outer)) (.call (.ref f) ⟨vs, []⟩) R s
end
section
variable {w : World} {p : Program} {loose : List Str} {mean : ExcName → Option Value} {mg mb : Str → Option Value}
  {A A₀ : Around} {base g : Heap} {outer : List Env} {L : Addr} {m : Str → Option Value} {env : Env} {s : Shared} {n : Nat} {M : List Addr}
theorem use_spe {f : Addr} {vs : List Value} {Post : Value → Heap → Prop} {Err : Str → Int → Prop} {Q E : Value → Shared → Prop} (S : SpE w p loose mean mg mb n f vs M s Post Err)
    (B : Below A₀ base outer g) (F : Fr g L s.heap m) (X : (hd.heap_1 w.params).In g) (T : Top p loose mean mg mb g)
    (hA : A.frames = some (env :: outer)) (hf : env.frame = some L) (hke : env.scope.kind = .function) (hh : A.handled = none) (hd : A.depth ≤ 301 + 20 * n) (hu : A.units ≤ 4 + 100 * n)
    (hM : ∀ a ∈ M, g.get? a = none ∧ a ≠ L)
    (hQ : ∀ v h' tk', Keep M s.heap h' → Fr g L h' m → Post v h' → Q v { s with heap := h', toks := tk' })
    (hE : ∀ e what pl h' tk', Err what pl → Thrown w.params s.heap M (env :: outer) e what pl h' → E (.ref e) { s with heap := h', toks := tk' }) : wpAny (model Pg w) A (call (.ref f) vs) Q E s := by
  refine wpAny_call (code_lev (A' := lev n (env :: outer)) (S A₀ base g env outer L m _ B F X T hf hke hM (fun v h' tk' k q => ?_) (fun e what pl h' tk' x y => hE e what pl h' tk' x y)) hh hd hA.symm rfl hu)
  exact hQ v h' tk' k (frKeep F hM k) q
theorem SpE.of {f : Addr} {vs : List Value} {Post : Value → Heap → Prop} (S : Sp w p loose mean mg mb n f vs M s Post) : SpE w p loose mean mg mb n f vs M s Post (fun _ _ => False) :=
  fun A₀ base h₀ env outer L m R B F X T hf hke hM hret _ => S A₀ base h₀ env outer L m R B F X T hf hke hM hret
theorem mem_frs {l : List Env} {env : Env} {b : Addr} (hm : env ∈ l) (hf : env.frame = some b) : b ∈ frs l := List.mem_filterMap.mpr ⟨env, hm, hf⟩
theorem hide_some {h : Heap} {as : List Addr} {b : Addr} {o : Obj} (q : (hideAll h as).get? b = some o) : h.get? b = some o ∧ b ∉ as :=
  ⟨of_hideAll _ q, fun z => by rw [hideAll_none _ z] at q; cases q⟩
theorem raise_leave {h0 h2 : Heap} {envX : Env} {L' e d : Addr} {a0 : Value} {what : Str} {pl : Int} {m' : Str → Option Value} {Q : Unit → Shared → Prop} {E : Value → Shared → Prop} {tk : Nat} {l : List Env} {MM : Model}
    (hkeep : Keep M s.heap g) (hback : ∀ b o, g.get? b = some o → s.heap.get? b = some o) (K : Below A₀ base l g)
    (he2 : h2.get? e = some (excObj (some d) a0 .none)) (he0 : h0.get? e = none) (hd0 : h0.get? d = none) (hs : SaysAt w.params h2 d what pl) (F0 : Fr g L' h0 m) (F2 : Fr g L' h2 m') (hL' : s.heap.get? L' = none)
    (hA : A.frames = some (envX :: l)) (hf : envX.frame = some L') (hke : envX.scope.kind = .function)
    (hQ : ∀ h', Thrown w.params s.heap M l e what pl h' → Q () { s with heap := h', toks := tk }) : wpAny MM A (leaving envX (.ref e)) Q E { s with heap := h2, toks := tk } := by
 refine no_implicit_lambda% ((?qf0 : @Wit ?qp0 ?qe0 → ?qp0) (wit2 ?q00 ?qh0))
 case qf0 => exact fun _ => ?qe0
 case q00 =>
  have hgL : g.get? L' = none := by
    cases z : g.get? L' with
    | none => rfl
    | some o => have := hback _ _ z; rw [hL'] at this; cases this
  have hbL : base.get? L' = none := fresh_bk hgL K.stays
  have hfr : h2.FunFrames base (envX :: l) := .cons (by rw [hke]; decide) hf F2.ns hbL (K.frames.of_keeps fun b o q _ => ⟨o, F2.keep b o q, rfl⟩)
  have hge : g.get? e = none := fresh_bk he0 F0.keep
  have heL : e ≠ L' := by
    intro z
    obtain ⟨oL, _, _, ho, _⟩ := F0.ns
    rw [← z, he0] at ho
    cases ho
  have hdL : d ≠ L' := by
    intro z
    obtain ⟨oL, _, _, ho, _⟩ := F0.ns
    rw [← z, hd0] at ho
    cases ho
  have hde : d ≠ e := by
    intro z
    obtain ⟨_, _, _, _, hd2⟩ := hs
    rw [z, he2] at hd2
    cases hd2
  have hdf : d ∉ frs l := by
    intro z
    obtain ⟨_, o, ho, _⟩ := K.frames.mem z
    rw [F0.keep _ _ ho] at hd0
    cases hd0
  have hef : e ∉ frs l := by
    intro z
    obtain ⟨_, o, ho, _⟩ := K.frames.mem z
    rw [F0.keep _ _ ho] at he0
    cases he0
  have hcons : frs (envX :: l) = L' :: frs l := by
    show List.filterMap (·.frame) (envX :: l) = _
    rw [List.filterMap_cons, hf]
  refine leaveFirstD (s := { s with heap := h2, toks := tk }) (B := hideAll h2 (e :: frs (envX :: l))) (d := d) (a0 := a0) hA hf (funFrames_hide hfr fun env' he' a ha => .tail _ (mem_frs he' ha)) he2 (fun b o q => of_hideAll _ q) (hideAll_none _ (.head _)) fun h' x1 x2 => hQ h' ⟨⟨_, d, x1, ?_, fun b o q => ?_, ?_⟩, fun b hb o q => ?_⟩
  · obtain ⟨u1, u2, tw, tp, hd2⟩ := hs
    refine ⟨u1, u2, tw, tp, hideAll_get _ hd2 ?_⟩
    rw [hcons, List.mem_cons, List.mem_cons]
    rintro (z | z | z)
    · exact hde z
    · exact hdL z
    · exact hdf z
  · obtain ⟨q1, q2⟩ := hide_some q
    rw [List.mem_append, not_or] at q2
    have q3 := F2.keep _ _ (hkeep _ _ q2.1 q1)
    refine hideAll_get _ q3 ?_
    rw [hcons, List.mem_cons, List.mem_cons]
    rintro (z | z | z)
    · have := hkeep _ _ q2.1 q1
      rw [z, hge] at this
      cases this
    · rw [z, hL'] at q1
      cases q1
    · exact q2.2 z
  · cases q : (hideAll s.heap (M ++ frs l)).get? d with
    | none => rfl
    | some o =>
      obtain ⟨q1, q2⟩ := hide_some q
      rw [List.mem_append, not_or] at q2
      have := F0.keep _ _ (hkeep _ _ q2.1 q1)
      rw [hd0] at this
      cases this
  · obtain ⟨_, o', ho', hnf⟩ := K.frames.mem hb
    have := hback _ _ ho'
    rw [q] at this
    cases this
    exact x2 b o (F2.keep _ _ ho') hnf
 case qh0 => (try delta id oq1 oq2); exact fun h => h

theorem pass_leave {s1 : Heap} {h2 : Heap} {envX : Env} {L' e : Addr} {M1 : List Addr} {what : Str} {pl : Int} {Q : Unit → Shared → Prop} {E : Value → Shared → Prop} {tk : Nat} {l : List Env} {MM : Model}
    (hkeep : Keep M s.heap g) (hback : ∀ b o, g.get? b = some o → s.heap.get? b = some o) (K : Below A₀ base l g) (F1 : Fr g L' s1 m) (hL' : s.heap.get? L' = none)
    (hA : A.frames = some (envX :: l)) (hf : envX.frame = some L') (hM1 : ∀ a ∈ M1, g.get? a = none ∧ a ≠ L') (x : Thrown w.params s1 M1 (envX :: l) e what pl h2)
    (hQ : ∀ h', Thrown w.params s.heap M l e what pl h' → Q () { s with heap := h', toks := tk }) : wpAny MM A (leaving envX (.ref e)) Q E { s with heap := h2, toks := tk } := by
 refine no_implicit_lambda% ((?qf0 : @Wit ?qp0 ?qe0 → ?qp0) (wit2 ?q00 ?qh0))
 case qf0 => exact fun _ => ?qe0
 case q00 =>
  obtain ⟨⟨B, d, f1, f2, f3, f4⟩, up⟩ := x
  have hcons : frs (envX :: l) = L' :: frs l := by
    show List.filterMap (·.frame) (envX :: l) = _
    rw [List.filterMap_cons, hf]
  refine leaveD (s := { s with heap := h2, toks := tk }) hA hf f1 fun h' x1 x2 => hQ h' ⟨⟨B, d, x1, f2, fun b o q => ?_, ?_⟩, fun b hb o q => ?_⟩
  · obtain ⟨q1, q2⟩ := hide_some q
    rw [List.mem_append, not_or] at q2
    have q3 := hkeep _ _ q2.1 q1
    refine f3 b o (hideAll_get _ (F1.keep _ _ q3) ?_)
    rw [hcons, List.mem_append, List.mem_cons]
    rintro (z | z | z)
    · have := (hM1 b z).1
      rw [q3] at this
      cases this
    · rw [z, hL'] at q1
      cases q1
    · exact q2.2 z
  · cases q : (hideAll s.heap (M ++ frs l)).get? d with
    | none => rfl
    | some o =>
      obtain ⟨q1, q2⟩ := hide_some q
      rw [List.mem_append, not_or] at q2
      have q3 := hkeep _ _ q2.1 q1
      have q4 : (hideAll s1 (M1 ++ frs (envX :: l))).get? d = some o := by
        refine hideAll_get _ (F1.keep _ _ q3) ?_
        rw [hcons, List.mem_append, List.mem_cons]
        rintro (z | z | z)
        · have := (hM1 d z).1
          rw [q3] at this
          cases this
        · rw [z, hL'] at q1
          cases q1
        · exact q2.2 z
      rw [f4] at q4
      cases q4
  · obtain ⟨_, o', ho', hnf⟩ := K.frames.mem hb
    have := hback _ _ ho'
    rw [q] at this
    cases this
    obtain ⟨sl, hs⟩ := up b (by rw [hcons]; exact .tail _ hb) o (F1.keep _ _ ho')
    obtain ⟨sl', hs'⟩ := x2 b _ hs hnf
    exact ⟨sl', hs'⟩
 case qh0 => (try delta id oq1 oq2); exact fun h => h

end
end
section
theorem kg16 : True := trivial
def reFrames (h' : Heap) : List Addr → Heap → Heap
  | [], g => g
  | b :: r, g => match h'.get? b with
    | some o => reFrames h' r (g.update b fun _ => o)
    | none => reFrames h' r g
theorem reFrames_size {h' : Heap} : ∀ (bs : List Addr) (g : Heap), (reFrames h' bs g).objs.size = g.objs.size
  | [], _ => rfl
  | b :: r, g => by
    unfold reFrames
    split
    · rw [reFrames_size r, Heap.size_update]
    · exact reFrames_size r g
theorem reFrames_out {h' : Heap} {b : Addr} : ∀ (bs : List Addr) (g : Heap), b ∉ bs → (reFrames h' bs g).get? b = g.get? b
  | [], _, _ => rfl
  | c :: r, g, hn => by
    rw [List.mem_cons, not_or] at hn
    unfold reFrames
    split
    · rw [reFrames_out r _ hn.2, Heap.get?_update_other _ _ (Ne.symm hn.1)]
    · exact reFrames_out r g hn.2
theorem isFreed_get {h : Heap} {b : Addr} {o : Obj} (e : h.get? b = some o) : o.isFreed = false := (Heap.get?_some_iff.mp e).2
theorem reFrames_in {h' : Heap} {b : Addr} {o : Obj} (e : h'.get? b = some o) : ∀ (bs : List Addr) (g : Heap), b ∈ bs → (∃ o₀, g.get? b = some o₀) → (reFrames h' bs g).get? b = some o := by
 refine no_implicit_lambda% ((?qf0 : @Wit ?qp0 ?qe0 → ?qp0) (wit2 ?q00 ?qh0))
 case qf0 => exact fun _ => ?qe0
 case q00 =>
  intro bs
  induction bs with
  | nil => intro g hm; cases hm
  | cons c r ih =>
    intro g hm hx
    obtain ⟨o₀, h0⟩ := hx
    by_cases hr : b ∈ r
    · unfold reFrames
      split
      · rename_i oc hc
        refine ih _ hr ?_
        by_cases hcb : c = b
        · subst hcb
          exact ⟨oc, Heap.get?_update_self (fun _ => oc) h0 (isFreed_get hc)⟩
        · exact ⟨o₀, (Heap.get?_update_other _ _ hcb).trans h0⟩
      · exact ih g hr ⟨o₀, h0⟩
    · have hcb : b = c := by
        rcases List.mem_cons.mp hm with z | z
        · exact z
        · exact absurd z hr
      subst hcb
      unfold reFrames
      rw [e]
      (try dsimp only)
      rw [reFrames_out r _ hr]
      exact Heap.get?_update_self (fun _ => o) h0 (isFreed_get e)
 case qh0 => (try delta id oq1 oq2); exact fun h => h

section
variable {w : World} {p : Program} {loose : List Str} {mean : ExcName → Option Value} {mg mb : Str → Option Value}
  {A₀ : Around} {base g : Heap} {L : Addr} {m : Str → Option Value} {l : List Env}
structure Rebased (w : World) (p : Program) (loose : List Str) (mean : ExcName → Option Value) (mg mb : Str → Option Value) (A₀ : Around) (base g h6 : Heap) (l : List Env) (L : Addr) (m : Str → Option Value) (g2 : Heap) : Prop where
  fr : Fr g2 L h6 m
  below : Below A₀ base l g2
  inn : (hd.heap_1 w.params).In g2
  top : Top p loose mean mg mb g2
  out : ∀ b, b ∉ frs l → g2.get? b = g.get? b
  up : ∀ b ∈ frs l, ∀ o, g.get? b = some o → ∃ sl, g2.get? b = some { o with slots := sl }
  none : ∀ b, g.get? b = none → g2.get? b = none
theorem rebase {h6 : Heap} (K : Below A₀ base l g) (hab : g.objs.size ≤ L) (X : (hd.heap_1 w.params).In base) (T : Top p loose mean mg mb base) (ns : h6.Ns L m)
    (keep6 : ∀ b o, b ∉ frs l → g.get? b = some o → h6.get? b = some o) (up6 : ∀ b ∈ frs l, ∀ o, g.get? b = some o → ∃ sl, h6.get? b = some { o with slots := sl }) :
    ∃ g2, Rebased w p loose mean mg mb A₀ base g h6 l L m g2 := by
 refine no_implicit_lambda% ((?qf0 : @Wit ?qp0 ?qe0 → ?qp0) (wit2 ?q00 ?qh0))
 case qf0 => exact fun _ => ?qe0
 case q00 =>
  have fg : ∀ b ∈ frs l, ∃ o, g.get? b = some o := fun b hb => by
    obtain ⟨_, o, ho, _⟩ := K.frames.mem hb
    exact ⟨o, ho⟩
  have fb : ∀ b ∈ frs l, base.get? b = none := fun b hb => (K.frames.mem hb).1
  have upG : ∀ b ∈ frs l, ∀ o, g.get? b = some o → ∃ sl, (reFrames h6 (frs l) g).get? b = some { o with slots := sl } := fun b hb o ho => by
    obtain ⟨sl, e⟩ := up6 b hb o ho
    exact ⟨sl, reFrames_in e _ _ hb ⟨o, ho⟩⟩
  have outG : ∀ b, b ∉ frs l → (reFrames h6 (frs l) g).get? b = g.get? b := fun b hb => reFrames_out _ _ hb
  have stays : base.StaysIn (reFrames h6 (frs l) g) := fun b o e => by
    rw [outG b fun hb => by rw [fb b hb] at e; cases e]
    exact K.stays b o e
  refine ⟨reFrames h6 (frs l) g, ⟨ns, fun b o e => ?_, by rw [reFrames_size]; exact hab⟩, ⟨K.stack, stays, K.frames.of_keeps fun b o e _ => ?_⟩, X.keeps stays, T.keeps stays, outG, upG, fun b e => ?_⟩
  · by_cases hb : b ∈ frs l
    · obtain ⟨o₀, h0⟩ := fg b hb
      obtain ⟨sl, e2⟩ := up6 b hb o₀ h0
      rw [reFrames_in e2 _ _ hb ⟨o₀, h0⟩] at e
      cases e
      exact e2
    · rw [outG b hb] at e
      exact keep6 b o hb e
  · by_cases hb : b ∈ frs l
    · obtain ⟨sl, e2⟩ := upG b hb o e
      exact ⟨_, e2, rfl⟩
    · exact ⟨o, by rw [outG b hb]; exact e, rfl⟩
  · rw [outG b fun hb => by
      obtain ⟨o, ho⟩ := fg b hb
      rw [e] at ho
      cases ho]
    exact e
 case qh0 => (try delta id oq1 oq2); exact fun h => h

end
section
variable (w : World) (p : Program) (loose : List Str) (mean : ExcName → Option Value) (mg mb : Str → Option Value)
def SpH (n : Nat) (f : Addr) (vs : List Value) (M : List Addr) (s : Shared) (Post : Heap → Value → Heap → Prop) : Prop :=
  ∀ (A₀ : Around) (base h₀ : Heap) (env : Env) (outer : List Env) (L : Addr) (m : Str → Option Value) (R : Result → Shared → Prop),
    Below A₀ base outer h₀ → Fr h₀ L s.heap m → (hd.heap_1 w.params).In h₀ → Top p loose mean mg mb h₀ → (hd.heap_1 w.params).In base → Top p loose mean mg mb base → env.frame = some L → env.scope.kind = .function →
    (∀ a ∈ M, h₀.get? a = none ∧ a ≠ L) →
    (∀ v h' tk', Keep (M ++ frs (env :: outer)) s.heap h' → (∀ b ∈ frs (env :: outer), ∀ o, s.heap.get? b = some o → ∃ sl, h'.get? b = some { o with slots := sl }) → Post h₀ v h' → R (.ok (.ret v)) { s with heap := h', toks := tk' }) →
    codeAny (model Pg w) (lev n (env :: outer)) (.call (.ref f) ⟨vs, []⟩) R s
end
end
section
theorem kg17 : True := trivial
section
variable {prog : Program} {w : World} {A : Around} {E : Value → Shared → Prop} {s' : Shared} {B : Heap} {envH : Env} {l : List Env} {L' e d : Addr} {x n : Str} {np pos : Pos} {b₀ : Stmt} {suite : List Stmt} {rest : List ExceptHandler} {Q : Flow → Shared → Prop}
theorem caughtD (hfr : A.frames = some (envH :: l)) (hf : envH.frame = some L') (hfl : FlyD B (envH :: l) e d s'.heap)
    (X5 : ∀ h5, FlyD B (envH :: l) e d h5 → s'.heap.UpToSlots h5 → (hd.heap_1 w.params).In h5)
    (ev : ∀ h5 (Q5 E5 : Value → Shared → Prop), FlyD B (envH :: l) e d h5 → s'.heap.UpToSlots h5 → Q5 (.ref 59) { s' with heap := h5 } → wpAny (model prog w) (A.mark (some (.ref e))) (eval (.Name x np) envH) Q5 E5 { s' with heap := h5 })
    (k : ∀ h6 (E1 E2 : Value → Shared → Prop), FlyD B (envH :: l) e d h6 → s'.heap.UpToSlots h6 → wpAny (model prog w) (A.mark (some (.ref e))) (storeName envH n (.ref e)) (fun _ s₂ => wpAny (model prog w) (A.mark (some (.ref e))) (execs (b₀ :: suite) envH)
        (fun f s₄ => wpAny (model prog w) A (do bindName envH n .none; unbindBehindTheSuite envH n pos) (fun _ s₅ => Q f s₅) E s₄) E2 s₂) E1 { s' with heap := h6 }) :
    wpAny (model prog w) A (noteFrame (.ref e) envH) (fun _ s₂ => wpAny (model prog w) A (setFlight (.ref e) none) (fun _ s₃ => wpAny (model prog w) A (handleBy (.ref e) envH (.ExceptHandler (some (.Name x np)) (some n) (b₀ :: suite) pos :: rest)) Q E s₃) E s₂) E s' := by
 refine no_implicit_lambda% ((?qf0 : @Wit ?qp0 ?qe0 → ?qp0) (wit2 ?q00 ?qh0))
 case qf0 => exact fun _ => ?qe0
 case q00 =>
  obtain ⟨hp, g0, d0, tk0, os0⟩ := s'
  refine noteD hfr hfl.2.2.1 hf hfl.2.2.2 hfl.1 hfl.2.1 fun h4 ⟨k1, k2, k3, k4⟩ => ?_
  refine flightD (s := ⟨h4, g0, d0, tk0, os0⟩) k1 k2 hfl.2.1 k3 fun h5 f5 x5 => ?_
  refine wpAny_handleBy_cons (codeAny_handlers_test (ev h5 _ _ f5 (k4.trans x5) ?_)) (by intro q; cases q)
  obtain ⟨oe, vs, T, oT, ts, he, ⟨hc, hdct⟩, -⟩ := f5.2.2.2
  obtain ⟨q, hdc, sn, sub, ab, col, dd, k0, k1', k2', k3', k5', hC⟩ := h59 (X5 h5 f5 (k4.trans x5))
  refine wpAny_excMatches_sub_self hC he hc rfl (codeAny_handlers_suite_as ?_)
  refine flightD (s := ⟨h5, g0, d0, tk0, os0⟩) (fl := .none) f5.1 f5.2.2.1 f5.2.1 f5.2.2.2 fun h6 f6 x6 => ?_
  exact k h6 _ _ f6 ((k4.trans x5).trans x6)
 case qh0 => (try delta id oq1 oq2); exact fun h => h

end
end
section
theorem kg18 : True := trivial
theorem fdeq {P : Params} {f : Addr} {s : Shared} {fd fd' : FuncData} {oc oc' : Value} {od od' : Option Addr} {os os' : Array (Option Value)} {args : Args} {binds : List (Str × Value)} (h1 : (hd.heap_1 P).lookup f = some ⟨oc, od, .func fd, os⟩) (h2 : (hd.heap_1 P).lookup f = some ⟨oc', od', .func fd', os'⟩) (x : BindsTo s fd args binds) : BindsTo s fd' args binds := by
  rw [h1] at h2; cases h2; exact x
theorem inst_mix0 {g h : Heap} {L x C dx : Addr} {m : Str → Option Value} {od : Obj} {news : List (Addr × Obj)} (F : Fr g L h m) (N : News g L h news) (h1 : g.get? x = some (instObj C dx)) (h2 : (dx, od) ∈ news) : InstAt h x (instObj C dx) C (some od) :=
  ⟨F.keep _ _ h1, rfl, rfl, (N _ h2).1⟩
theorem mem_own {g h : Heap} {L d : Addr} {o : Obj} {news : List (Addr × Obj)} (N : News g L h news) (m : (d, o) ∈ news) : ∀ a ∈ [d], g.get? a = none ∧ a ≠ L := fun a ha => by
  rcases List.mem_singleton.mp ha with rfl
  exact ⟨(N _ m).2.2, (N _ m).2.1⟩
theorem news_at0 {g h : Heap} {L a : Addr} {o : Obj} {news : List (Addr × Obj)} (N : News g L h news) (x : (a, o) ∈ news) : h.get? a = some o := (N _ x).1
theorem off1 {a d : Addr} (h : a ≠ d) : a ∉ [d] := fun z => h (List.mem_singleton.mp z)
theorem end_r0 {P : Params} {s g h : Heap} {L a d sc d1 b bd : Addr} {od1 ob obd : Obj} {news : List (Addr × Obj)} {r : RF} {t0 t1 t2 t3 t4 t5 t6 t7 u0 u1 u3 u4 u7 : Tok} {v5 v6 : Value} (k : Keep [d] s g) (N : News g L h news)
    (m2 : (d, dictOf [ent P "kind" t0 (.str r.kind u0), ent P "off" t1 (.int r.off u1), ent P "scalar" t2 (.ref sc), ent P "number" t3 (.int r.number u3), ent P "map_number" t4 (.int r.mapn u4), ent P "reach" t5 v5, ent P "room" t6 v6, ent P "frame" t7 (.int r.frame u7)] 8) ∈ news)
    (fin : ∀ h2 : Heap, h2.get? sc = some (instObj 310 d1) → h2.get? d1 = some od1 → h2.get? b = some ob → h2.get? bd = some obd → ScalarAt P h2 sc r.value r.mask)
    (m3 : (sc, instObj 310 d1) ∈ news) (m4 : (d1, od1) ∈ news) (m5 : (b, ob) ∈ news) (m6 : (bd, obd) ∈ news) (n3 : sc ≠ d) (n4 : d1 ≠ d) (n5 : b ≠ d) (n6 : bd ≠ d) :
    Value.none = .none ∧ ∃ od, h.get? d = some od ∧ ∀ h2 : Heap, h2.get? a = some (instObj 339 d) → h2.get? d = some od → (∀ b o, s.get? b = none → h.get? b = some o → h2.get? b = some o) → RegAt P h2 a r :=
  ⟨rfl, _, (N _ m2).1, fun h2 x1 x2 k2 => ⟨d, sc, t0, t1, t2, t3, t4, t5, t6, t7, u0, u1, u3, u4, u7, v5, v6, x1, x2,
    fin h2 (k2 _ _ (fresh_of k N m3 (off1 n3)) (N _ m3).1) (k2 _ _ (fresh_of k N m4 (off1 n4)) (N _ m4).1) (k2 _ _ (fresh_of k N m5 (off1 n5)) (N _ m5).1) (k2 _ _ (fresh_of k N m6 (off1 n6)) (N _ m6).1)⟩⟩
theorem end_r1 {P : Params} {g h : Heap} {L a d sc : Addr} {news : List (Addr × Obj)} {kd : Str} {o n mp fr : Int} {t0 t1 t2 t3 t4 t5 t6 t7 u0 u1 u3 u4 u7 : Tok} {v5 v6 : Value} (N : News g L h news)
    (m2 : (d, dictOf [ent P "kind" t0 (.str kd u0), ent P "off" t1 (.int o u1), ent P "scalar" t2 (.ref sc), ent P "number" t3 (.int n u3), ent P "map_number" t4 (.int mp u4), ent P "reach" t5 v5, ent P "room" t6 v6, ent P "frame" t7 (.int fr u7)] 8) ∈ news) :
    Value.none = .none ∧ ∃ od, h.get? d = some od ∧ ∀ (x y : Int) (h2 : Heap), h2.get? a = some (instObj 339 d) → h2.get? d = some od → ScalarAt P h2 sc x y → RegAt P h2 a ⟨kd, o, n, mp, fr, x, y⟩ :=
  ⟨rfl, _, (N _ m2).1, fun x y h2 x1 x2 x3 => ⟨d, sc, t0, t1, t2, t3, t4, t5, t6, t7, u0, u1, u3, u4, u7, v5, v6, x1, x2, x3⟩⟩
theorem end_m0 {P : Params} {s g s1 h : Heap} {L a d : Addr} {m : Str → Option Value} {o0 : Obj} {news : List (Addr × Obj)} {r : RF} (N : News g L s1 news) (F : Fr g L s1 m) (m1 : (a, instObj 339 d) ∈ news) (m2 : (d, o0) ∈ news) (K : Keep [d] s1 h) (n1 : a ≠ d) (k : Keep [] s g)
    (fin : ∃ od, h.get? d = some od ∧ ∀ h2 : Heap, h2.get? a = some (instObj 339 d) → h2.get? d = some od → (∀ b o, s1.get? b = none → h.get? b = some o → h2.get? b = some o) → RegAt P h2 a r) :
    ∃ a', Value.ref a = .ref a' ∧ s.get? a' = none ∧ Made s h (fun h2 => RegAt P h2 a' r) :=
  ⟨a, rfl, fresh_of k N m1 (by simp), fun h2 k2 => match fin with
    | ⟨_, ed, q⟩ => q h2 (k2 _ _ (fresh_of k N m1 (by simp)) (K _ _ (off1 n1) (N _ m1).1)) (k2 _ _ (fresh_of k N m2 (by simp)) ed) fun b o e1 e2 => k2 b o (by
      cases z : s.get? b with
      | none => rfl
      | some o2 => have := F.keep _ _ (k.all z); rw [e1] at this; cases this) e2⟩
theorem end_m1 {P : Params} {s g s1 h : Heap} {L a d sc d1 b bd : Addr} {od1 ob obd o0 : Obj} {news : List (Addr × Obj)} {kd : Str} {o n mp fr x y : Int} (N : News g L s1 news) (m1 : (a, instObj 339 d) ∈ news) (m2 : (d, o0) ∈ news) (K : Keep [d] s1 h) (n1 : a ≠ d) (k : Keep [] s g)
    (fs : ∀ h2 : Heap, h2.get? sc = some (instObj 310 d1) → h2.get? d1 = some od1 → h2.get? b = some ob → h2.get? bd = some obd → ScalarAt P h2 sc x y)
    (m3 : (sc, instObj 310 d1) ∈ news) (m4 : (d1, od1) ∈ news) (m5 : (b, ob) ∈ news) (m6 : (bd, obd) ∈ news) (n3 : sc ≠ d) (n4 : d1 ≠ d) (n5 : b ≠ d) (n6 : bd ≠ d)
    (fin : ∃ od, h.get? d = some od ∧ ∀ (x y : Int) (h2 : Heap), h2.get? a = some (instObj 339 d) → h2.get? d = some od → ScalarAt P h2 sc x y → RegAt P h2 a ⟨kd, o, n, mp, fr, x, y⟩) :
    ∃ a', Value.ref a = .ref a' ∧ s.get? a' = none ∧ Made s h (fun h2 => RegAt P h2 a' ⟨kd, o, n, mp, fr, x, y⟩) :=
  ⟨a, rfl, fresh_of k N m1 (by simp), fun h2 k2 => match fin with
    | ⟨_, ed, q⟩ => q x y h2 (k2 _ _ (fresh_of k N m1 (by simp)) (K _ _ (off1 n1) (N _ m1).1)) (k2 _ _ (fresh_of k N m2 (by simp)) ed)
      (fs h2 (k2 _ _ (fresh_of k N m3 (by simp)) (K _ _ (off1 n3) (N _ m3).1)) (k2 _ _ (fresh_of k N m4 (by simp)) (K _ _ (off1 n4) (N _ m4).1)) (k2 _ _ (fresh_of k N m5 (by simp)) (K _ _ (off1 n5) (N _ m5).1)) (k2 _ _ (fresh_of k N m6 (by simp)) (K _ _ (off1 n6) (N _ m6).1)))⟩
theorem use_spC {w : World} {p : Program} {loose : List Str} {mean : ExcName → Option Value} {mg mb : Str → Option Value} {n : Nat} {M : List Addr} {A A₀ : Around} {base g : Heap} {env : Env} {outer : List Env} {s : Shared} {L : Addr} {m : Str → Option Value} {f : Addr} {vs : List Value} {Post : Value → Heap → Prop} {R : Result → Shared → Prop} (S : Sp w p loose mean mg mb n f vs M s Post)
    (B : Below A₀ base outer g) (F : Fr g L s.heap m) (X : (hd.heap_1 w.params).In g) (T : Top p loose mean mg mb g)
    (hA : A.frames = some (env :: outer)) (hf : env.frame = some L) (hke : env.scope.kind = .function) (hh : A.handled = none) (hd : A.depth ≤ 301 + 20 * n) (hu : A.units ≤ 4 + 100 * n)
    (hM : ∀ a ∈ M, g.get? a = none ∧ a ≠ L)
    (hQ : ∀ v h' tk', Keep M s.heap h' → Fr g L h' m → Post v h' → R (.ok (.ret v)) { s with heap := h', toks := tk' }) : codeAny (model Pg w) A (.call (.ref f) ⟨vs, []⟩) R s :=
  code_lev (A' := lev n (env :: outer)) (S A₀ base g env outer L m _ B F X T hf hke hM fun v h' tk' k q => hQ v h' tk' k (frKeep F hM k) q) hh hd hA.symm rfl hu
theorem make_sp {w : World} {p : Program} {loose : List Str} {mean : ExcName → Option Value} {mg mb : Str → Option Value} {n : Nat} {A A₀ : Around} {base g : Heap} {env : Env} {outer : List Env} {s : Shared} {L C fI : Addr} {m : Str → Option Value} {pos : List Value} {news : List (Addr × Obj)} {Post : Addr → Addr → Heap → Heap → Prop} {Q E : Value → Shared → Prop} (F : Fr g L s.heap m) (X : (hd.heap_1 w.params).In g) (N : News g L s.heap news)
    (hm : makesIn (hd.heap_1 w.params) C = true) (hi : findIn (hd.heap_1 w.params) (.ref C) "__init__" = some (some (.ref fI))) (hf0 : isFn (hd.heap_1 w.params) (.ref fI) = true)
    (S : ∀ x dx h', Fr g L h' m → News g L h' ((x, instObj C dx) :: (dx, dictOf [] 0) :: news) → x ≠ dx → Sp w p loose mean mg mb n fI (.ref x :: pos) [dx] { s with heap := h' } (fun v h => v = .none ∧ Post x dx h' h))
    (B : Below A₀ base outer g) (T : Top p loose mean mg mb g)
    (hA : A.frames = some (env :: outer)) (hf : env.frame = some L) (hke : env.scope.kind = .function) (hh : A.handled = none) (hd : (A.under (.builtin "type.__call__" ⟨.ref C :: pos, []⟩)).depth ≤ 301 + 20 * n) (hu : (A.under (.builtin "type.__call__" ⟨.ref C :: pos, []⟩)).units ≤ 4 + 100 * n)
    (hQ : ∀ x dx h1 h' tk', Fr g L h1 m → News g L h1 ((x, instObj C dx) :: (dx, dictOf [] 0) :: news) → (∀ p ∈ news, p.1 < dx) → dx < x → Keep [dx] h1 h' → Fr g L h' m → Post x dx h1 h' → Q (.ref x) { s with heap := h', toks := tk' }) : wpAny (model Pg w) A (call (.ref C) pos) Q E s :=
  call_cls F X N hm hi hf0 fun x dx h' F' N' l1 l2 => use_spC (S x dx h' F' N' (Nat.ne_of_gt l2)) B F' X T hA hf hke hh hd hu (mem_own N' (.tail _ (.head _))) fun v h2 tk k f q => by
    obtain ⟨rfl, q⟩ := q
    exact ⟨rfl, hQ x dx h' h2 tk F' N' l1 l2 k f q⟩
section
variable {w : World} {p : Program} {loose : List Str} {mean : ExcName → Option Value} {mg mb : Str → Option Value}
section
theorem kg19 : True := by
  k_with "Z19K_k_room" => (exact Nat.le_of_ble_eq_true rfl)
  k_with "Z19K_k_inst" => (case' zzhy => (refine' inst_base ?zzF ?zzh1 ?zzh2; (case zzF => k_asm); (case zzh1 => assumption); (case zzh2 => assumption)))
  k_with "Z19subscriptTail" => (k_here; (with_reducible show wpAny _ _ (subscriptTail _ _ (Value.ref _) (Value.int _ _)) _ _ _); case' zzhy => (k_dflt (refine' item_tupleT ?zzt ?zza ?zzb ?zzc ?zzd ?_; (case zzt => exact tup_base (by k_asm) (by assumption)); (case zza => decide); (case zzb => decide); (case zzc => rfl); (case zzd => rfl); k_whole)))
  k_with "Z19MEM" => (repeat (first | exact List.Mem.head _ | apply List.Mem.tail))
  k_with "Z19call ref" => (k_here; (with_reducible show wpAny _ _ (call (Value.ref 232) _) _ _ _); case' zzhy => (k_dflt ( (refine' call_eq (f' := Value.ref 232) (vs' := [Value.int _ _]) ?zzca ?zzcb ?_; (case zzca => exact rfl); (case zzcb => exact rfl)); (refine' use_sp (const_sp ?zzp0 ?zzp1) ?zzuB ?zzuF ?zzuX ?zzuT ?zzuA ?zzuf ?zzuk ?zzuh ?zzud ?zzuu ?zzuM ?_; (case zzp0 => omega); (case zzp1 => omega); (case zzuB => k_asm); (case zzuF => k_asm); (case zzuX => k_asm); (case zzuT => k_asm); (case zzuA => exact rfl); (case zzuf => exact rfl); (case zzuk => exact rfl); (case zzuh => exact rfl); (case zzud => exact Nat.le_of_ble_eq_true rfl); (case zzuu => exact Nat.le_of_ble_eq_true rfl); (case zzuM => exact fun zza zzha => nomatch zzha); k_whole); (intro zzv' zzh' zztk' zzK' zzF' zzP'); (obtain ⟨zza', zze', zzd', zzod', zzb', zzob', zzbd', zzobd', zzf1, zzf2, zzf3, zzf4, zzfin⟩ := zzP'); subst zze'; (refine (fun zzN' => ?_) (newsFreshes [(_, _), (_, _), (_, _), (_, _)] (by assumption) (by assumption) zzK' (List.forall_mem_cons.mpr ⟨zzf1, List.forall_mem_cons.mpr ⟨zzf2, List.forall_mem_cons.mpr ⟨zzf3, List.forall_mem_cons.mpr ⟨zzf4, List.forall_mem_nil _⟩⟩⟩⟩))); (obtain ⟨zzN', zzq1⟩ := zzN'); (simp only [List.cons_append, List.nil_append] at zzN'); (simp only [AllNes, AllNe, and_true] at zzq1); (try dsimp only at zzN'); clear zzf1 zzf2 zzf3 zzf4 zzK'; (try dsimp only))))
  k_with "Z19call ref" => (k_here; (with_reducible show wpAny _ _ (call (Value.ref 222) _) _ _ _); case' zzhy => (k_dflt ( (refine' call_eq (f' := Value.ref 222) (vs' := []) ?zzca ?zzcb ?_; (case zzca => exact rfl); (case zzcb => exact rfl)); (refine' use_sp (unknown_sp ) ?zzuB ?zzuF ?zzuX ?zzuT ?zzuA ?zzuf ?zzuk ?zzuh ?zzud ?zzuu ?zzuM ?_;  (case zzuB => k_asm); (case zzuF => k_asm); (case zzuX => k_asm); (case zzuT => k_asm); (case zzuA => exact rfl); (case zzuf => exact rfl); (case zzuk => exact rfl); (case zzuh => exact rfl); (case zzud => exact Nat.le_of_ble_eq_true rfl); (case zzuu => exact Nat.le_of_ble_eq_true rfl); (case zzuM => exact fun zza zzha => nomatch zzha); k_whole); (intro zzv' zzh' zztk' zzK' zzF' zzP'); (obtain ⟨zza', zze', zzd', zzod', zzb', zzob', zzbd', zzobd', zzf1, zzf2, zzf3, zzf4, zzfin⟩ := zzP'); subst zze'; (refine (fun zzN' => ?_) (newsFreshes [(_, _), (_, _), (_, _), (_, _)] (by assumption) (by assumption) zzK' (List.forall_mem_cons.mpr ⟨zzf1, List.forall_mem_cons.mpr ⟨zzf2, List.forall_mem_cons.mpr ⟨zzf3, List.forall_mem_cons.mpr ⟨zzf4, List.forall_mem_nil _⟩⟩⟩⟩))); (obtain ⟨zzN', zzq1⟩ := zzN'); (simp only [List.cons_append, List.nil_append] at zzN'); (simp only [AllNes, AllNe, and_true] at zzq1); (try dsimp only at zzN'); clear zzf1 zzf2 zzf3 zzf4 zzK'; (try dsimp only))))
  k_with "Z19K_k_inst" => (case' zzhy => (refine' inst_mix0 ?zzF ?zzN ?zzh1 ?zzh2; (case zzF => k_asm); (case zzN => k_asm); (case zzh1 => assumption); (case zzh2 => walk_at "MEM")))
  trivial
theorem reg0_sp {s : Shared} {a d : Addr} {vs : List Value} {kd : Str} {o n mp fr : Int} {u0 u1 u3 u4 u7 : Tok} {v5 v6 : Value} {fd : FuncData} {oc : Value} {od : Option Addr} {os : Array (Option Value)} (ho0 : (hd.heap_1 w.params).lookup 329 = some ⟨oc, od, .func fd, os⟩) (hb0 : BindsTo s fd ⟨vs, []⟩ [(Str.ofString "self", .ref a), (Str.ofString "kind", .str kd u0), (Str.ofString "off", .int o u1), (Str.ofString "scalar", .none), (Str.ofString "number", .int n u3), (Str.ofString "map_number", .int mp u4), (Str.ofString "reach", v5), (Str.ofString "room", v6), (Str.ofString "frame", .int fr u7)]) (e1 : s.heap.get? a = some (instObj 339 d)) (e2 : s.heap.get? d = some (dictOf [] 0)) (had : a ≠ d) :
    Sp w p loose mean mg mb 27 329 vs [d] s (fun v h => v = .none ∧ ∃ od, h.get? d = some od ∧ ∀ h2 : Heap, h2.get? a = some (instObj 339 d) → h2.get? d = some od → (∀ b o, s.heap.get? b = none → h.get? b = some o → h2.get? b = some o) → RegAt w.params h2 a ⟨kd, o, n, mp, fr, 0, 0⟩) := by
 refine no_implicit_lambda% ((?qf0 : @Wit ?qp0 ?qe0 → ?qp0) (wit2 ?q00 ?qh0))
 case qf0 => exact fun _ => ?qe0
 case q00 =>
  intro A₀ base h₀ env outer L m R B F X T hf hke hM hret
  k_dflt (refine' enter (H := [d]) (news := [(d, dictOf [] 0)]) (binds := [(Str.ofString "self", .ref a), (Str.ofString "kind", .str kd u0), (Str.ofString "off", .int o u1), (Str.ofString "scalar", .none), (Str.ofString "number", .int n u3), (Str.ofString "map_number", .int mp u4), (Str.ofString "reach", v5), (Str.ofString "room", v6), (Str.ofString "frame", .int fr u7)]) B F X T hf hke (fun a ha => hM a ha) (fun q hq => by rcases List.mem_singleton.mp hq with rfl; exact ⟨e2, .head _⟩) ?ho ?hcd ?hb ?hl ?_ ?hc ?hr ?c1 ?c2 ?c3)
  case ho => k_is
  case hcd => k_is
  case hb => exact fdeq ho0 (by k_is) hb0
  case hl => exact locs rfl
  case hc => decide
  case hr => exact Nat.le_of_ble_eq_true rfl
  case c1 => exact rfl
  case c2 => exact rfl
  case c3 => exact rfl
  intro g L' h₁ tk₁ hkeep hback F' hL' N' hk1 B' X' T'
  clear B F X T ho0 hb0
  replace e1 := hkeep _ _ (off1 had) e1
  (try dsimp only)
  (try k_fold)
  k_steps
  all_goals (try dsimp only)
  refine hret _ _ _ (keep_end hkeep (by assumption)) ?_
  (refine' end_r0 (r := ⟨kd, o, n, mp, fr, 0, 0⟩) hkeep ?N ?m2 ?fin ?m3 ?m4 ?m5 ?m6 ?n3 ?n4 ?n5 ?n6; (case N => assumption); (case m2 => walk_at "MEM"); (case fin => assumption); (case m3 => walk_at "MEM"); (case m4 => walk_at "MEM"); (case m5 => walk_at "MEM"); (case m6 => walk_at "MEM"); (case n3 => k_ne); (case n4 => k_ne); (case n5 => k_ne); (case n6 => k_ne))
 case qh0 => (try delta id oq1 oq2); exact fun h => h

theorem reg1_sp {s : Shared} {a d : Addr} {vs : List Value} {kd : Str} {o n mp fr : Int} {u0 u1 u3 u4 u7 : Tok} {v5 v6 : Value} {sc : Addr} {fd : FuncData} {oc : Value} {od : Option Addr} {os : Array (Option Value)} (ho0 : (hd.heap_1 w.params).lookup 329 = some ⟨oc, od, .func fd, os⟩) (hb0 : BindsTo s fd ⟨vs, []⟩ [(Str.ofString "self", .ref a), (Str.ofString "kind", .str kd u0), (Str.ofString "off", .int o u1), (Str.ofString "scalar", .ref sc), (Str.ofString "number", .int n u3), (Str.ofString "map_number", .int mp u4), (Str.ofString "reach", v5), (Str.ofString "room", v6), (Str.ofString "frame", .int fr u7)]) (e1 : s.heap.get? a = some (instObj 339 d)) (e2 : s.heap.get? d = some (dictOf [] 0)) (had : a ≠ d) :
    Sp w p loose mean mg mb 27 329 vs [d] s (fun v h => v = .none ∧ ∃ od, h.get? d = some od ∧ ∀ (x y : Int) (h2 : Heap), h2.get? a = some (instObj 339 d) → h2.get? d = some od → ScalarAt w.params h2 sc x y → RegAt w.params h2 a ⟨kd, o, n, mp, fr, x, y⟩) := by
 refine no_implicit_lambda% ((?qf0 : @Wit ?qp0 ?qe0 → ?qp0) (wit2 ?q00 ?qh0))
 case qf0 => exact fun _ => ?qe0
 case q00 =>
  intro A₀ base h₀ env outer L m R B F X T hf hke hM hret
  k_dflt (refine' enter (H := [d]) (news := [(d, dictOf [] 0)]) (binds := [(Str.ofString "self", .ref a), (Str.ofString "kind", .str kd u0), (Str.ofString "off", .int o u1), (Str.ofString "scalar", .ref sc), (Str.ofString "number", .int n u3), (Str.ofString "map_number", .int mp u4), (Str.ofString "reach", v5), (Str.ofString "room", v6), (Str.ofString "frame", .int fr u7)]) B F X T hf hke (fun a ha => hM a ha) (fun q hq => by rcases List.mem_singleton.mp hq with rfl; exact ⟨e2, .head _⟩) ?ho ?hcd ?hb ?hl ?_ ?hc ?hr ?c1 ?c2 ?c3)
  case ho => k_is
  case hcd => k_is
  case hb => exact fdeq ho0 (by k_is) hb0
  case hl => exact locs rfl
  case hc => decide
  case hr => exact Nat.le_of_ble_eq_true rfl
  case c1 => exact rfl
  case c2 => exact rfl
  case c3 => exact rfl
  intro g L' h₁ tk₁ hkeep hback F' hL' N' hk1 B' X' T'
  clear B F X T ho0 hb0
  replace e1 := hkeep _ _ (off1 had) e1
  (try dsimp only)
  (try k_fold)
  k_steps
  all_goals (try dsimp only)
  refine hret _ _ _ (keep_end hkeep (by assumption)) ?_
  (refine' end_r1 ?N ?m2; (case N => assumption); (case m2 => walk_at "MEM"))
 case qh0 => (try delta id oq1 oq2); exact fun h => h

end
theorem kg20 : True := by
  k_with "Z20K_k_room" => (exact Nat.le_of_ble_eq_true rfl)
  k_with "Z20K_k_inst" => (case' zzhy => (refine' inst_base ?zzF ?zzh1 ?zzh2; (case zzF => k_asm); (case zzh1 => assumption); (case zzh2 => assumption)))
  k_with "Z20subscriptTail" => (k_here; (with_reducible show wpAny _ _ (subscriptTail _ _ (Value.ref _) (Value.int _ _)) _ _ _); case' zzhy => (k_dflt (refine' item_tupleT ?zzt ?zza ?zzb ?zzc ?zzd ?_; (case zzt => exact tup_base (by k_asm) (by assumption)); (case zza => decide); (case zzb => decide); (case zzc => rfl); (case zzd => rfl); k_whole)))
  k_with "Z20MEM" => (repeat (first | exact List.Mem.head _ | apply List.Mem.tail))
  k_with "Z20call ref" => (k_here; (with_reducible show wpAny _ _ (call (Value.ref 232) _) _ _ _); case' zzhy => (k_dflt ( (refine' call_eq (f' := Value.ref 232) (vs' := [Value.int _ _]) ?zzca ?zzcb ?_; (case zzca => exact rfl); (case zzcb => exact rfl)); (refine' use_sp (const_sp ?zzp0 ?zzp1) ?zzuB ?zzuF ?zzuX ?zzuT ?zzuA ?zzuf ?zzuk ?zzuh ?zzud ?zzuu ?zzuM ?_; (case zzp0 => omega); (case zzp1 => omega); (case zzuB => k_asm); (case zzuF => k_asm); (case zzuX => k_asm); (case zzuT => k_asm); (case zzuA => exact rfl); (case zzuf => exact rfl); (case zzuk => exact rfl); (case zzuh => exact rfl); (case zzud => exact Nat.le_of_ble_eq_true rfl); (case zzuu => exact Nat.le_of_ble_eq_true rfl); (case zzuM => exact fun zza zzha => nomatch zzha); k_whole); (intro zzv' zzh' zztk' zzK' zzF' zzP'); (obtain ⟨zza', zze', zzd', zzod', zzb', zzob', zzbd', zzobd', zzf1, zzf2, zzf3, zzf4, zzfin⟩ := zzP'); subst zze'; (refine (fun zzN' => ?_) (newsFreshes [(_, _), (_, _), (_, _), (_, _)] (by assumption) (by assumption) zzK' (List.forall_mem_cons.mpr ⟨zzf1, List.forall_mem_cons.mpr ⟨zzf2, List.forall_mem_cons.mpr ⟨zzf3, List.forall_mem_cons.mpr ⟨zzf4, List.forall_mem_nil _⟩⟩⟩⟩))); (obtain ⟨zzN', zzq1⟩ := zzN'); (simp only [List.cons_append, List.nil_append] at zzN'); (simp only [AllNes, AllNe, and_true] at zzq1); (try dsimp only at zzN'); clear zzf1 zzf2 zzf3 zzf4 zzK'; (try dsimp only))))
  k_with "Z20call ref" => (k_here; (with_reducible show wpAny _ _ (call (Value.ref 222) _) _ _ _); case' zzhy => (k_dflt ( (refine' call_eq (f' := Value.ref 222) (vs' := []) ?zzca ?zzcb ?_; (case zzca => exact rfl); (case zzcb => exact rfl)); (refine' use_sp (unknown_sp ) ?zzuB ?zzuF ?zzuX ?zzuT ?zzuA ?zzuf ?zzuk ?zzuh ?zzud ?zzuu ?zzuM ?_;  (case zzuB => k_asm); (case zzuF => k_asm); (case zzuX => k_asm); (case zzuT => k_asm); (case zzuA => exact rfl); (case zzuf => exact rfl); (case zzuk => exact rfl); (case zzuh => exact rfl); (case zzud => exact Nat.le_of_ble_eq_true rfl); (case zzuu => exact Nat.le_of_ble_eq_true rfl); (case zzuM => exact fun zza zzha => nomatch zzha); k_whole); (intro zzv' zzh' zztk' zzK' zzF' zzP'); (obtain ⟨zza', zze', zzd', zzod', zzb', zzob', zzbd', zzobd', zzf1, zzf2, zzf3, zzf4, zzfin⟩ := zzP'); subst zze'; (refine (fun zzN' => ?_) (newsFreshes [(_, _), (_, _), (_, _), (_, _)] (by assumption) (by assumption) zzK' (List.forall_mem_cons.mpr ⟨zzf1, List.forall_mem_cons.mpr ⟨zzf2, List.forall_mem_cons.mpr ⟨zzf3, List.forall_mem_cons.mpr ⟨zzf4, List.forall_mem_nil _⟩⟩⟩⟩))); (obtain ⟨zzN', zzq1⟩ := zzN'); (simp only [List.cons_append, List.nil_append] at zzN'); (simp only [AllNes, AllNe, and_true] at zzq1); (try dsimp only at zzN'); clear zzf1 zzf2 zzf3 zzf4 zzK'; (try dsimp only))))
  k_with "Z20call ref" => (k_here; (with_reducible show wpAny _ _ (call (Value.ref 339) _) _ _ _); case' zzhy => (k_dflt ( (refine' make_sp ?zzk1 ?zzk2 ?zzk3 ?zzk4 ?zzk5 ?zzk6 ?zzS ?zzuB ?zzuT ?zzuA ?zzuf ?zzuk ?zzuh ?zzud ?zzuu ?_; (case zzk1 => k_asm); (case zzk2 => k_asm); (case zzk3 => k_asm); (case zzk4 => k_is); (case zzk5 => k_is); (case zzk6 => k_is); (case zzuB => k_asm); (case zzuT => k_asm); (case zzS => intro zzy zzd2 zzg2 zzG2 zzN2 zzne; refine' reg0_sp ?zzpo ?zzpb ?zzp1 ?zzp2 zzne; (case zzpo => k_is); (case zzp1 => exact news_at0 zzN2 (by walk_at "MEM")); (case zzp2 => exact news_at0 zzN2 (by walk_at "MEM")); (case zzpb => first | exact binds_K (by k_in) rfl (by k_is) rfl rfl rfl | exact BindsTo.of_eq rfl)); (case zzuA => exact rfl); (case zzuf => exact rfl); (case zzuk => exact rfl); (case zzuh => exact rfl); (case zzud => exact Nat.le_of_ble_eq_true rfl); (case zzuu => exact Nat.le_of_ble_eq_true rfl)); (intro zzx' zzd' zzg' zzh' zztk' zzG' zzN' zzl1 zzl2 zzK' zzF' zzP'); (try k_lt zzl1); (try k_lt2 zzl2); (refine (?_ : _ → _) (end_m0 zzN' zzG' (by walk_at "MEM") (by walk_at "MEM") zzK' (by k_ne) (by assumption) zzP')); intro zzhE; clear zzP' zzK' zzG'; (try dsimp only))))
  k_with "Z20call ref" => (k_here; (with_reducible show wpAny _ _ (call (Value.ref 339) _) _ _ _); case' zzhy => (k_dflt ( (refine' make_sp ?zzk1 ?zzk2 ?zzk3 ?zzk4 ?zzk5 ?zzk6 ?zzS ?zzuB ?zzuT ?zzuA ?zzuf ?zzuk ?zzuh ?zzud ?zzuu ?_; (case zzk1 => k_asm); (case zzk2 => k_asm); (case zzk3 => k_asm); (case zzk4 => k_is); (case zzk5 => k_is); (case zzk6 => k_is); (case zzuB => k_asm); (case zzuT => k_asm); (case zzS => intro zzy zzd2 zzg2 zzG2 zzN2 zzne; refine' reg1_sp ?zzpo ?zzpb ?zzp1 ?zzp2 zzne; (case zzpo => k_is); (case zzp1 => exact news_at0 zzN2 (by walk_at "MEM")); (case zzp2 => exact news_at0 zzN2 (by walk_at "MEM")); (case zzpb => first | exact binds_K (by k_in) rfl (by k_is) rfl rfl rfl | exact BindsTo.of_eq rfl)); (case zzuA => exact rfl); (case zzuf => exact rfl); (case zzuk => exact rfl); (case zzuh => exact rfl); (case zzud => exact Nat.le_of_ble_eq_true rfl); (case zzuu => exact Nat.le_of_ble_eq_true rfl)); (intro zzx' zzd' zzg' zzh' zztk' zzG' zzN' zzl1 zzl2 zzK' zzF' zzP'); (try k_lt zzl1); (try k_lt2 zzl2); (refine (?_ : _ → _) (end_m1 zzN' (by walk_at "MEM") (by walk_at "MEM") zzK' (by k_ne) (by assumption) (by assumption) (by walk_at "MEM") (by walk_at "MEM") (by walk_at "MEM") (by walk_at "MEM") (by k_ne) (by k_ne) (by k_ne) (by k_ne) zzP')); intro zzhE; clear zzP' zzK' zzG'; (try dsimp only))))
  trivial
theorem none_sp {s : Shared}   : Sp w p loose mean mg mb 26 350 [] [] s (fun v h => ∃ a, v = .ref a ∧ s.heap.get? a = none ∧ Made s.heap h (fun h2 => RegAt w.params h2 a ⟨"none", 0, 0, -1, 0, 0, 0⟩)) := by
 refine no_implicit_lambda% ((?qf0 : @Wit ?qp0 ?qe0 → ?qp0) (wit2 ?q00 ?qh0))
 case qf0 => exact fun _ => ?qe0
 case q00 =>
  intro A₀ base h₀ env outer L m R B F X T hf hke hM hret
  k_dflt (refine' enter (H := []) (news := []) (binds := []) B F X T hf hke (fun a ha => nomatch ha) (fun q hq => nomatch hq) ?ho ?hcd ?hb ?hl ?_ ?hc ?hr ?c1 ?c2 ?c3)
  case ho => k_is
  case hcd => k_is
  case hb => exact BindsTo.of_eq rfl
  case hl => exact locs rfl
  case hc => decide
  case hr => exact Nat.le_of_ble_eq_true rfl
  case c1 => exact rfl
  case c2 => exact rfl
  case c3 => exact rfl
  intro g L' h₁ tk₁ hkeep hback F' hL' N' hk1 B' X' T'
  clear B F X T
  (try dsimp only)
  (try k_fold)
  k_steps
  exact hret _ _ _ (keep_end hkeep (by assumption)) (by assumption)
 case qh0 => (try delta id oq1 oq2); exact fun h => h

theorem constreg_sp {s : Shared} {n : Int} {t : Tok} (h0 : 0 ≤ n) (h1 : n < 500) : Sp w p loose mean mg mb 26 357 [.int n t] [] s (fun v h => ∃ a, v = .ref a ∧ s.heap.get? a = none ∧ Made s.heap h (fun h2 => RegAt w.params h2 a ⟨"scalar", 0, 0, -1, 0, n, 0⟩)) := by
 refine no_implicit_lambda% ((?qf0 : @Wit ?qp0 ?qe0 → ?qp0) (wit2 ?q00 ?qh0))
 case qf0 => exact fun _ => ?qe0
 case q00 =>
  intro A₀ base h₀ env outer L m R B F X T hf hke hM hret
  k_dflt (refine' enter (H := []) (news := []) (binds := [(Str.ofString "worth", .int n t)]) B F X T hf hke (fun a ha => nomatch ha) (fun q hq => nomatch hq) ?ho ?hcd ?hb ?hl ?_ ?hc ?hr ?c1 ?c2 ?c3)
  case ho => k_is
  case hcd => k_is
  case hb => exact BindsTo.of_eq rfl
  case hl => exact locs rfl
  case hc => decide
  case hr => exact Nat.le_of_ble_eq_true rfl
  case c1 => exact rfl
  case c2 => exact rfl
  case c3 => exact rfl
  intro g L' h₁ tk₁ hkeep hback F' hL' N' hk1 B' X' T'
  clear B F X T
  (try dsimp only)
  (try k_fold)
  k_steps
  exact hret _ _ _ (keep_end hkeep (by assumption)) (by assumption)
 case qh0 => (try delta id oq1 oq2); exact fun h => h

theorem any_sp {s : Shared}   : Sp w p loose mean mg mb 26 364 [] [] s (fun v h => ∃ a, v = .ref a ∧ s.heap.get? a = none ∧ Made s.heap h (fun h2 => RegAt w.params h2 a ⟨"scalar", 0, 0, -1, 0, 0, 18446744073709551615⟩)) := by
 refine no_implicit_lambda% ((?qf0 : @Wit ?qp0 ?qe0 → ?qp0) (wit2 ?q00 ?qh0))
 case qf0 => exact fun _ => ?qe0
 case q00 =>
  intro A₀ base h₀ env outer L m R B F X T hf hke hM hret
  k_dflt (refine' enter (H := []) (news := []) (binds := []) B F X T hf hke (fun a ha => nomatch ha) (fun q hq => nomatch hq) ?ho ?hcd ?hb ?hl ?_ ?hc ?hr ?c1 ?c2 ?c3)
  case ho => k_is
  case hcd => k_is
  case hb => exact BindsTo.of_eq rfl
  case hl => exact locs rfl
  case hc => decide
  case hr => exact Nat.le_of_ble_eq_true rfl
  case c1 => exact rfl
  case c2 => exact rfl
  case c3 => exact rfl
  intro g L' h₁ tk₁ hkeep hback F' hL' N' hk1 B' X' T'
  clear B F X T
  (try dsimp only)
  (try k_fold)
  k_steps
  exact hret _ _ _ (keep_end hkeep (by assumption)) (by assumption)
 case qh0 => (try delta id oq1 oq2); exact fun h => h

theorem context_sp {s : Shared}   : Sp w p loose mean mg mb 26 371 [] [] s (fun v h => ∃ a, v = .ref a ∧ s.heap.get? a = none ∧ Made s.heap h (fun h2 => RegAt w.params h2 a ⟨"context", 0, 0, -1, 0, 0, 0⟩)) := by
 refine no_implicit_lambda% ((?qf0 : @Wit ?qp0 ?qe0 → ?qp0) (wit2 ?q00 ?qh0))
 case qf0 => exact fun _ => ?qe0
 case q00 =>
  intro A₀ base h₀ env outer L m R B F X T hf hke hM hret
  k_dflt (refine' enter (H := []) (news := []) (binds := []) B F X T hf hke (fun a ha => nomatch ha) (fun q hq => nomatch hq) ?ho ?hcd ?hb ?hl ?_ ?hc ?hr ?c1 ?c2 ?c3)
  case ho => k_is
  case hcd => k_is
  case hb => exact BindsTo.of_eq rfl
  case hl => exact locs rfl
  case hc => decide
  case hr => exact Nat.le_of_ble_eq_true rfl
  case c1 => exact rfl
  case c2 => exact rfl
  case c3 => exact rfl
  intro g L' h₁ tk₁ hkeep hback F' hL' N' hk1 B' X' T'
  clear B F X T
  (try dsimp only)
  (try k_fold)
  k_steps
  exact hret _ _ _ (keep_end hkeep (by assumption)) (by assumption)
 case qh0 => (try delta id oq1 oq2); exact fun h => h

theorem value_sp {s : Shared} {t t2 : Tok}  : Sp w p loose mean mg mb 26 379 [.int 3 t, .int 0 t2, .bool true] [] s (fun v h => ∃ a, v = .ref a ∧ s.heap.get? a = none ∧ Made s.heap h (fun h2 => RegAt w.params h2 a ⟨"value", 0, 0, 3, 0, 0, 0⟩)) := by
 refine no_implicit_lambda% ((?qf0 : @Wit ?qp0 ?qe0 → ?qp0) (wit2 ?q00 ?qh0))
 case qf0 => exact fun _ => ?qe0
 case q00 =>
  intro A₀ base h₀ env outer L m R B F X T hf hke hM hret
  k_dflt (refine' enter (H := []) (news := [])  B F X T hf hke (fun a ha => nomatch ha) (fun q hq => nomatch hq) ?ho ?hcd ?hb ?hl ?_ ?hc ?hr ?c1 ?c2 ?c3)
  case ho => k_is
  case hcd => k_is
  case hb => exact binds_K (X.keeps F.keep) rfl (by k_is) rfl rfl rfl
  case hl => exact locs rfl
  case hc => decide
  case hr => exact Nat.le_of_ble_eq_true rfl
  case c1 => exact rfl
  case c2 => exact rfl
  case c3 => exact rfl
  intro g L' h₁ tk₁ hkeep hback F' hL' N' hk1 B' X' T'
  clear B F X T
  (try dsimp only)
  (try k_fold)
  k_steps
  exact hret _ _ _ (keep_end hkeep (by assumption)) (by assumption)
 case qh0 => (try delta id oq1 oq2); exact fun h => h

theorem stack_sp {s : Shared} {o f : Int} {t t2 : Tok}  : Sp w p loose mean mg mb 26 386 [.int o t, .int f t2] [] s (fun v h => ∃ a, v = .ref a ∧ s.heap.get? a = none ∧ Made s.heap h (fun h2 => RegAt w.params h2 a ⟨"stack", o, 0, -1, f, 0, 0⟩)) := by
 refine no_implicit_lambda% ((?qf0 : @Wit ?qp0 ?qe0 → ?qp0) (wit2 ?q00 ?qh0))
 case qf0 => exact fun _ => ?qe0
 case q00 =>
  intro A₀ base h₀ env outer L m R B F X T hf hke hM hret
  k_dflt (refine' enter (H := []) (news := []) (binds := [(Str.ofString "off", .int o t), (Str.ofString "frame", .int f t2)]) B F X T hf hke (fun a ha => nomatch ha) (fun q hq => nomatch hq) ?ho ?hcd ?hb ?hl ?_ ?hc ?hr ?c1 ?c2 ?c3)
  case ho => k_is
  case hcd => k_is
  case hb => exact BindsTo.of_eq rfl
  case hl => exact locs rfl
  case hc => decide
  case hr => exact Nat.le_of_ble_eq_true rfl
  case c1 => exact rfl
  case c2 => exact rfl
  case c3 => exact rfl
  intro g L' h₁ tk₁ hkeep hback F' hL' N' hk1 B' X' T'
  clear B F X T
  (try dsimp only)
  (try k_fold)
  k_steps
  exact hret _ _ _ (keep_end hkeep (by assumption)) (by assumption)
 case qh0 => (try delta id oq1 oq2); exact fun h => h

theorem room_sp {s : Shared} {n : Int} {t t2 : Tok}  : Sp w p loose mean mg mb 26 394 [.int 16 t, .int n t2, .bool true] [] s (fun v h => ∃ a, v = .ref a ∧ s.heap.get? a = none ∧ Made s.heap h (fun h2 => RegAt w.params h2 a ⟨"room", 0, n, -1, 0, 0, 0⟩)) := by
 refine no_implicit_lambda% ((?qf0 : @Wit ?qp0 ?qe0 → ?qp0) (wit2 ?q00 ?qh0))
 case qf0 => exact fun _ => ?qe0
 case q00 =>
  intro A₀ base h₀ env outer L m R B F X T hf hke hM hret
  k_dflt (refine' enter (H := []) (news := [])  B F X T hf hke (fun a ha => nomatch ha) (fun q hq => nomatch hq) ?ho ?hcd ?hb ?hl ?_ ?hc ?hr ?c1 ?c2 ?c3)
  case ho => k_is
  case hcd => k_is
  case hb => exact binds_K (X.keeps F.keep) rfl (by k_is) rfl rfl rfl
  case hl => exact locs rfl
  case hc => decide
  case hr => exact Nat.le_of_ble_eq_true rfl
  case c1 => exact rfl
  case c2 => exact rfl
  case c3 => exact rfl
  intro g L' h₁ tk₁ hkeep hback F' hL' N' hk1 B' X' T'
  clear B F X T
  (try dsimp only)
  (try k_fold)
  k_steps
  exact hret _ _ _ (keep_end hkeep (by assumption)) (by assumption)
 case qh0 => (try delta id oq1 oq2); exact fun h => h

end
end
section
theorem kg21 : True := trivial
theorem list_news {g h : Heap} {L a : Addr} {its : Array Value} {n : Nat} {news : List (Addr × Obj)} (N : News g L h news) (m : (a, listOf its n) ∈ news) : h.IsList a its := ⟨_, (N _ m).1, rfl, n, rfl⟩
theorem list_base {g h : Heap} {L a : Addr} {m : Str → Option Value} {its : Array Value} (F : Fr g L h m) (x : g.IsList a its) : h.IsList a its := let ⟨o, e, r⟩ := x; ⟨o, F.keep _ _ e, r⟩
theorem fm0 {x c : Int} (h : 0 < c) : 0 ≤ x.fmod c := Int.fmod_nonneg_of_pos _ h
theorem fm1 {x c : Int} (h : 0 < c) : x.fmod c < c := Int.fmod_lt_of_pos _ h
theorem fd0 {x c : Int} (h0 : 0 ≤ x) (h : 0 < c) : 0 ≤ x.fdiv c := by rw [Int.fdiv_eq_ediv_of_nonneg _ (Int.le_of_lt h)]; exact Int.ediv_nonneg h0 (Int.le_of_lt h)
theorem pow_a {b seat : Int} (h0 : 0 ≤ b) (h1 : b < 2147483629) (s0 : 0 ≤ seat) (s1 : seat ≤ 1000000) : (b + 40503 * seat + 977).natAbs < 2 ^ 64 := by omega
theorem pow_b {b seat : Int} (h0 : 0 ≤ b) (h1 : b < 2147483587) (s0 : 0 ≤ seat) (s1 : seat ≤ 1000000) : (b * (2 * seat + 5003) + seat * seat + 11).natAbs < 2 ^ 64 := by
  have a1 : b * (2 * seat + 5003) ≤ 2147483587 * (2 * 1000000 + 5003) := Int.mul_le_mul (by omega) (by omega) (by omega) (by omega)
  have a0 : 0 ≤ b * (2 * seat + 5003) := Int.mul_nonneg h0 (by omega)
  have b1 : seat * seat ≤ 1000000 * 1000000 := Int.mul_le_mul s1 s1 s0 (by omega)
  have b0 : 0 ≤ seat * seat := Int.mul_nonneg s0 s0
  omega
structure PenAt (h : Heap) (a : Addr) (l : Addr) (vals : List Value) (ns : List Int) (seat rest : Int) : Prop where
  pen : ∃ n t1 t2, h.get? a = some (listOf [.ref l, .int seat t1, .int rest t2].toArray n)
  script : h.IsList l vals.toArray
  are : IntsAre vals ns
  ne : l ≠ a
  few : ns.length ≤ 40
  pos : 0 ≤ seat
  rst : 0 ≤ rest
theorem end_pen {g h : Heap} {L a l : Addr} {m : Str → Option Value} {vals : List Value} {ns : List Int} {seat seat' rest' x many : Int} {t t1 t2 : Tok} {n : Nat} (F : Fr g L h m) (N : News g L h [(a, listOf [.ref l, .int seat' t1, .int rest' t2].toArray n)])
    (hl : g.IsList l vals.toArray) (hI : IntsAre vals ns) (hne : l ≠ a) (hfew : ns.length ≤ 40) (hm : 0 < many) (p : 0 ≤ seat') (q : seat' ≤ seat + 1) (r : 0 ≤ rest') :
    ∃ d u seat' rest', Value.int (x.fmod many) t = .int d u ∧ 0 ≤ d ∧ d < many ∧ seat' ≤ seat + 1 ∧ PenAt h a l vals ns seat' rest' :=
  ⟨_, _, seat', rest', rfl, fm0 hm, fm1 hm, q, ⟨⟨n, t1, t2, (N _ (.head _)).1⟩, list_base F hl, hI, hne, hfew, p, r⟩⟩
section
variable {w : World} {p : Program} {loose : List Str} {mean : ExcName → Option Value} {mg mb : Str → Option Value}

theorem kg22 : True := by
  k_with "Z22K_k_room" => (exact Nat.le_of_ble_eq_true rfl)
  k_with "Z22K_k_inst" => (case' zzhy => (refine' inst_base ?zzF ?zzh1 ?zzh2; (case zzF => k_asm); (case zzh1 => assumption); (case zzh2 => assumption)))
  k_with "Z22binaryOp Pow int int" => (refine pow_int_small (by decide) (by decide) (pow_a (fm0 (by decide)) (fm1 (by decide)) (by omega) (by omega)) ?_)
  k_with "Z22binaryOp Pow int int" => (refine pow_int_small (by decide) (by decide) (pow_b (fm0 (by decide)) (fm1 (by decide)) (by omega) (by omega)) ?_)
  k_with "Z22binaryOp Pow int int" => (refine pow_int_small (by decide) (by decide) (by decide) ?_)
  k_with "Z22binaryOp FloorDiv int int" => (with_reducible refine floordiv_int (by omega) ?_ (Or.inl (PyProof.noPylong_small (by omega))))
  k_with "Z22binaryOp Mod int int" => (with_reducible refine mod_int' (by omega) ?_)
  k_with "Z22subscriptTail" => (k_here; (with_reducible show wpAny _ _ (subscriptTail _ _ (Value.ref _) (Value.int _ _)) _ _ _); case' zzhy => ((with_unfolding_all refine' item_anyK ?zzk1 ?zzk2 ?zzk3 ?zzk4 ?zzk5 ?_ ?zzk6; (case zzk1 => exact list_base (by k_asm) (by assumption)); (case zzk2 => assumption); (case zzk3 => exact fm0 (by omega)); (case zzk4 => exact fm1 (by omega)); (case zzk5 => exact Int.lt_trans (fm1 (by omega)) (by omega)); (case zzk6 => with_unfolding_all rfl); k_whole); intro _))
  k_with "Z22subscriptTail" => (k_here; (with_reducible show wpAny _ _ (subscriptTail _ _ (Value.ref _) (Value.int _ _)) _ _ _); case' zzhy => (k_dflt (refine' item_litK ?zzk1 ?zzk2 ?zzk3 ?zzk4 ?_ ?zzk6; (case zzk1 => exact list_news (by k_asm) (by k_mem)); (case zzk2 => decide); (case zzk3 => decide); (case zzk4 => rfl); (case zzk6 => with_unfolding_all rfl); k_whole)))
  trivial
theorem draw_sp {s : Shared} {a l : Addr} {vals : List Value} {ns : List Int} {seat rest many : Int} {t : Tok} (hp : PenAt s.heap a l vals ns seat rest) (hm : 0 < many) (hm2 : many ≤ 1000) (hs1 : seat ≤ 1000000) : Sp w p loose mean mg mb 29 700 [.ref a, .int many t] [a] s (fun v h => ∃ d u seat' rest', v = .int d u ∧ 0 ≤ d ∧ d < many ∧ seat' ≤ seat + 1 ∧ PenAt h a l vals ns seat' rest') := by
 refine no_implicit_lambda% ((?qf0 : @Wit ?qp0 ?qe0 → ?qp0) (wit2 ?q00 ?qh0))
 case qf0 => exact fun _ => ?qe0
 case q00 =>
  obtain ⟨⟨n, t1, t2, hpen⟩, hl, hI, hne, hfew, hs0, hr0⟩ := hp
  intro A₀ base h₀ env outer L m R B F X T hf hke hM hret
  k_dflt (refine' enter (H := [a]) (news := [(a, listOf [.ref l, .int seat t1, .int rest t2].toArray n)]) (binds := [(Str.ofString "pen", .ref a), (Str.ofString "many", .int many t)]) B F X T hf hke (fun x hx => hM x hx) (fun q hq => by rcases List.mem_singleton.mp hq with rfl; exact ⟨hpen, .head _⟩) ?ho ?hcd ?hb ?hl ?_ ?hc ?hr ?c1 ?c2 ?c3)
  case ho => k_is
  case hcd => k_is
  case hb => exact BindsTo.of_eq rfl
  case hl => exact locs rfl
  case hc => decide
  case hr => exact Nat.le_of_ble_eq_true rfl
  case c1 => exact rfl
  case c2 => exact rfl
  case c3 => exact rfl
  intro g L' h₁ tk₁ hkeep hback F' hL' N' hk1 B' X' T'
  clear B F X T

  have hl' : g.IsList l vals.toArray := by
    obtain ⟨o, ho, r⟩ := hl
    exact ⟨o, hkeep _ _ (by simpa using hne) ho, r⟩
  (try dsimp only)
  (try k_fold)
  k_steps
  all_goals (try dsimp only)
  all_goals (refine hret _ _ _ (keep_end hkeep (by assumption)) ?_)
  all_goals (refine end_pen (by assumption) (by assumption) hl' hI hne hfew hm ?_ ?_ ?_)
  all_goals (first | omega | exact fd0 hr0 hm | skip)
  all_goals (refine fd0 ?_ hm)
  all_goals exact Int.sub_nonneg.mpr (by assumption)
 case qh0 => (try delta id oq1 oq2); exact fun h => h

end
end
section
theorem kg23 : True := trivial
theorem pen_news {g h : Heap} {L a l : Addr} {m : Str → Option Value} {news : List (Addr × Obj)} {vals : List Value} {ns : List Int} {seat rest : Int} {t1 t2 : Tok} {n : Nat} (F : Fr g L h m) (N : News g L h news) (mem : (a, listOf [.ref l, .int seat t1, .int rest t2].toArray n) ∈ news)
    (hl : g.IsList l vals.toArray) (hI : IntsAre vals ns) (hne : l ≠ a) (hfew : ns.length ≤ 40) (p : 0 ≤ seat) (r : 0 ≤ rest) : PenAt h a l vals ns seat rest :=
  ⟨⟨n, t1, t2, (N _ mem).1⟩, list_base F hl, hI, hne, hfew, p, r⟩
theorem newsUpd {g s h : Heap} {L a : Addr} {o o' : Obj} {news news' : List (Addr × Obj)} (N : News g L s news) (U : Upd a o o' news news') (k : Keep [a] s h) (e : h.get? a = some o') : News g L h news' := by
 refine no_implicit_lambda% ((?qf0 : @Wit ?qp0 ?qe0 → ?qp0) (wit2 ?q00 ?qh0))
 case qf0 => exact fun _ => ?qe0
 case q00 =>
  obtain ⟨pre, post, rfl, rfl, x, y⟩ := U.split
  have z := N (a, o) (List.mem_append.mpr (.inr (.head _)))
  intro q hq
  rcases List.mem_append.mp hq with hq | hq
  · have := N q (List.mem_append.mpr (.inl hq))
    exact ⟨k _ _ (by simpa using x q hq) this.1, this.2⟩
  · rcases List.mem_cons.mp hq with rfl | hq
    · exact ⟨e, z.2⟩
    · have := N q (List.mem_append.mpr (.inr (.tail _ hq)))
      exact ⟨k _ _ (by simpa using y q hq) this.1, this.2⟩
 case qh0 => (try delta id oq1 oq2); exact fun h => h

theorem newsHid {g h : Heap} {L a : Addr} {o : Obj} {news : List (Addr × Obj)} (N : News g L h news) (mem : (a, o) ∈ news) : ∀ x ∈ [a], g.get? x = none ∧ x ≠ L := by
  intro x hx
  rcases List.mem_singleton.mp hx with rfl
  exact ⟨(N _ mem).2.2, (N _ mem).2.1⟩
theorem fresh_back {s h : Heap} {a : Addr} {M : List Addr} (f : h.get? a = none) (k : Keep M s h) (hM : a ∉ M) : s.get? a = none := by
  cases q : s.get? a with
  | none => rfl
  | some o => have := k _ _ hM q; rw [f] at this; cases this

def W.Good : W → Prop
  | .num n => 0 ≤ n ∧ n < 500
  | _ => True
theorem end_wordp {s g h : Heap} {L a l D : Addr} {m : Str → Option Value} {news : List (Addr × Obj)} {vals : List Value} {ns : List Int} {seat seat' rest' : Int} {t1 t2 : Tok} {n : Nat} {vs : List Value} {x : W} (k : Keep [a] s g) (F : Fr g L h m) (N : News g L h news)
    (m1 : (D, tupObj vs) ∈ news) (m2 : (a, listOf [.ref l, .int seat' t1, .int rest' t2].toArray n) ∈ news) (hv : x.Vals vs) (hg : x.Good) (q : seat' ≤ seat + 3) (hl : g.IsList l vals.toArray) (hI : IntsAre vals ns) (hne : l ≠ a) (hfew : ns.length ≤ 40) (p : 0 ≤ seat') (r : 0 ≤ rest')
    (hD : D ≠ a) :
    ∃ d x seat' rest', Value.ref D = .ref d ∧ s.get? d = none ∧ WordAt h d x ∧ x.Good ∧ seat' ≤ seat + 3 ∧ PenAt h a l vals ns seat' rest' :=
  ⟨D, x, seat', rest', rfl, fresh_of k N m1 (by simpa using hD), ⟨vs, (N _ m1).1, hv⟩, hg, q, ⟨⟨n, t1, t2, (N _ m2).1⟩, list_base F hl, hI, hne, hfew, p, r⟩⟩
section
variable {w : World} {p : Program} {loose : List Str} {mean : ExcName → Option Value} {mg mb : Str → Option Value}
theorem kg24 : True := by
  k_with "Z24K_k_room" => (exact Nat.le_of_ble_eq_true rfl)
  k_with "Z24K_k_inst" => (case' zzhy => (refine' inst_base ?zzF ?zzh1 ?zzh2; (case zzF => k_asm); (case zzh1 => assumption); (case zzh2 => assumption)))
  k_with "Z24subscriptTail" => (k_here; (with_reducible show wpAny _ _ (subscriptTail _ _ (Value.ref _) (Value.int _ _)) _ _ _); case' zzhy => (k_dflt (refine' item_tupleT ?zzt ?zza ?zzb ?zzc ?zzd ?_; (case zzt => exact tup_base (by k_asm) (by assumption)); (case zza => decide); (case zzb => decide); (case zzc => rfl); (case zzd => rfl); k_whole)))
  k_with "Z24MEM" => (repeat (first | exact List.Mem.head _ | apply List.Mem.tail))
  k_with "Z24subscriptTail" => (k_here; (with_reducible show wpAny _ _ (subscriptTail _ _ (Value.ref _) (Value.int _ _)) _ _ _); case' zzhy => ((with_unfolding_all refine' item_anyK ?zzk1 ?zzk2 ?zzk3 ?zzk4 ?zzk5 ?_ ?zzk6; (case zzk1 => exact list_base (by k_asm) (by assumption)); (case zzk2 => assumption); (case zzk3 => omega); (case zzk4 => omega); (case zzk5 => omega); (case zzk6 => with_unfolding_all rfl); k_whole); intro _))
  k_with "Z24call ref" => (k_here; (with_reducible show wpAny _ _ (call (Value.ref 350) _) _ _ _); case' zzhy => (k_dflt ( (refine' call_eq (f' := Value.ref 350) (vs' := []) ?zzca ?zzcb ?_; (case zzca => exact rfl); (case zzcb => exact rfl)); (refine' use_sp (none_sp ) ?zzuB ?zzuF ?zzuX ?zzuT ?zzuA ?zzuf ?zzuk ?zzuh ?zzud ?zzuu ?zzuM ?_;  (case zzuB => k_asm); (case zzuF => k_asm); (case zzuX => k_asm); (case zzuT => k_asm); (case zzuA => exact rfl); (case zzuf => exact rfl); (case zzuk => exact rfl); (case zzuh => exact rfl); (case zzud => exact Nat.le_of_ble_eq_true rfl); (case zzuu => exact Nat.le_of_ble_eq_true rfl); (case zzuM => exact fun zza zzha => nomatch zzha); k_whole); (intro zzv' zzh' zztk' zzK' zzF' zzP'); (obtain ⟨zza', zze', zzfr', zzr'⟩ := zzP'); (replace zzr' := Made.here zzr'); subst zze'; (refine (fun zzN' => ?_) (newsKeep (M := []) (by assumption) (fun _ _ => List.not_mem_nil) zzK')); (try dsimp only))))
  k_with "Z24call ref" => (k_here; (with_reducible show wpAny _ _ (call (Value.ref 357) _) _ _ _); case' zzhy => (k_dflt ( (refine' call_eq (f' := Value.ref 357) (vs' := [Value.int _ _]) ?zzca ?zzcb ?_; (case zzca => exact rfl); (case zzcb => exact rfl)); (refine' use_sp (constreg_sp ?zzp0 ?zzp1) ?zzuB ?zzuF ?zzuX ?zzuT ?zzuA ?zzuf ?zzuk ?zzuh ?zzud ?zzuu ?zzuM ?_; (case zzp0 => omega); (case zzp1 => omega); (case zzuB => k_asm); (case zzuF => k_asm); (case zzuX => k_asm); (case zzuT => k_asm); (case zzuA => exact rfl); (case zzuf => exact rfl); (case zzuk => exact rfl); (case zzuh => exact rfl); (case zzud => exact Nat.le_of_ble_eq_true rfl); (case zzuu => exact Nat.le_of_ble_eq_true rfl); (case zzuM => exact fun zza zzha => nomatch zzha); k_whole); (intro zzv' zzh' zztk' zzK' zzF' zzP'); (obtain ⟨zza', zze', zzfr', zzr'⟩ := zzP'); (replace zzr' := Made.here zzr'); subst zze'; (refine (fun zzN' => ?_) (newsKeep (M := []) (by assumption) (fun _ _ => List.not_mem_nil) zzK')); (try dsimp only))))
  k_with "Z24call ref" => (k_here; (with_reducible show wpAny _ _ (call (Value.ref 364) _) _ _ _); case' zzhy => (k_dflt ( (refine' call_eq (f' := Value.ref 364) (vs' := []) ?zzca ?zzcb ?_; (case zzca => exact rfl); (case zzcb => exact rfl)); (refine' use_sp (any_sp ) ?zzuB ?zzuF ?zzuX ?zzuT ?zzuA ?zzuf ?zzuk ?zzuh ?zzud ?zzuu ?zzuM ?_;  (case zzuB => k_asm); (case zzuF => k_asm); (case zzuX => k_asm); (case zzuT => k_asm); (case zzuA => exact rfl); (case zzuf => exact rfl); (case zzuk => exact rfl); (case zzuh => exact rfl); (case zzud => exact Nat.le_of_ble_eq_true rfl); (case zzuu => exact Nat.le_of_ble_eq_true rfl); (case zzuM => exact fun zza zzha => nomatch zzha); k_whole); (intro zzv' zzh' zztk' zzK' zzF' zzP'); (obtain ⟨zza', zze', zzfr', zzr'⟩ := zzP'); (replace zzr' := Made.here zzr'); subst zze'; (refine (fun zzN' => ?_) (newsKeep (M := []) (by assumption) (fun _ _ => List.not_mem_nil) zzK')); (try dsimp only))))
  k_with "Z24call ref" => (k_here; (with_reducible show wpAny _ _ (call (Value.ref 371) _) _ _ _); case' zzhy => (k_dflt ( (refine' call_eq (f' := Value.ref 371) (vs' := []) ?zzca ?zzcb ?_; (case zzca => exact rfl); (case zzcb => exact rfl)); (refine' use_sp (context_sp ) ?zzuB ?zzuF ?zzuX ?zzuT ?zzuA ?zzuf ?zzuk ?zzuh ?zzud ?zzuu ?zzuM ?_;  (case zzuB => k_asm); (case zzuF => k_asm); (case zzuX => k_asm); (case zzuT => k_asm); (case zzuA => exact rfl); (case zzuf => exact rfl); (case zzuk => exact rfl); (case zzuh => exact rfl); (case zzud => exact Nat.le_of_ble_eq_true rfl); (case zzuu => exact Nat.le_of_ble_eq_true rfl); (case zzuM => exact fun zza zzha => nomatch zzha); k_whole); (intro zzv' zzh' zztk' zzK' zzF' zzP'); (obtain ⟨zza', zze', zzfr', zzr'⟩ := zzP'); (replace zzr' := Made.here zzr'); subst zze'; (refine (fun zzN' => ?_) (newsKeep (M := []) (by assumption) (fun _ _ => List.not_mem_nil) zzK')); (try dsimp only))))
  k_with "Z24call ref" => (k_here; (with_reducible show wpAny _ _ (call (Value.ref 379) _) _ _ _); case' zzhy => (k_dflt ( (refine' call_eq (f' := Value.ref 379) (vs' := [Value.int 3 _, Value.int 0 _, Value.bool true]) ?zzca ?zzcb ?_; (case zzca => exact rfl); (case zzcb => exact rfl)); (refine' use_sp (value_sp ) ?zzuB ?zzuF ?zzuX ?zzuT ?zzuA ?zzuf ?zzuk ?zzuh ?zzud ?zzuu ?zzuM ?_;  (case zzuB => k_asm); (case zzuF => k_asm); (case zzuX => k_asm); (case zzuT => k_asm); (case zzuA => exact rfl); (case zzuf => exact rfl); (case zzuk => exact rfl); (case zzuh => exact rfl); (case zzud => exact Nat.le_of_ble_eq_true rfl); (case zzuu => exact Nat.le_of_ble_eq_true rfl); (case zzuM => exact fun zza zzha => nomatch zzha); k_whole); (intro zzv' zzh' zztk' zzK' zzF' zzP'); (obtain ⟨zza', zze', zzfr', zzr'⟩ := zzP'); (replace zzr' := Made.here zzr'); subst zze'; (refine (fun zzN' => ?_) (newsKeep (M := []) (by assumption) (fun _ _ => List.not_mem_nil) zzK')); (try dsimp only))))
  k_with "Z24call ref" => (k_here; (with_reducible show wpAny _ _ (call (Value.ref 386) _) _ _ _); case' zzhy => (k_dflt ( (refine' call_eq (f' := Value.ref 386) (vs' := [Value.int _ _, Value.int _ _]) ?zzca ?zzcb ?_; (case zzca => exact rfl); (case zzcb => exact rfl)); (refine' use_sp (stack_sp ) ?zzuB ?zzuF ?zzuX ?zzuT ?zzuA ?zzuf ?zzuk ?zzuh ?zzud ?zzuu ?zzuM ?_;  (case zzuB => k_asm); (case zzuF => k_asm); (case zzuX => k_asm); (case zzuT => k_asm); (case zzuA => exact rfl); (case zzuf => exact rfl); (case zzuk => exact rfl); (case zzuh => exact rfl); (case zzud => exact Nat.le_of_ble_eq_true rfl); (case zzuu => exact Nat.le_of_ble_eq_true rfl); (case zzuM => exact fun zza zzha => nomatch zzha); k_whole); (intro zzv' zzh' zztk' zzK' zzF' zzP'); (obtain ⟨zza', zze', zzfr', zzr'⟩ := zzP'); (replace zzr' := Made.here zzr'); subst zze'; (refine (fun zzN' => ?_) (newsKeep (M := []) (by assumption) (fun _ _ => List.not_mem_nil) zzK')); (try dsimp only))))
  k_with "Z24call ref" => (k_here; (with_reducible show wpAny _ _ (call (Value.ref 394) _) _ _ _); case' zzhy => (k_dflt ( (refine' call_eq (f' := Value.ref 394) (vs' := [Value.int 16 _, Value.int _ _, Value.bool true]) ?zzca ?zzcb ?_; (case zzca => exact rfl); (case zzcb => exact rfl)); (refine' use_sp (room_sp ) ?zzuB ?zzuF ?zzuX ?zzuT ?zzuA ?zzuf ?zzuk ?zzuh ?zzud ?zzuu ?zzuM ?_;  (case zzuB => k_asm); (case zzuF => k_asm); (case zzuX => k_asm); (case zzuT => k_asm); (case zzuA => exact rfl); (case zzuf => exact rfl); (case zzuk => exact rfl); (case zzuh => exact rfl); (case zzud => exact Nat.le_of_ble_eq_true rfl); (case zzuu => exact Nat.le_of_ble_eq_true rfl); (case zzuM => exact fun zza zzha => nomatch zzha); k_whole); (intro zzv' zzh' zztk' zzK' zzF' zzP'); (obtain ⟨zza', zze', zzfr', zzr'⟩ := zzP'); (replace zzr' := Made.here zzr'); subst zze'; (refine (fun zzN' => ?_) (newsKeep (M := []) (by assumption) (fun _ _ => List.not_mem_nil) zzK')); (try dsimp only))))
  k_with "Z24call ref" => (k_here; (with_reducible show wpAny _ _ (call (Value.ref 700) _) _ _ _); case' zzhy => (k_dflt ( (refine' call_eq (f' := Value.ref 700) (vs' := [Value.ref _, Value.int _ _]) ?zzca ?zzcb ?_; (case zzca => exact rfl); (case zzcb => exact rfl)); (refine' use_sp (draw_sp ?zzp0 ?zzp1 ?zzp2 ?zzp3) ?zzuB ?zzuF ?zzuX ?zzuT ?zzuA ?zzuf ?zzuk ?zzuh ?zzud ?zzuu ?zzuM ?_; (case zzp0 => exact pen_news (by k_asm) (by k_asm) (by k_mem) (by assumption) (by assumption) (by assumption) (by assumption) (by omega) (by omega)); (case zzp1 => omega); (case zzp2 => omega); (case zzp3 => omega); (case zzuB => k_asm); (case zzuF => k_asm); (case zzuX => k_asm); (case zzuT => k_asm); (case zzuA => exact rfl); (case zzuf => exact rfl); (case zzuk => exact rfl); (case zzuh => exact rfl); (case zzud => exact Nat.le_of_ble_eq_true rfl); (case zzuu => exact Nat.le_of_ble_eq_true rfl); (case zzuM => exact newsHid (by k_asm) (by k_mem)); k_whole); (intro zzv' zzh' zztk' zzK' zzF' zzP'); (obtain ⟨zzd', zzu', zzseat', zzrest', zze', zzd0, zzd1, zzsl, zzpe⟩ := zzP'); (obtain ⟨⟨zzn', zzt1', zzt2', zzpe⟩, zzhl2, zzhi2, zzhne2, zzfew2, zzp2, zzr2⟩ := zzpe); subst zze'; (refine' (fun zzN' => ?_) (newsUpd ?zzuN ?zzuU zzK' zzpe); (case zzuN => k_asm); (case zzuU => k_upd); clear zzhl2 zzhi2 zzhne2 zzfew2 zzpe zzK'; (try dsimp only at zzN')); (try dsimp only))))
  trivial
theorem lawreg_sp {s : Shared} {t : Addr} {x : W} (hw : WordAt s.heap t x) (hg : x.Good) : Sp w p loose mean mg mb 24 714 [.ref t] [] s (fun v h => ∃ a, v = .ref a ∧ s.heap.get? a = none ∧ RegW w.params h a x) := by
 refine no_implicit_lambda% ((?qf0 : @Wit ?qp0 ?qe0 → ?qp0) (wit2 ?q00 ?qh0))
 case qf0 => exact fun _ => ?qe0
 case q00 =>
  intro A₀ base h₀ env outer L m R B F X T hf hke hM hret
  k_dflt (refine' enter (H := []) (news := []) (binds := [(Str.ofString "word", .ref t)]) B F X T hf hke (fun a ha => nomatch ha) (fun q hq => nomatch hq) ?ho ?hcd ?hb ?hl ?_ ?hc ?hr ?c1 ?c2 ?c3)
  case ho => k_is
  case hcd => k_is
  case hb => exact BindsTo.of_eq rfl
  case hl => exact locs rfl
  case hc => decide
  case hr => exact Nat.le_of_ble_eq_true rfl
  case c1 => exact rfl
  case c2 => exact rfl
  case c3 => exact rfl
  intro g L' h₁ tk₁ hkeep hback F' hL' N' hk1 B' X' T'
  clear B F X T
  obtain ⟨vs, e1, hv⟩ := hw
  replace e1 := hkeep.all e1
  cases hv
  all_goals (
    (try dsimp only [W.Good] at hg)
    (try dsimp only)
    (try k_fold)
    k_steps)
  all_goals (refine hret _ _ _ (keep_end hkeep (by assumption)) ⟨_, rfl, fresh_back (by assumption) (keep_end hkeep (by assumption)) List.not_mem_nil, _, (by assumption), (by constructor)⟩)
 case qh0 => (try delta id oq1 oq2); exact fun h => h

theorem word_sp {s : Shared} {a l rl : Addr} {vals rvals : List Value} {ns rs : List Int} {seat rest depth : Int} {t : Tok} (hp : PenAt s.heap a l vals ns seat rest) (hs1 : seat + 3 ≤ 1000000) (hd0 : 0 ≤ depth) (hd1 : depth < 100)
    (hr : s.heap.IsList rl rvals.toArray) (hrI : IntsAre rvals rs) (hrl : rs.length ≤ 100) (hrne : rl ≠ a) : Sp w p loose mean mg mb 22 707 [.ref a, .int depth t, .ref rl] [a] s
    (fun v h => ∃ d x seat' rest', v = .ref d ∧ s.heap.get? d = none ∧ WordAt h d x ∧ x.Good ∧ seat' ≤ seat + 3 ∧ PenAt h a l vals ns seat' rest') := by
 refine no_implicit_lambda% ((?qf0 : @Wit ?qp0 ?qe0 → ?qp0) (wit2 ?q00 ?qh0))
 case qf0 => exact fun _ => ?qe0
 case q00 =>
  obtain ⟨⟨n, t1, t2, hpen⟩, hl, hI, hne, hfew, hs0, hr0⟩ := hp
  intro A₀ base h₀ env outer L m R B F X T hf hke hM hret
  k_dflt (refine' enter (H := [a]) (news := [(a, listOf [.ref l, .int seat t1, .int rest t2].toArray n)]) (binds := [(Str.ofString "pen", .ref a), (Str.ofString "depth", .int depth t), (Str.ofString "rooms", .ref rl)]) B F X T hf hke (fun x hx => hM x hx) (fun q hq => by rcases List.mem_singleton.mp hq with rfl; exact ⟨hpen, .head _⟩) ?ho ?hcd ?hb ?hl ?_ ?hc ?hr ?c1 ?c2 ?c3)
  case ho => k_is
  case hcd => k_is
  case hb => exact BindsTo.of_eq rfl
  case hl => exact locs rfl
  case hc => decide
  case hr => exact Nat.le_of_ble_eq_true rfl
  case c1 => exact rfl
  case c2 => exact rfl
  case c3 => exact rfl
  intro g L' h₁ tk₁ hkeep hback F' hL' N' hk1 B' X' T'
  clear B F X T

  have hl' : g.IsList l vals.toArray := by
    obtain ⟨o, ho, r⟩ := hl
    exact ⟨o, hkeep _ _ (by simpa using hne) ho, r⟩
  have hr' : g.IsList rl rvals.toArray := by
    obtain ⟨o, ho, r⟩ := hr
    exact ⟨o, hkeep _ _ (by simpa using hrne) ho, r⟩
  (try dsimp only)
  (try k_fold)
  k_steps
  all_goals (refine hret _ _ _ (keep_end hkeep (by assumption)) ?_)
  all_goals (refine' end_wordp hkeep ?zF ?zN ?zm1 ?zm2 ?zhv ?zhg ?zq hl' hI hne hfew ?zp ?zr ?zD; (case zF => assumption); (case zN => assumption); (case zm1 => walk_at "MEM"); (case zm2 => walk_at "MEM"); (case zhv => constructor); (case zhg => first | exact trivial | exact ⟨by omega, by omega⟩); (case zq => omega); (case zp => omega); (case zr => omega); (case zD => k_ne))
 case qh0 => (try delta id oq1 oq2); exact fun h => h

end
end
section
theorem kg25 : True := trivial
def W.bad : W → Option Str
  | .num _ => Option.none
  | .any => Option.none
  | .none => some "register not set"
  | _ => some "a pointer in the place of a number"
section
variable {w : World} {p : Program} {loose : List Str} {mean : ExcName → Option Value} {mg mb : Str → Option Value}

def W.ptr : W → Bool
  | .num _ => false
  | .any => false
  | .none => false
  | _ => true
theorem kg26 : True := by
  k_with "Z26K_k_room" => (exact Nat.le_of_ble_eq_true rfl)
  k_with "Z26K_k_inst" => (case' zzhy => (refine' inst_base ?zzF ?zzh1 ?zzh2; (case zzF => k_asm); (case zzh1 => assumption); (case zzh2 => assumption)))
  k_with "Z26subscriptTail" => (k_here; (with_reducible show wpAny _ _ (subscriptTail _ _ (Value.ref _) (Value.int _ _)) _ _ _); case' zzhy => (k_dflt (refine' item_tupleT ?zzt ?zza ?zzb ?zzc ?zzd ?_; (case zzt => exact tup_base (by k_asm) (by assumption)); (case zza => decide); (case zzb => decide); (case zzc => rfl); (case zzd => rfl); k_whole)))
  k_with "Z26exec Raise some none" => (k_here; case' zzhy => (k_dflt (refine' ex_raise ?zzkX rfl ?_; (case zzkX => k_asm))))
  k_with "Z26call ref" => (k_here; (with_reducible show wpAny _ _ (call (Value.ref 59) _) _ _ _); case' zzhy => (k_dflt ( (refine' call_eq (f' := Value.ref 59) (vs' := [Value.str _ _, Value.int _ _]) ?zzca ?zzcb ?_; (case zzca => exact rfl); (case zzcb => exact rfl)); (refine' refusal_call ?zzuB ?zzuF ?zzuX ?zzuT ?zzuA ?zzuf ?zzuk ?zzuh ?zzud ?zzuu ?_; (case zzuB => k_asm); (case zzuF => k_asm); (case zzuX => k_asm); (case zzuT => k_asm); (case zzuA => exact rfl); (case zzuf => exact rfl); (case zzuk => exact rfl); (case zzuh => exact rfl); (case zzud => exact Nat.le_of_ble_eq_true rfl); (case zzuu => exact Nat.le_of_ble_eq_true rfl); k_whole); (intro zze' zzd' zzt1' zzh' zztk' zze0 zzd0 zzkk zzee zzss zzF'); (refine (fun zzN' => ?_) (newsKeep (M := []) (by assumption) (fun _ _ => List.not_mem_nil) (Keep.of [] zzkk))))))
  trivial
theorem isptr_sp {s : Shared} {a : Addr} {x : W} (hr : RegW w.params s.heap a x) : Sp w p loose mean mg mb 28 401 [.ref a] [] s (fun v h => v = .bool x.ptr) := by
 refine no_implicit_lambda% ((?qf0 : @Wit ?qp0 ?qe0 → ?qp0) (wit2 ?q00 ?qh0))
 case qf0 => exact fun _ => ?qe0
 case q00 =>
  intro A₀ base h₀ env outer L m R B F X T hf hke hM hret
  k_dflt (refine' enter (H := []) (news := []) (binds := [(Str.ofString "reg", .ref a)]) B F X T hf hke (fun a ha => nomatch ha) (fun q hq => nomatch hq) ?ho ?hcd ?hb ?hl ?_ ?hc ?hr ?c1 ?c2 ?c3)
  case ho => k_is
  case hcd => k_is
  case hb => exact BindsTo.of_eq rfl
  case hl => exact locs rfl
  case hc => decide
  case hr => exact Nat.le_of_ble_eq_true rfl
  case c1 => exact rfl
  case c2 => exact rfl
  case c3 => exact rfl
  intro g L' h₁ tk₁ hkeep hback F' hL' N' hk1 B' X' T'
  clear B F X T
  obtain ⟨r, ⟨⟨d, sc, t0, t1, t2, t3, t4, t5, t6, t7, u0, u1, u3, u4, u7, v5, v6, e1, e2, -⟩⟩, fit⟩ := hr
  replace e1 := hkeep.all e1
  replace e2 := hkeep.all e2
  cases fit
  all_goals (
    ((try dsimp only at e2))
    (try dsimp only)
    (try k_fold)
    k_steps)
  all_goals (try dsimp only)
  all_goals exact hret _ _ _ (keep_end hkeep (by assumption)) rfl
 case qh0 => (try delta id oq1 oq2); exact fun h => h

theorem kx2 : True := by
  k_with "Z26call ref" => (k_here; (with_reducible show wpAny _ _ (call (Value.ref 401) _) _ _ _); case' zzhy => (k_dflt ( (refine' call_eq (f' := Value.ref 401) (vs' := [Value.ref _]) ?zzca ?zzcb ?_; (case zzca => exact rfl); (case zzcb => exact rfl)); (refine' use_sp (isptr_sp ?zzp0) ?zzuB ?zzuF ?zzuX ?zzuT ?zzuA ?zzuf ?zzuk ?zzuh ?zzud ?zzuu ?zzuM ?_; (case zzp0 => exact RegW.keepI (by assumption) (KeepI.of (Fr.keep (by k_asm)))); (case zzuB => k_asm); (case zzuF => k_asm); (case zzuX => k_asm); (case zzuT => k_asm); (case zzuA => exact rfl); (case zzuf => exact rfl); (case zzuk => exact rfl); (case zzuh => exact rfl); (case zzud => exact Nat.le_of_ble_eq_true rfl); (case zzuu => exact Nat.le_of_ble_eq_true rfl); (case zzuM => exact fun zza zzha => nomatch zzha); k_whole); (intro zzv' zzh' zztk' zzK' zzF' zzP'); subst zzP'; (refine (fun zzN' => ?_) (newsKeep (M := []) (by assumption) (fun _ _ => List.not_mem_nil) zzK')); (try dsimp only [W.ptr]))))
  trivial
theorem need_sp {s : Shared} {a : Addr} {x : W} {pl : Int} {tp : Tok} (hr : RegW w.params s.heap a x) : SpE w p loose mean mg mb 22 658 [.ref a, .int pl tp] [] s (fun v h => v = .none ∧ x.bad = none) (fun what q => q = pl ∧ x.bad = some what) := by
 refine no_implicit_lambda% ((?qf0 : @Wit ?qp0 ?qe0 → ?qp0) (wit2 ?q00 ?qh0))
 case qf0 => exact fun _ => ?qe0
 case q00 =>
  intro A₀ base h₀ env outer L m R B F X T hf hke hM hret herr
  k_dflt (refine' enter (H := []) (news := []) (binds := [(Str.ofString "reg", .ref a), (Str.ofString "at", .int pl tp)]) B F X T hf hke (fun a ha => nomatch ha) (fun q hq => nomatch hq) ?ho ?hcd ?hb ?hl ?_ ?hc ?hr ?c1 ?c2 ?c3)
  case ho => k_is
  case hcd => k_is
  case hb => exact BindsTo.of_eq rfl
  case hl => exact locs rfl
  case hc => decide
  case hr => exact Nat.le_of_ble_eq_true rfl
  case c1 => exact rfl
  case c2 => exact rfl
  case c3 => exact rfl
  intro g L' h₁ tk₁ hkeep hback F' hL' N' hk1 B' X' T'
  clear B F X T
  have hg : RegW w.params g a x := hr.keepI (KeepI.of fun _ _ => hkeep.all)
  obtain ⟨r, ⟨⟨d, sc, t0, t1, t2, t3, t4, t5, t6, t7, u0, u1, u3, u4, u7, v5, v6, e1, e2, -⟩⟩, fit⟩ := hr
  replace e1 := hkeep.all e1
  replace e2 := hkeep.all e2
  cases fit
  all_goals (
    ((try dsimp only at e2))
    (try dsimp only)
    (try k_fold)
    k_steps)
  all_goals (try dsimp only)
  all_goals (first | exact hret _ _ _ (keep_end hkeep (by assumption)) ⟨rfl, rfl⟩ | ((refine raise_leave hkeep hback B' (by assumption) (by assumption) (by assumption) (by assumption) (by assumption) (by assumption) hL' rfl rfl rfl (fun h'' th => herr _ _ _ _ _ ?_ th)); exact ⟨rfl, rfl⟩))
 case qh0 => (try delta id oq1 oq2); exact fun h => h

end
end
section
theorem kg27 : True := trivial
def Turned (s : Shared) (g : Heap) (L I : Addr) (oI : Obj) (Jn : (Str → Option Value) → List (Addr × Obj) → Prop) (Q : Flow → Shared → Prop) (f : Flow) (s₂ : Shared) : Prop :=
  match f with
  | .ret v => Q (.ret v) s₂
  | .brk => Q .next s₂
  | _ => ∃ h' tk m₂ news₂, s₂ = { s with heap := h', toks := tk } ∧ Fr g L h' m₂ ∧ News g L h' ((I, oI) :: news₂) ∧ (∀ p ∈ news₂, p.1 ≠ I) ∧ Jn m₂ news₂
section
variable {prog : Program} {w : World} {A : Around} {E : Value → Shared → Prop} {s : Shared} {env : Env} {g : Heap} {m : Str → Option Value} {news : List (Addr × Obj)}
theorem loop_list {x : Str} {body : List Stmt} {items : List Value} {l : Addr} {ol : Obj} {Q : Flow → Shared → Prop} (J : Nat → (Str → Option Value) → List (Addr × Obj) → Prop) (hh : A.handled = none)
    (hol : ∀ h : Heap, h.get? l = some ol → h.IsList l items.toArray) (hl : ∀ i m' m'' news' h', J i m' news' → Fr g env.locals h' m'' → News g env.locals h' news' → h'.get? l = some ol) (hlL : l ≠ env.locals)
    (F : Fr g env.locals s.heap m) (N : News g env.locals s.heap news) (h0 : J 0 m news)
    (step : ∀ i v m₁ news₁ I oI h₁ tk₁, items[i]? = some v → J i m₁ news₁ → (∀ p ∈ news₁, p.1 ≠ I) → Fr g env.locals h₁ (fun y => if y = x then some v else m₁ y) → News g env.locals h₁ ((I, oI) :: news₁) →
      wpAny (model prog w) A (execs body env) (Turned s g env.locals I oI (J (i + 1)) Q) E { s with heap := h₁, toks := tk₁ })
    (done : ∀ h' tk m' news', Fr g env.locals h' m' → News g env.locals h' news' → J items.length m' news' → Q .next { s with heap := h', toks := tk }) :
    wpAny (model prog w) A (pyIter (.ref l)) (fun it s₂ => LoopAtV prog w A g env x body Q E it s₂) E s := by
 refine no_implicit_lambda% ((?qf0 : @Wit ?qp0 ?qe0 → ?qp0) (wit2 ?q00 ?qh0))
 case qf0 => exact fun _ => ?qe0
 case q00 =>
  have hl0 := hl 0 m m news s.heap h0 F N
  refine wpAny_pyIter_list (hol _ hl0) ?_
  have hlI : l ≠ s.heap.objs.size := Nat.ne_of_lt (Heap.lt_size hl0)
  have hgI : ∀ b, g.get? b ≠ none → b ≠ s.heap.objs.size := fun b hb z => by
    cases q : g.get? b with
    | none => exact hb q
    | some o => exact absurd z (Nat.ne_of_lt (Heap.lt_size (F.keep _ _ q)))
  have hLI : env.locals ≠ s.heap.objs.size := by
    obtain ⟨oL, _, _, ho, _⟩ := F.ns
    exact Nat.ne_of_lt (Heap.lt_size ho)
  have hgI0 : g.get? s.heap.objs.size = none := by
    cases q : g.get? s.heap.objs.size with
    | none => rfl
    | some o => exact absurd rfl (hgI _ (by rw [q]; simp))
  have k : ∀ b o, s.heap.get? b = some o → (s.heap.push { cls := .type "list_iterator", data := .fields #[.ref l, .int 0 0] }).get? b = some o := fun b o e => Heap.get?_push_of_some _ e
  have F1 : Fr g env.locals (s.heap.push { cls := .type "list_iterator", data := .fields #[.ref l, .int 0 0] }) m := frKeep (M := []) F (fun _ ha => nomatch ha) (Keep.of _ k)
  have N1 : News g env.locals (s.heap.push { cls := .type "list_iterator", data := .fields #[.ref l, .int 0 0] }) news := newsKeep (M := []) N (fun _ _ => List.not_mem_nil) (Keep.of _ k)
  refine ⟨s.heap.objs.size, [s.heap.objs.size, l], [s.heap.objs.size], items.toArray.size, _, _, m, news, J, rfl, Walks.list hh s.heap.objs.size l hlI items.toArray, ?_, ?_, ?_, ⟨⟨_, Heap.get?_push_size _ rfl, rfl, rfl⟩, hol _ (k _ _ hl0)⟩, F1, N1, h0, ?_, ?_⟩
  · intro z
    rcases List.mem_cons.mp z with z | z
    · exact hLI z
    · exact hlL (List.mem_singleton.mp z).symm
  · intro b hb
    rcases List.mem_singleton.mp hb with rfl
    exact hgI0
  · intro p hp z
    exact absurd (List.mem_singleton.mp z) (Nat.ne_of_lt (Heap.lt_size (N p hp).1))
  · intro i v m₁ news₁ s₁ own hs₁ hi hv hJ hnw hown1 hown2 hown3 hst F2 N2
    obtain ⟨h₁, tk₁, rfl⟩ := hs₁
    obtain ⟨⟨oI, hoI, _⟩, _⟩ := hst
    have hmI := hown3 _ (.head _) hgI0 oI hoI
    have hnI : ∀ p ∈ news₁, p.1 ≠ s.heap.objs.size := fun p hp z => hnw p hp (by rw [z]; exact .head _)
    have N3 : News g env.locals h₁ ((s.heap.objs.size, oI) :: news₁) := fun q hq => by
      rcases List.mem_cons.mp hq with rfl | hq
      · exact N2 _ (List.mem_append.mpr (.inl hmI))
      · exact N2 _ (List.mem_append.mpr (.inr hq))
    refine wpAny_mono (step i v m₁ news₁ _ oI h₁ tk₁ (by simpa using hv) hJ hnI F2 N3) (fun f s₂ z => ?_) fun _ _ z => z
    have fin : (∃ h' tk m₂ news₂, s₂ = { s with heap := h', toks := tk } ∧ Fr g env.locals h' m₂ ∧ News g env.locals h' ((s.heap.objs.size, oI) :: news₂) ∧ (∀ p ∈ news₂, p.1 ≠ s.heap.objs.size) ∧ J (i + 1) m₂ news₂) →
        ∃ h' tk m₂ news₂, s₂ = { s with heap := h', toks := tk } ∧ Fr g env.locals h' m₂ ∧ News g env.locals h' (own ++ news₂) ∧ (∀ p ∈ news₂, p.1 ∉ [s.heap.objs.size]) ∧ J (i + 1) m₂ news₂ := by
      intro rq0
      obtain ⟨h', tk, m₂, news₂, rfl, F4, N4, hne, hJ4⟩ := rq0
      refine ⟨h', tk, m₂, news₂, rfl, F4, fun q hq => ?_, fun p hp z => hne p hp (List.mem_singleton.mp z), hJ4⟩
      rcases List.mem_append.mp hq with hq | hq
      · have z2 := N2 _ (List.mem_append.mpr (.inl hq))
        refine ⟨?_, z2.2⟩
        have h5 : h₁.get? q.1 = some q.2 := hown2 q hq
        rcases List.mem_cons.mp (hown1 q hq) with z | z
        · rw [z] at h5 ⊢
          have h6 : h₁.get? s.heap.objs.size = some oI := hoI
          rw [h6] at h5
          cases h5
          exact (N4 _ (.head _)).1
        · have z := List.mem_singleton.mp z
          rw [z] at h5 ⊢
          have a1 := hl (i + 1) m₂ m₂ news₂ h' hJ4 F4 (fun q hq => N4 q (.tail _ hq))
          have a2 := hl i m₁ _ news₁ h₁ hJ F2 (fun q hq => N3 q (.tail _ hq))
          rw [a2] at h5
          cases h5
          exact a1
      · exact N4 _ (.tail _ hq)
    cases f with
    | ret v => exact z
    | brk => exact z
    | cont => exact ⟨rfl, fin z⟩
    | next => exact ⟨rfl, fin z⟩
  · intro h' tk m' news' F4 N4 _ hJ4
    exact done h' tk m' news' F4 N4 (by simpa using hJ4)
 case qh0 => (try delta id oq1 oq2); exact fun h => h

end
end
section
theorem kg28 : True := trivial
structure FA where
  fr : Addr
  R : Addr
  C : Addr
structure AF where
  ws : List W
  cells : List (Int × W)
  back : Int
def FrameFixD (P : Params) (h : Heap) (x : FA) (d : Addr) (back : Int) : Prop := ∃ t0 t1 t2 tb, h.get? x.fr = some (instObj 501 d) ∧ h.get? d = some (dictOf [ent P "regs" t0 (.ref x.R), ent P "cells" t1 (.ref x.C), ent P "back" t2 (.int back tb)] 3)
def FrameFix (P : Params) (h : Heap) (x : FA) (back : Int) : Prop := ∃ d, FrameFixD P h x d back
def IsRegW (P : Params) (h : Heap) (v : Value) (x : W) : Prop := ∃ a, v = .ref a ∧ RegW P h a x
def RegsAt (P : Params) (h : Heap) (R : Addr) (ws : List W) : Prop := ∃ vs n, h.get? R = some (listOf vs.toArray n) ∧ Paired (IsRegW P h) vs ws
def CellW (P : Params) (h : Heap) (c : Addr) (x : W) : Prop := ∃ d t0 t1 tk a, h.get? c = some (instObj 440 d) ∧ h.get? d = some (dictOf [ent P "kinds" t0 (.str "ssssssss" tk), ent P "reg" t1 (.ref a)] 2) ∧ RegW P h a x
def IsCellW (P : Params) (h : Heap) (kv : Int × Value) (kx : Int × W) : Prop := kv.1 = kx.1 ∧ ∃ c, kv.2 = .ref c ∧ CellW P h c kx.2
def CellsAt (w : World) (h : Heap) (C : Addr) (kxs : List (Int × W)) : Prop := (C == sysModules) = false ∧ ∃ kvs, h.DictOf (intKind Pg w) C kvs ∧ Paired (IsCellW w.params h) kvs kxs
structure FrameAt (w : World) (h : Heap) (x : FA) (f : AF) : Prop where
  fix : FrameFix w.params h x f.back
  regs : RegsAt w.params h x.R f.ws
  cells : CellsAt w h x.C f.cells
theorem FrameFix.keepI {P : Params} {h h' : Heap} {x : FA} {b : Int} (z : FrameFix P h x b) (k : KeepI h h') : FrameFix P h' x b := by
  obtain ⟨d, t0, t1, t2, tb, e1, e2⟩ := z
  exact ⟨d, t0, t1, t2, tb, k _ _ e1 rfl, k _ _ e2 rfl⟩
theorem IsRegW.keepI {P : Params} {h h' : Heap} {v : Value} {x : W} (z : IsRegW P h v x) (k : KeepI h h') : IsRegW P h' v x := let ⟨a, e, r⟩ := z; ⟨a, e, r.keepI k⟩
theorem CellW.keepI {P : Params} {h h' : Heap} {c : Addr} {x : W} (z : CellW P h c x) (k : KeepI h h') : CellW P h' c x := by
  obtain ⟨d, t0, t1, tk, a, e1, e2, e3⟩ := z
  exact ⟨d, t0, t1, tk, a, k _ _ e1 rfl, k _ _ e2 rfl, e3.keepI k⟩
theorem IsCellW.keepI {P : Params} {h h' : Heap} {kv : Int × Value} {kx : Int × W} (z : IsCellW P h kv kx) (k : KeepI h h') : IsCellW P h' kv kx := let ⟨e, c, e2, r⟩ := z; ⟨e, c, e2, r.keepI k⟩
theorem pmono {α β : Type} {F G : α → β → Prop} (k : ∀ a b, F a b → G a b) : ∀ {l₁ : List α} {l₂ : List β}, Paired F l₁ l₂ → Paired G l₁ l₂ := by
  intro l₁ l₂ p
  induction p with
  | nil => exact .nil
  | cons h t ih => exact .cons (k _ _ h) ih
theorem pget {α β : Type} {F : α → β → Prop} : ∀ {l₁ : List α} {l₂ : List β}, Paired F l₁ l₂ → ∀ (i : Nat) a, l₁[i]? = some a → ∃ b, l₂[i]? = some b ∧ F a b := by
  intro l₁ l₂ p
  induction p with
  | nil => intro i a e; simp at e
  | cons h t ih =>
    intro i a e
    cases i with
    | zero => cases (show some _ = some a from e); exact ⟨_, rfl, h⟩
    | succ i => exact ih i a e
theorem pset {α β : Type} {F : α → β → Prop} {a : α} {b : β} (h : F a b) : ∀ {l₁ : List α} {l₂ : List β} (i : Nat), Paired F l₁ l₂ → Paired F (l₁.set i a) (l₂.set i b) := by
  intro l₁ l₂ i p
  revert i
  induction p with
  | nil => intro i; exact .nil
  | cons h' t ih =>
    intro i
    cases i with
    | zero => exact .cons h t
    | succ i => exact .cons h' (ih i)
theorem RegsAt.keep {P : Params} {h h' : Heap} {R : Addr} {ws : List W} (z : RegsAt P h R ws) (k : KeepI h h') (e : ∀ o, h.get? R = some o → h'.get? R = some o) : RegsAt P h' R ws := by
  obtain ⟨vs, n, e1, p⟩ := z
  exact ⟨vs, n, e _ e1, pmono (fun _ _ q => q.keepI k) p⟩
theorem dictOf_keep {w : World} {h h' : Heap} {C : Addr} {kvs : List (Int × Value)} (x : h.DictOf (intKind Pg w) C kvs) (e : ∀ o, h.get? C = some o → h'.get? C = some o) : h'.DictOf (intKind Pg w) C kvs := by
  obtain ⟨o, es, ep, e1, r⟩ := x
  exact ⟨o, es, ep, e _ e1, r⟩
theorem CellsAt.keep {w : World} {h h' : Heap} {C : Addr} {kxs : List (Int × W)} (z : CellsAt w h C kxs) (k : KeepI h h') (e : ∀ o, h.get? C = some o → h'.get? C = some o) : CellsAt w h' C kxs := by
  obtain ⟨lo, kvs, e1, p⟩ := z
  exact ⟨lo, kvs, dictOf_keep e1 e, pmono (fun _ _ q => q.keepI k) p⟩
theorem FrameAt.keep {w : World} {h h' : Heap} {x : FA} {f : AF} (z : FrameAt w h x f) (k : KeepI h h') (e1 : ∀ o, h.get? x.R = some o → h'.get? x.R = some o) (e2 : ∀ o, h.get? x.C = some o → h'.get? x.C = some o) : FrameAt w h' x f :=
  ⟨z.fix.keepI k, z.regs.keep k e1, z.cells.keep k e2⟩
theorem FrameAt.all {w : World} {h h' : Heap} {x : FA} {f : AF} (z : FrameAt w h x f) (k : Keep [] h h') : FrameAt w h' x f := z.keep (KeepI.of fun _ _ => k.all) (fun _ => k.all) (fun _ => k.all)
structure StFix (P : Params) (h : Heap) (st sd fl rl : Addr) (xs : List FA) : Prop where
  inst : h.get? st = some (instObj 581 sd)
  dict : ∃ t0 t1 t2 t, h.get? sd = some (dictOf [ent P "frames" t0 (.ref fl), ent P "next_number" t1 (.int 9 t), ent P "rooms" t2 (.ref rl)] 3)
  list : ∃ n, h.get? fl = some (listOf (xs.map fun x => Value.ref x.fr).toArray n)
theorem ki_setL_some {v : Value} : ∀ {l : List Value} {i : Nat}, i < l.length → ki_setL l i v = some (l.set i v)
  | [], _, h => absurd h (Nat.not_lt_zero _)
  | _ :: _, 0, _ => rfl
  | a :: r, i + 1, h => by
    have := ki_setL_some (v := v) (l := r) (i := i) (by simpa using h)
    simp [ki_setL, this]
section
variable {prog : Program} {w : World} {A : Around} {E : Value → Shared → Prop} {s : Shared}
theorem item_lastK {value slice : PySem.Expr} {l : Addr} {vs : List Value} {u : Tok} {v : Value} {Q : Value → Shared → Prop} (hl : s.heap.IsList l (vs ++ [v]).toArray) (h : Q v s)
    (hs : subscripted slice false (.ref l) (.int (-1) u) = operate [.ref l, .int (-1) u] (getItem (.ref l) (.int (-1) u)) := by with_unfolding_all rfl) :
    wpAny (model prog w) A (subscriptTail value slice (.ref l) (.int (-1) u)) Q E s :=
  tail_any hl.typeIs slot_list_getitem.lookup (wpAny_getItem_list_neg hl (by decide) (by simp; omega) (by decide) (by
    have e : (-1 + ((vs ++ [v]).toArray.size : Int)).toNat = vs.length := by simp; omega
    rw [e]; simp) h) hs
theorem item_symK {value slice : PySem.Expr} {l : Addr} {vs : List Value} {k : Int} {u : Tok} {Q : Value → Shared → Prop} (hl : s.heap.IsList l vs.toArray) (h0 : 0 ≤ k) (h1 : k < vs.length) (hfit : k < 2 ^ 63) (h : ∀ v, vs[k.toNat]? = some v → Q v s)
    (hs : subscripted slice false (.ref l) (.int k u) = operate [.ref l, .int k u] (getItem (.ref l) (.int k u)) := by with_unfolding_all rfl) :
    wpAny (model prog w) A (subscriptTail value slice (.ref l) (.int k u)) Q E s := by
  have hk : k.toNat < vs.length := by omega
  have e : vs[k.toNat]? = some vs[k.toNat] := List.getElem?_eq_getElem hk
  exact tail_any hl.typeIs slot_list_getitem.lookup (wpAny_getItem_list hl h0 hfit (by simpa using e) (h _ e)) hs
end
theorem listOf_base {g h : Heap} {L a : Addr} {m : Str → Option Value} {its : Array Value} {n : Nat} (F : Fr g L h m) (x : g.get? a = some (listOf its n)) : h.IsList a its := ⟨_, F.keep _ _ x, rfl, n, rfl⟩
section
variable {w : World} {p : Program} {loose : List Str} {mean : ExcName → Option Value} {mg mb : Str → Option Value}

theorem kg29 : True := by
  k_with "Z29K_k_room" => (exact Nat.le_of_ble_eq_true rfl)
  k_with "Z29K_k_inst" => (case' zzhy => (refine' inst_base ?zzF ?zzh1 ?zzh2; (case zzF => k_asm); (case zzh1 => assumption); (case zzh2 => assumption)))
  k_with "Z29subscriptTail" => (k_here; (with_reducible show wpAny _ _ (subscriptTail _ _ (Value.ref _) (Value.int _ _)) _ _ _); case' zzhy => (k_dflt ((refine' item_symK ?zzk1 ?zzk2 ?zzk3 ?zzk4 ?_ ?zzk6; (case zzk1 => exact listOf_base (by k_asm) (by assumption)); (case zzk2 => omega); (case zzk3 => omega); (case zzk4 => omega); (case zzk6 => with_unfolding_all rfl); k_whole); intro zzvK zzhvK)))
  k_with "Z29subscriptTail" => (k_here; (with_reducible show wpAny _ _ (subscriptTail _ _ (Value.ref _) (Value.int (-1) _)) _ _ _); case' zzhy => (k_dflt ((refine' item_lastK ?zzk1 ?_ ?zzk6; (case zzk1 => exact listOf_base (by k_asm) (by assumption)); (case zzk6 => with_unfolding_all rfl); k_whole))))
  trivial
theorem reg_sp {s : Shared} {st sd fl rl : Addr} {pre : List FA} {x : FA} {b : Int} {vs : List Value} {n' : Nat} {k : Int} {t : Tok} (S : StFix w.params s.heap st sd fl rl (pre ++ [x])) (hfr : FrameFix w.params s.heap x b) (e6 : s.heap.get? x.R = some (listOf vs.toArray n')) (h0 : 0 ≤ k) (h1 : k < vs.length) (h2 : vs.length ≤ 11) :
    Sp w p loose mean mg mb 24 545 [.ref st, .int k t] [] s (fun v h => vs[k.toNat]? = some v) := by
 refine no_implicit_lambda% ((?qf0 : @Wit ?qp0 ?qe0 → ?qp0) (wit2 ?q00 ?qh0))
 case qf0 => exact fun _ => ?qe0
 case q00 =>
  intro A₀ base h₀ env outer L m R B F X T hf hke hM hret
  k_dflt (refine' enter (H := []) (news := []) (binds := [(Str.ofString "self", .ref st), (Str.ofString "n", .int k t)]) B F X T hf hke (fun a ha => nomatch ha) (fun q hq => nomatch hq) ?ho ?hcd ?hb ?hl ?_ ?hc ?hr ?c1 ?c2 ?c3)
  case ho => k_is
  case hcd => k_is
  case hb => exact BindsTo.of_eq rfl
  case hl => exact locs rfl
  case hc => decide
  case hr => exact Nat.le_of_ble_eq_true rfl
  case c1 => exact rfl
  case c2 => exact rfl
  case c3 => exact rfl
  intro g L' h₁ tk₁ hkeep hback F' hL' N' hk1 B' X' T'
  clear B F X T
  obtain ⟨e1, ⟨t0, t1, t2, t3, e2⟩, n, e3⟩ := S
  obtain ⟨d, u0, u1, u2, ub, e4, e5⟩ := hfr
  rw [List.map_append, List.map_cons, List.map_nil] at e3
  replace e1 := hkeep.all e1
  replace e2 := hkeep.all e2
  replace e3 := hkeep.all e3
  replace e4 := hkeep.all e4
  replace e5 := hkeep.all e5
  replace e6 := hkeep.all e6
  (try dsimp only)
  (try k_fold)
  k_steps
  all_goals (try dsimp only)
  exact hret _ _ _ (keep_end hkeep (by assumption)) (by assumption)
 case qh0 => (try delta id oq1 oq2); exact fun h => h

end
end
section
theorem kg30 : True := trivial
theorem ne_get {h : Heap} {a b : Addr} {o1 o2 : Obj} (e1 : h.get? a = some o1) (e2 : h.get? b = some o2) (hne : o1 ≠ o2) : a ≠ b := fun z => by rw [z, e2] at e1; exact hne (Option.some.inj e1).symm
theorem news_get {g h : Heap} {L a : Addr} {o : Obj} {r : List (Addr × Obj)} (N : News g L h ((a, o) :: r)) : h.get? a = some o := (N _ (.head _)).1
section
variable {w : World} {p : Program} {loose : List Str} {mean : ExcName → Option Value} {mg mb : Str → Option Value}

theorem kg31 : True := by
  k_with "Z31K_k_room" => (exact Nat.le_of_ble_eq_true rfl)
  k_with "Z31K_k_inst" => (case' zzhy => (refine' inst_base ?zzF ?zzh1 ?zzh2; (case zzF => k_asm); (case zzh1 => assumption); (case zzh2 => assumption)))
  k_with "Z31subscriptTail" => (k_here; (with_reducible show wpAny _ _ (subscriptTail _ _ (Value.ref _) (Value.int _ _)) _ _ _); case' zzhy => (k_dflt ((refine' item_symK ?zzk1 ?zzk2 ?zzk3 ?zzk4 ?_ ?zzk6; (case zzk1 => exact listOf_base (by k_asm) (by assumption)); (case zzk2 => omega); (case zzk3 => omega); (case zzk4 => omega); (case zzk6 => with_unfolding_all rfl); k_whole); intro zzvK zzhvK)))
  k_with "Z31subscriptTail" => (k_here; (with_reducible show wpAny _ _ (subscriptTail _ _ (Value.ref _) (Value.int (-1) _)) _ _ _); case' zzhy => (k_dflt ((refine' item_lastK ?zzk1 ?_ ?zzk6; (case zzk1 => exact listOf_base (by k_asm) (by assumption)); (case zzk6 => with_unfolding_all rfl); k_whole))))
  k_with "Z31setItem ref int" => (k_here; (with_reducible show wpAny _ _ (setItem (Value.ref _) (Value.int _ _) _) _ _ _); case' zzhy => (k_dflt ((refine' ki_set ?zzk1 ?zzk2 ?zzk3 ?zzk4 ?zzk5 ?zzk6 ?_; (case zzk1 => k_asm); (case zzk2 => k_asm); (case zzk6 => k_upd); (case zzk3 => omega); (case zzk4 => omega); (case zzk5 => exact ki_setL_some (by simp; omega))); intro zzh' zzF' zzN'; (try dsimp only [List.nil_append, List.cons_append] at zzN'))))
  trivial
theorem put_sp {s : Shared} {st sd fl rl : Addr} {pre : List FA} {x : FA} {b : Int} {vs : List Value} {n' : Nat} {k : Int} {t : Tok} {v : Value} (S : StFix w.params s.heap st sd fl rl (pre ++ [x])) (hfr : FrameFix w.params s.heap x b) (e6 : s.heap.get? x.R = some (listOf vs.toArray n')) (h0 : 0 ≤ k) (h1 : k < vs.length) (h2 : vs.length ≤ 11)
    (hfl : fl ≠ x.R) :
    Sp w p loose mean mg mb 24 552 [.ref st, .int k t, v] [x.R] s (fun r h => r = .none ∧ h.get? x.R = some (listOf (vs.set k.toNat v).toArray n')) := by
 refine no_implicit_lambda% ((?qf0 : @Wit ?qp0 ?qe0 → ?qp0) (wit2 ?q00 ?qh0))
 case qf0 => exact fun _ => ?qe0
 case q00 =>
  obtain ⟨e1, ⟨t0, t1, t2, t3, e2⟩, n, e3⟩ := S
  obtain ⟨d, u0, u1, u2, ub, e4, e5⟩ := hfr
  have n1 := ne_get e1 e6 (fun z => by cases z)
  have n2 := ne_get e2 e6 (fun z => absurd (congrArg Obj.cls z) (by simp))
  have n4 := ne_get e4 e6 (fun z => by cases z)
  have n5 := ne_get e5 e6 (fun z => absurd (congrArg Obj.cls z) (by simp))
  intro A₀ base h₀ env outer L m R B F X T hf hke hM hret
  k_dflt (refine' enter (H := [x.R]) (news := [(x.R, listOf vs.toArray n')]) (binds := [(Str.ofString "self", .ref st), (Str.ofString "n", .int k t), (Str.ofString "reg", v)]) B F X T hf hke (fun a ha => hM a ha) (fun q hq => by rcases List.mem_singleton.mp hq with rfl; exact ⟨e6, .head _⟩) ?ho ?hcd ?hb ?hl ?_ ?hc ?hr ?c1 ?c2 ?c3)
  case ho => k_is
  case hcd => k_is
  case hb => exact BindsTo.of_eq rfl
  case hl => exact locs rfl
  case hc => decide
  case hr => exact Nat.le_of_ble_eq_true rfl
  case c1 => exact rfl
  case c2 => exact rfl
  case c3 => exact rfl
  intro g L' h₁ tk₁ hkeep hback F' hL' N' hk1 B' X' T'
  clear B F X T
  rw [List.map_append, List.map_cons, List.map_nil] at e3
  replace e1 := hkeep _ _ (by simpa using n1) e1
  replace e2 := hkeep _ _ (by simpa using n2) e2
  replace e3 := hkeep _ _ (by simpa using hfl) e3
  replace e4 := hkeep _ _ (by simpa using n4) e4
  replace e5 := hkeep _ _ (by simpa using n5) e5
  (try dsimp only)
  (try k_fold)
  k_steps
  all_goals (try dsimp only)
  exact hret _ _ _ (keep_end hkeep (by assumption)) ⟨rfl, news_get (by assumption)⟩
 case qh0 => (try delta id oq1 oq2); exact fun h => h

end
end
section
theorem kg32 : True := trivial
section
variable {prog : Program} {w : World} {A : Around} {s : Shared} {env : Env} {h₀ : Heap} {L : Addr} {m : Str → Option Value}
theorem compRest_ind {elt : PySem.Expr} {x : Str} {scope : Scope} {cl : List (Str × Addr)} {S : List (Addr × Obj) → Prop} {P : Nat → Value → Prop} {Fin : List Value → List (Addr × Obj) → Prop} {n : Nat} (Inv : Nat → List Value → List (Addr × Obj) → Prop)
    (step : ∀ i ys news v I oI C oC D m₂ h tk (E' : Value → Shared → Prop), i < n → Inv i ys news → P i v → LCg.NsObj oC m₂ → m₂ x = some v → Fr h₀ L h m → News h₀ L h ((I, oI) :: (C, oC) :: (D, LCg.lst ys) :: news) → LCg.Off3 I C D news → ((@Ne Nat I C) ∧ (@Ne Nat I D) ∧ (@Ne Nat C D)) →
      wpAny (model prog w) A (eval elt (compEnvC scope cl C env)) (LCg.CompEnd h₀ L m { s with heap := h, toks := tk } I oI C oC D (LCg.lst ys) S (fun y news' => Inv (i + 1) (ys ++ [y]) news')) E' { s with heap := h, toks := tk })
    (fin : ∀ ys news, Inv n ys news → Fin ys news) : ∀ k i ys news, i + k = n → Inv i ys news → LCg.CompRest prog w A h₀ L m env elt x scope cl s S P Fin k i ys news
  | 0, i, ys, news, e, hI => fin ys news (by rw [← e]; exact hI)
  | k + 1, i, ys, news, e, hI => LCg.CompRest.succ fun v I oI C oC D m₂ h tk E' hP hC hx F N off ne => by
    refine wpAny_mono (step i ys news v I oI C oC D m₂ h tk E' (by omega) hI hP hC hx F N off ne) (fun y s₂ z => ?_) fun _ _ z => z
    obtain ⟨h', tk', news', r1, r2, r3, r4, r5, r6⟩ := z
    exact ⟨h', tk', news', r1, r2, r3, r4, r5, compRest_ind Inv step fin k (i + 1) (ys ++ [y]) news' (by omega) r6⟩
theorem comp_end {g h h' : Heap} {L I C D : Addr} {oI oC oD : Obj} {news : List (Addr × Obj)} {φ ψ : Heap → Prop} {m' : Str → Option Value} (N : News g L h ((I, oI) :: (C, oC) :: (D, oD) :: news)) (F : Fr g L h m') (off : LCg.Off3 I C D news) (k : Keep [] h h') (hI : ∀ h2, News g L h2 news → ψ h2) (r : Made h h' φ) :
    ∃ news', News g L h' ((I, oI) :: (C, oC) :: (D, oD) :: news') ∧ LCg.Off3 I C D news' ∧ ∀ h2, News g L h2 news' → ψ h2 ∧ φ h2 := by
 refine no_implicit_lambda% ((?qf0 : @Wit ?qp0 ?qe0 → ?qp0) (wit2 ?q00 ?qh0))
 case qf0 => exact fun _ => ?qe0
 case q00 =>
  refine ⟨fullBut g L h' [I, C, D], ?_, LCg.Off3.of fun p hp => ?_, fun h2 N2 => ⟨hI h2 fun q hq => N2 q (fullBut_mem.mpr ⟨?_, ?_, ?_, ?_⟩), r h2 fun b o e0 e1 => (N2 (b, o) (fullBut_mem.mpr ⟨e1, ?_, ?_, ?_⟩)).1⟩⟩
  · intro q hq
    rcases List.mem_cons.mp hq with rfl | hq
    · exact ⟨k.all (N _ (.head _)).1, (N _ (.head _)).2⟩
    rcases List.mem_cons.mp hq with rfl | hq
    · exact ⟨k.all (N _ (.tail _ (.head _))).1, (N _ (.tail _ (.head _))).2⟩
    rcases List.mem_cons.mp hq with rfl | hq
    · exact ⟨k.all (N _ (.tail _ (.tail _ (.head _)))).1, (N _ (.tail _ (.tail _ (.head _)))).2⟩
    · have := fullBut_mem.mp hq
      exact ⟨this.1, this.2.2.1, this.2.1⟩
  · have := (fullBut_mem.mp hp).2.2.2
    simp only [List.mem_cons, List.not_mem_nil, or_false, not_or] at this
    exact this
  · exact k.all (N q (.tail _ (.tail _ (.tail _ hq)))).1
  · exact (N q (.tail _ (.tail _ (.tail _ hq)))).2.2
  · exact (N q (.tail _ (.tail _ (.tail _ hq)))).2.1
  · have := off.mem q hq
    simp only [List.mem_cons, List.not_mem_nil, or_false, not_or]
    exact this
  · exact fresh_bk e0 F.keep
  · intro z
    obtain ⟨oL, _, _, ho, _⟩ := F.ns
    rw [show b = L from z] at e0
    rw [e0] at ho
    cases ho
  · simp only [List.mem_cons, List.not_mem_nil, or_false, not_or]
    refine ⟨fun z => ?_, fun z => ?_, fun z => ?_⟩
    · have := (N _ (.head _)).1; rw [show b = I from z] at e0; rw [e0] at this; cases this
    · have := (N _ (.tail _ (.head _))).1; rw [show b = C from z] at e0; rw [e0] at this; cases this
    · have := (N _ (.tail _ (.tail _ (.head _)))).1; rw [show b = D from z] at e0; rw [e0] at this; cases this
 case qh0 => (try delta id oq1 oq2); exact fun h => h

end
theorem one_end {g h h' : Heap} {L D : Addr} {oD : Obj} {news : List (Addr × Obj)} {φ ψ : Heap → Prop} {m' : Str → Option Value} (N : News g L h ((D, oD) :: news)) (F : Fr g L h m') (off : ∀ p ∈ news, p.1 ≠ D) (k : Keep [] h h') (hI : ∀ h2, News g L h2 news → ψ h2) (r : Made h h' φ) :
    ∃ news', News g L h' ((D, oD) :: news') ∧ (∀ p ∈ news', p.1 ≠ D) ∧ ∀ h2, News g L h2 news' → ψ h2 ∧ φ h2 := by
 refine no_implicit_lambda% ((?qf0 : @Wit ?qp0 ?qe0 → ?qp0) (wit2 ?q00 ?qh0))
 case qf0 => exact fun _ => ?qe0
 case q00 =>
  refine ⟨fullBut g L h' [D], ?_, fun p hp => ?_, fun h2 N2 => ⟨hI h2 fun q hq => N2 q (fullBut_mem.mpr ⟨?_, ?_, ?_, ?_⟩), r h2 fun b o e0 e1 => (N2 (b, o) (fullBut_mem.mpr ⟨e1, ?_, ?_, ?_⟩)).1⟩⟩
  · intro q hq
    rcases List.mem_cons.mp hq with rfl | hq
    · exact ⟨k.all (N _ (.head _)).1, (N _ (.head _)).2⟩
    · have := fullBut_mem.mp hq
      exact ⟨this.1, this.2.2.1, this.2.1⟩
  · exact fullBut_ne (.head _) p hp
  · exact k.all (N q (.tail _ hq)).1
  · exact (N q (.tail _ hq)).2.2
  · exact (N q (.tail _ hq)).2.1
  · simp only [List.mem_cons, List.not_mem_nil, or_false]
    exact off q hq
  · exact fresh_bk e0 F.keep
  · intro z
    obtain ⟨oL, _, _, ho, _⟩ := F.ns
    rw [show b = L from z] at e0
    rw [e0] at ho
    cases ho
  · simp only [List.mem_cons, List.not_mem_nil, or_false]
    intro z
    have := (N _ (.head _)).1; rw [show b = D from z] at e0; rw [e0] at this; cases this
 case qh0 => (try delta id oq1 oq2); exact fun h => h

theorem ne_get' {h : Heap} {a b : Addr} {o1 o2 : Obj} (e1 : h.get? a = some o1) (e2 : h.get? b = some o2) (hne : o1.cls ≠ o2.cls) : a ≠ b := fun z => by rw [z, e2] at e1; exact hne (congrArg Obj.cls (Option.some.inj e1).symm)
def MadeBut (s h : Heap) (X : List Addr) (φ : Heap → Prop) : Prop := ∀ h2 : Heap, (∀ b o, s.get? b = none → b ∉ X → h.get? b = some o → h2.get? b = some o) → φ h2
theorem MadeBut.here {s h : Heap} {X : List Addr} {φ : Heap → Prop} (x : MadeBut s h X φ) : φ h := x h fun _ _ _ _ e => e
theorem end_newframe {w : World} {s g h : Heap} {L x d C D a : Addr} {oC : Obj} {ys : List Value} {n : Nat} {b k : Int} {u t0 t1 t2 : Tok} {news2 : List (Addr × Obj)} (hk : Keep [] s g)
    (N : News g L h ((x, instObj 501 d) :: (d, dictOf [ent w.params "regs" t0 (.ref D), ent w.params "cells" t1 (.ref C), ent w.params "back" t2 (.int b u)] 3) :: (C, oC) :: (D, listOf (ys.set (Int.toNat 10) (.ref a)).toArray n) :: news2))
    (hC : Obj.IsDictOf (intKind Pg w) oC []) (hCm : (C == sysModules) = false) (hI : ∀ h2, News g L h2 news2 → Paired (IsRegW w.params h2) ys (List.replicate (0 + 11) W.none) ∧ RegAt w.params h2 a ⟨"stack", 0, 0, -1, k, 0, 0⟩) (hCD : @LT.lt Nat _ D C) (ho2 : ∀ p ∈ news2, p.1 ≠ D) :
    ∃ (y : FA) (d : Addr), Value.ref x = .ref y.fr ∧ s.get? y.fr = none ∧ s.get? d = none ∧ s.get? y.R = none ∧ s.get? y.C = none ∧ y.R ≠ y.C ∧ ∃ vs n, h.get? y.R = some (listOf vs.toArray n) ∧ MadeBut s h [y.R] (fun h2 => FrameFixD w.params h2 y d b ∧ Paired (IsRegW w.params h2) vs ((List.replicate 11 W.none).set 10 (W.stack k 0)) ∧ CellsAt w h2 y.C []) := by
 refine no_implicit_lambda% ((?qf0 : @Wit ?qp0 ?qe0 → ?qp0) (wit2 ?q00 ?qh0))
 case qf0 => exact fun _ => ?qe0
 case q00 =>
  have m1 := N _ (.head _)
  have m2 := N _ (.tail _ (.head _))
  have m3 := N _ (.tail _ (.tail _ (.head _)))
  have m4 := N _ (.tail _ (.tail _ (.tail _ (.head _))))
  have fr : ∀ q o, (q, o) ∈ ((x, instObj 501 d) :: (d, dictOf [ent w.params "regs" t0 (.ref D), ent w.params "cells" t1 (.ref C), ent w.params "back" t2 (.int b u)] 3) :: (C, oC) :: (D, listOf (ys.set (Int.toNat 10) (.ref a)).toArray n) :: news2) → s.get? q = none := fun q o hq => fresh_of hk N hq (by simp)
  have nx : x ≠ D := ne_get' m1.1 m4.1 (by simp)
  have nd : d ≠ D := ne_get' m2.1 m4.1 (by simp)
  have nC : C ≠ D := Nat.ne_of_gt hCD
  refine ⟨⟨x, D, C⟩, d, rfl, fr _ _ (.head _), fr _ _ (.tail _ (.head _)), fr _ _ (.tail _ (.tail _ (.tail _ (.head _)))), fr _ _ (.tail _ (.tail _ (.head _))), Nat.ne_of_lt hCD, _, n, m4.1, fun h2 k2 => ?_⟩
  have N2 : News g L h2 news2 := fun q hq => by
    have hq' := List.mem_cons_of_mem (x, instObj 501 d) (List.mem_cons_of_mem (d, dictOf [ent w.params "regs" t0 (.ref D), ent w.params "cells" t1 (.ref C), ent w.params "back" t2 (.int b u)] 3) (List.mem_cons_of_mem (C, oC) (List.mem_cons_of_mem (D, listOf (ys.set (Int.toNat 10) (.ref a)).toArray n) hq)))
    exact ⟨k2 _ _ (fr _ _ hq') (by simpa using ho2 q hq) (N q hq').1, (N q hq').2⟩
  obtain ⟨p1, p2⟩ := hI h2 N2
  refine ⟨⟨t0, t1, t2, u, k2 _ _ (fr _ _ (.head _)) (by simpa using nx) m1.1, k2 _ _ (fr _ _ (.tail _ (.head _))) (by simpa using nd) m2.1⟩, ?_, hCm, [], ?_, .nil⟩
  · exact pset (i := 10) ⟨a, rfl, _, p2, by constructor⟩ p1
  · obtain ⟨es, ep, r⟩ := hC
    exact ⟨oC, es, ep, k2 _ _ (fr _ _ (.tail _ (.tail _ (.head _)))) (by simpa using nC) m3.1, r⟩
 case qh0 => (try delta id oq1 oq2); exact fun h => h

theorem off1_ne {D : Addr} : ∀ {l : List (Addr × Obj)}, LCg.Off1 D l → ∀ p ∈ l, p.1 ≠ D
  | [], _, _, h => nomatch h
  | _ :: _, x, p, h => by
    rcases List.mem_cons.mp h with rfl | h
    · exact x.1
    · exact off1_ne x.2 p h
theorem allLt_ne {d : Addr} : ∀ {l : List (Addr × Obj)}, AllLt d l → ∀ p ∈ l, p.1 ≠ d
  | [], _, _, h => nomatch h
  | _ :: _, x, p, h => by
    rcases List.mem_cons.mp h with rfl | h
    · exact Nat.ne_of_lt x.1
    · exact allLt_ne x.2 p h
section
variable {w : World} {p : Program} {loose : List Str} {mean : ExcName → Option Value} {mg mb : Str → Option Value}
theorem kg33 : True := by
  k_with "Z33K_k_room" => (exact Nat.le_of_ble_eq_true rfl)
  k_with "Z33K_k_inst" => (case' zzhy => (refine' inst_base ?zzF ?zzh1 ?zzh2; (case zzF => k_asm); (case zzh1 => assumption); (case zzh2 => assumption)))
  k_with "Z33K_k_all" => (exact allLt_ne (by first | assumption | exact And.right (by assumption) | exact And.right (And.right (by assumption)) | exact And.right (And.right (And.right (by assumption)))))
  k_with "Z33K_k_all" => (assumption)
  k_with "Z33CompEnd" => (refine Stop.out ?_)
  k_with "Z33eval ListComp" => (k_here; k_dflt (refine LCg.ListComp_U (F₀ := by k_asm) (by rfl) (by decide) (by rfl) (by decide) (by rfl) ?_))
  k_with "Z33exec Assign cons ListComp" => (k_here; k_dflt (refine LCg.Assign_ListComp_U (F₀ := by k_asm) (by rfl) (by with_unfolding_all rfl) (by rfl) (by decide) (by rfl) (by decide) (by rfl) (by rfl) (by rfl) ?_))
  k_with "Z33CompSrc" => (refine Stop.out ?_)
  k_with "Z33call ref" => (k_here; (with_reducible show wpAny _ _ (call (Value.ref 350) _) _ _ _); case' zzhy => (k_dflt ( (refine' call_eq (f' := Value.ref 350) (vs' := []) ?zzca ?zzcb ?_; (case zzca => exact rfl); (case zzcb => exact rfl)); (refine' use_sp (none_sp ) ?zzuB ?zzuF ?zzuX ?zzuT ?zzuA ?zzuf ?zzuk ?zzuh ?zzud ?zzuu ?zzuM ?_;  (case zzuB => k_asm); (case zzuF => k_asm); (case zzuX => k_asm); (case zzuT => k_asm); (case zzuA => exact rfl); (case zzuf => exact rfl); (case zzuk => exact rfl); (case zzuh => exact rfl); (case zzud => exact Nat.le_of_ble_eq_true rfl); (case zzuu => exact Nat.le_of_ble_eq_true rfl); (case zzuM => exact fun zza zzha => nomatch zzha); k_whole); (intro zzv' zzh' zztk' zzK' zzF' zzP'); (obtain ⟨zza', zze', zzfr', zzr'⟩ := zzP'); subst zze'; (try dsimp only))))
  k_with "Z33call ref" => (k_here; (with_reducible show wpAny _ _ (call (Value.ref 386) _) _ _ _); case' zzhy => (k_dflt ( (refine' call_eq (f' := Value.ref 386) (vs' := [Value.int _ _, Value.int _ _]) ?zzca ?zzcb ?_; (case zzca => exact rfl); (case zzcb => exact rfl)); (refine' use_sp (stack_sp ) ?zzuB ?zzuF ?zzuX ?zzuT ?zzuA ?zzuf ?zzuk ?zzuh ?zzud ?zzuu ?zzuM ?_;  (case zzuB => k_asm); (case zzuF => k_asm); (case zzuX => k_asm); (case zzuT => k_asm); (case zzuA => exact rfl); (case zzuf => exact rfl); (case zzuk => exact rfl); (case zzuh => exact rfl); (case zzud => exact Nat.le_of_ble_eq_true rfl); (case zzuu => exact Nat.le_of_ble_eq_true rfl); (case zzuM => exact fun zza zzha => nomatch zzha); k_whole); (intro zzv' zzh' zztk' zzK' zzF' zzP'); (obtain ⟨zza', zze', zzfr', zzr'⟩ := zzP'); subst zze'; (obtain ⟨zznews2, zzN', zzo2, zzhI2⟩ := one_end (by assumption) (by assumption) (by assumption) zzK' (by assumption) zzr'); (try dsimp only))))
  k_with "Z33setItem ref int" => (k_here; (with_reducible show wpAny _ _ (setItem (Value.ref _) (Value.int _ _) _) _ _ _); case' zzhy => (k_dflt ((refine' ki_set ?zzk1 ?zzk2 ?zzk3 ?zzk4 ?zzk5 ?zzk6 ?_; (case zzk1 => k_asm); (case zzk2 => k_asm); (case zzk6 => k_upd); (case zzk3 => omega); (case zzk4 => omega); (case zzk5 => exact ki_setL_some (by simp; omega))); intro zzh' zzF' zzN'; (try dsimp only [List.nil_append, List.cons_append] at zzN'))))
  trivial
theorem newframe_sp {s : Shared} {k b : Int} {t u : Tok} : Sp w p loose mean mg mb 18 590 [.int k t, .int b u] [] s (fun r h => ∃ (x : FA) (d : Addr), r = .ref x.fr ∧ s.heap.get? x.fr = none ∧ s.heap.get? d = none ∧ s.heap.get? x.R = none ∧ s.heap.get? x.C = none ∧ x.R ≠ x.C ∧ ∃ vs n, h.get? x.R = some (listOf vs.toArray n) ∧ MadeBut s.heap h [x.R] (fun h2 => FrameFixD w.params h2 x d b ∧ Paired (IsRegW w.params h2) vs ((List.replicate 11 W.none).set 10 (W.stack k 0)) ∧ CellsAt w h2 x.C [])) := by
 refine no_implicit_lambda% ((?qf0 : @Wit ?qp0 ?qe0 → ?qp0) (wit2 ?q00 ?qh0))
 case qf0 => exact fun _ => ?qe0
 case q00 =>
  intro A₀ base h₀ env outer L m R B F X T hf hke hM hret
  k_dflt (refine' enter (H := []) (news := []) (binds := [(Str.ofString "depth", .int k t), (Str.ofString "back", .int b u)]) B F X T hf hke (fun a ha => nomatch ha) (fun q hq => nomatch hq) ?ho ?hcd ?hb ?hl ?_ ?hc ?hr ?c1 ?c2 ?c3)
  case ho => k_is
  case hcd => k_is
  case hb => exact BindsTo.of_eq rfl
  case hl => exact locs rfl
  case hc => decide
  case hr => exact Nat.le_of_ble_eq_true rfl
  case c1 => exact rfl
  case c2 => exact rfl
  case c3 => exact rfl
  intro g L' h₁ tk₁ hkeep hback F' hL' N' hk1 B' X' T'
  clear B F X T

  (try dsimp only)
  (try k_fold)
  k_steps
  apply Stop.in
  refine LCg.CompSrc.range (n := 11) (by rfl) (by k_asm) (by k_asm) (by assumption) (by decide) (by decide) (by rw [sizeLine_eq]; decide) ?_
  intro gH
  refine compRest_ind (fun i ys news => ∀ h2, News g L' h2 news → Paired (IsRegW w.params h2) ys (List.replicate i W.none)) ?_ ?_ 11 0 [] _ rfl (fun _ _ => .nil)
  · intro i ys news v I oI C oC D m₂ h tk E' hi hI hP hC hx F N off ne
    k_steps
    apply Stop.in
    rename_i a' _ fr' r' K' F'
    obtain ⟨news', r1, r2, r3⟩ := comp_end N F off (by assumption) hI (by assumption)
    refine (ei2 ⟨news', rfl, by assumption, r1, r2, trivial, fun h2 N2 => ?_⟩)
    obtain ⟨p1, p2⟩ := r3 h2 N2
    rw [List.replicate_succ']
    exact p1.snoc ⟨_, rfl, _, p2, by constructor⟩
  intro ys news hI
  unfold LCg.FinA
  intro D hD tkD FD ND oD
  have hp := hI hD (fun q hq => ND q (.tail _ hq))
  have hlen := hp.length
  rw [List.length_replicate] at hlen
  replace oD := off1_ne oD
  k_steps
  refine hret _ _ _ (keep_end hkeep (by assumption)) ?_
  refine' end_newframe hkeep ?zN ?zC ?zm ?zI ?zl ?zo
  case zN => assumption
  case zC => assumption
  case zm => assumption
  case zI => assumption
  case zl => first | assumption | exact And.left (by assumption)
  case zo => assumption
 case qh0 => (try delta id oq1 oq2); exact fun h => h

end
end
section
theorem kg34 : True := trivial
theorem inst_mix {g h : Heap} {L x C dx : Addr} {m : Str → Option Value} {od : Obj} {news : List (Addr × Obj)} (F : Fr g L h m) (N : News g L h news) (h1 : g.get? x = some (instObj C dx)) (h2 : (dx, od) ∈ news) : InstAt h x (instObj C dx) C (some od) :=
  ⟨F.keep _ _ h1, rfl, rfl, (N _ h2).1⟩
theorem stfix_news {P : Params} {g h : Heap} {L st sd fl rl : Addr} {m : Str → Option Value} {xs : List FA} {news : List (Addr × Obj)} {t0 t1 t2 t : Tok} {n : Nat} (F : Fr g L h m) (N : News g L h news) (e1 : g.get? st = some (instObj 581 sd))
    (m2 : (sd, dictOf [ent P "frames" t0 (.ref fl), ent P "next_number" t1 (.int 9 t), ent P "rooms" t2 (.ref rl)] 3) ∈ news) (e3 : g.get? fl = some (listOf (xs.map fun x => Value.ref x.fr).toArray n)) : StFix P h st sd fl rl xs :=
  ⟨F.keep _ _ e1, ⟨t0, t1, t2, t, (N _ m2).1⟩, ⟨n, F.keep _ _ e3⟩⟩
def calledWs (ws : List W) (k : Int) : List W := ((((((List.replicate 11 W.none).set 10 (W.stack k 0)).set 1 (ws.getD 1 .none)).set 2 (ws.getD 2 .none)).set 3 (ws.getD 3 .none)).set 4 (ws.getD 4 .none)).set 5 (ws.getD 5 .none)
theorem pgetD {P : Params} {h : Heap} {vs : List Value} {ws : List W} (p : Paired (IsRegW P h) vs ws) {i : Nat} {v : Value} (e : vs[i]? = some v) : IsRegW P h v (ws.getD i .none) := by
 refine no_implicit_lambda% ((?qf0 : @Wit ?qp0 ?qe0 → ?qp0) (wit2 ?q00 ?qh0))
 case qf0 => exact fun _ => ?qe0
 case q00 =>
  obtain ⟨b, e2, r⟩ := pget p i v e
  rw [List.getD_eq_getElem?_getD, e2]
  exact r
 case qh0 => (try delta id oq1 oq2); exact fun h => h

theorem end_call {w : World} {s g h : Heap} {L st sd rl D l dy : Addr} {m : Str → Option Value} {pre : List FA} {x y : FA} {vs vy : List Value} {ws : List W} {v1 v2 v3 v4 v5 : Value} {ny : Nat} {ol oF oC : Obj} {t0 t1 t2 t3 : Tok} {k b : Int} {tl : List (Addr × Obj)} (hk : Keep [sd] s g) (F : Fr g L h m)
    (N : News g L h ((D, listOf (List.map (fun x => Value.ref x.fr) (pre ++ [x]) ++ [Value.ref y.fr]).toArray 0) :: (l, ol) :: (y.R, listOf (((((vy.set 1 v1).set 2 v2).set 3 v3).set 4 v4).set 5 v5).toArray ny) ::
      (sd, dictOf [ent w.params "frames" t0 (.ref D), ent w.params "next_number" t1 (.int 9 t3), ent w.params "rooms" t2 (.ref rl)] 3) :: tl))
    (e1 : g.get? st = some (instObj 581 sd)) (hφ : ∀ h2, News g L h2 tl → FrameFixD w.params h2 y dy b ∧ Paired (IsRegW w.params h2) vy ((List.replicate 11 W.none).set 10 (W.stack k 0)) ∧ CellsAt w h2 y.C []) (pg : Paired (IsRegW w.params g) vs ws)
    (a1 : vs[1]? = some v1) (a2 : vs[2]? = some v2) (a3 : vs[3]? = some v3) (a4 : vs[4]? = some v4) (a5 : vs[5]? = some v5) (i1 : (y.fr, oF) ∈ tl) (i3 : (y.C, oC) ∈ tl) (o3 : ∀ p ∈ tl, p.1 ≠ sd) (hne : y.R ≠ y.C) (nD : D ≠ sd) (nR : y.R ≠ sd) :
    ∃ (y : FA) (D : Addr), s.get? y.fr = none ∧ s.get? y.R = none ∧ s.get? y.C = none ∧ y.R ≠ y.C ∧ s.get? D = none ∧ StFix w.params h st sd D rl (pre ++ [x] ++ [y]) ∧ FrameAt w h y ⟨calledWs ws k, [], b⟩ := by
 refine no_implicit_lambda% ((?qf0 : @Wit ?qp0 ?qe0 → ?qp0) (wit2 ?q00 ?qh0))
 case qf0 => exact fun _ => ?qe0
 case q00 =>
  have mt : ∀ q ∈ tl, q ∈ ((D, listOf (List.map (fun x => Value.ref x.fr) (pre ++ [x]) ++ [Value.ref y.fr]).toArray 0) :: (l, ol) :: (y.R, listOf (((((vy.set 1 v1).set 2 v2).set 3 v3).set 4 v4).set 5 v5).toArray ny) ::
      (sd, dictOf [ent w.params "frames" t0 (.ref D), ent w.params "next_number" t1 (.int 9 t3), ent w.params "rooms" t2 (.ref rl)] 3) :: tl) := fun q hq => .tail _ (.tail _ (.tail _ (.tail _ hq)))
  obtain ⟨p1, p2, p3⟩ := hφ h fun q hq => N q (mt q hq)
  have kI : KeepI g h := KeepI.of F.keep
  refine ⟨y, D, fresh_of hk N (mt _ i1) (by simpa using o3 _ i1), fresh_of hk N (.tail _ (.tail _ (.head _))) (by simpa using nR), fresh_of hk N (mt _ i3) (by simpa using o3 _ i3), hne, fresh_of hk N (.head _) (by simpa using nD), ⟨F.keep _ _ e1, ⟨t0, t1, t2, t3, (N _ (.tail _ (.tail _ (.tail _ (.head _))))).1⟩, ⟨0, ?_⟩⟩, ⟨⟨dy, p1⟩, ⟨_, ny, (N _ (.tail _ (.tail _ (.head _)))).1, ?_⟩, p3⟩⟩
  · rw [List.map_append, List.map_cons, List.map_nil]
    exact (N _ (.head _)).1
  · exact pset ((pgetD pg a5).keepI kI) 5 (pset ((pgetD pg a4).keepI kI) 4 (pset ((pgetD pg a3).keepI kI) 3 (pset ((pgetD pg a2).keepI kI) 2 (pset ((pgetD pg a1).keepI kI) 1 p2))))
 case qh0 => (try delta id oq1 oq2); exact fun h => h

theorem after_new {g h0 h' : Heap} {L yR : Addr} {m : Str → Option Value} {es : List (Addr × Obj)} {oR : Obj} {φ : Heap → Prop} (F : Fr g L h0 m) (N : News g L h0 es) (k : Keep [] h0 h') (f3 : h0.get? yR = none) (e3 : h'.get? yR = some oR) (made : MadeBut h0 h' [yR] φ) :
    ∃ tail, News g L h' ((yR, oR) :: (es ++ tail)) ∧ (∀ p ∈ tail, p.1 ≠ yR) ∧ (∀ q ∈ es, ∀ p ∈ tail, p.1 ≠ q.1) ∧ AllNe yR es ∧ (∀ a o, h0.get? a = none → a ≠ yR → h'.get? a = some o → (a, o) ∈ tail) ∧ ∀ h2, News g L h2 tail → φ h2 := by
 refine no_implicit_lambda% ((?qf0 : @Wit ?qp0 ?qe0 → ?qp0) (wit2 ?q00 ?qh0))
 case qf0 => exact fun _ => ?qe0
 case q00 =>
  have hg : ∀ b, h0.get? b = none → g.get? b = none := fun b e => fresh_bk e F.keep
  have hLn : ∀ b, h0.get? b = none → b ≠ L := fun b e z => by
    obtain ⟨oL, _, _, ho, _⟩ := F.ns
    rw [z, ho] at e
    cases e
  have inn : ∀ b o, h0.get? b = none → b ≠ yR → h'.get? b = some o → (b, o) ∈ fullBut g L h' (yR :: es.map (·.1)) := fun b o e0 hb e1 => by
    refine fullBut_mem.mpr ⟨e1, hg b e0, hLn b e0, ?_⟩
    rw [List.mem_cons, not_or]
    refine ⟨hb, fun z => ?_⟩
    obtain ⟨q, hq, z⟩ := List.mem_map.mp z
    have := (N q hq).1
    rw [z, e0] at this
    cases this
  refine ⟨fullBut g L h' (yR :: es.map (·.1)), fun q hq => ?_, fun p hp => fullBut_ne (.head _) p hp, fun q hq p hp => fullBut_ne (.tail _ (List.mem_map_of_mem hq)) p hp, allNe_of f3 fun p hp => (N p hp).1, inn, fun h2 N2 => made h2 fun b o e0 hb e1 => (N2 (b, o) (inn b o e0 (by simpa using hb) e1)).1⟩
  rcases List.mem_cons.mp hq with rfl | hq
  · exact ⟨e3, hLn _ f3, hg _ f3⟩
  rcases List.mem_append.mp hq with hq | hq
  · exact ⟨k.all (N q hq).1, (N q hq).2⟩
  · have := fullBut_mem.mp hq
    exact ⟨this.1, this.2.2.1, this.2.1⟩
 case qh0 => (try delta id oq1 oq2); exact fun h => h

theorem unr_end {h₀ : Heap} {L I : Addr} {it : Obj} {rest : (Str → Option Value) → List (Addr × Obj) → Prop} {s₁ : Shared} {h' : Heap} {tk : Nat} {m' : Str → Option Value} {news' : List (Addr × Obj)} (F : Fr h₀ L h' m') (N : News h₀ L h' ((I, it) :: news')) (off : ∀ p ∈ news', p.1 ≠ I) (r : rest m' news') :
    UnrEnd h₀ L s₁ I it rest { s₁ with heap := h', toks := tk } := UnrEnd.intro F N news' (fun _ hp => hp) off r
section
variable {prog : Program} {w : World} {A : Around} {E : Value → Shared → Prop} {s : Shared}
theorem len_symK {l : Addr} {vs : List Value} {N : Nat} {Q : Value → Shared → Prop} (hl : s.heap.IsList l vs.toArray) (e : vs.length = N) (hfit : N < 1000)
    (h : Q (.int (N : Int) (s.toks + 1)) { s with toks := s.toks + 1 + 1 }) : wpAny (model prog w) A (call (.builtin "len") [.ref l]) Q E s := by
  have e2 : vs.toArray.size = N := by rw [List.size_toArray, e]
  exact len_list hl (by rw [e2]; omega) (by rw [e2]; exact h)
end
section
variable {prog : Program} {w : World} {A : Around} {E : Value → Shared → Prop} {s : Shared}
theorem add_symK {g : Heap} {L l b : Addr} {m : Str → Option Value} {news : List (Addr × Obj)} {vs us : List Value} {Q : Value → Shared → Prop} (F : Fr g L s.heap m) (N : News g L s.heap news) (hl : s.heap.IsList l vs.toArray) (hb : s.heap.IsList b us.toArray) (hz : vs.length + us.length ≤ 1000)
    (h : ∀ D h', Fr g L h' m → News g L h' ((D, listOf (vs ++ us).toArray 0) :: news) → (∀ p ∈ news, p.1 < D) → Q (.ref D) { s with heap := h' }) : wpAny (model prog w) A (binaryOp .Add (.ref l) (.ref b)) Q E s :=
  add_arrays (hsz := by simp only [List.size_toArray]; rw [sizeLine_eq]; omega) F N hl hb fun h' F' N' => h _ h' F' N' fun p hp => Heap.lt_size (N p hp).1
theorem listOf_news {g h : Heap} {L a : Addr} {its : Array Value} {n : Nat} {news : List (Addr × Obj)} (N : News g L h news) (x : (a, listOf its n) ∈ news) : h.IsList a its := ⟨_, (N _ x).1, rfl, n, rfl⟩
end
section
variable {w : World} {p : Program} {loose : List Str} {mean : ExcName → Option Value} {mg mb : Str → Option Value}
theorem kg35 : True := by
  k_with "Z35K_k_room" => (exact Nat.le_of_ble_eq_true rfl)
  k_with "Z35K_k_inst" => (case' zzhy => (refine' inst_base ?zzF ?zzh1 ?zzh2; (case zzF => k_asm); (case zzh1 => assumption); (case zzh2 => assumption)))
  k_with "Z35subscriptTail" => (k_here; (with_reducible show wpAny _ _ (subscriptTail _ _ (Value.ref _) (Value.int _ _)) _ _ _); case' zzhy => (k_dflt ((refine' item_symK ?zzk1 ?zzk2 ?zzk3 ?zzk4 ?_ ?zzk6; (case zzk1 => exact listOf_base (by k_asm) (by assumption)); (case zzk2 => omega); (case zzk3 => omega); (case zzk4 => omega); (case zzk6 => with_unfolding_all rfl); k_whole); intro zzvK zzhvK)))
  k_with "Z35subscriptTail" => (k_here; (with_reducible show wpAny _ _ (subscriptTail _ _ (Value.ref _) (Value.int (-1) _)) _ _ _); case' zzhy => (k_dflt ((refine' item_lastK ?zzk1 ?_ ?zzk6; (case zzk1 => exact listOf_base (by k_asm) (by assumption)); (case zzk6 => with_unfolding_all rfl); k_whole))))
  k_with "Z35setItem ref int" => (k_here; (with_reducible show wpAny _ _ (setItem (Value.ref _) (Value.int _ _) _) _ _ _); case' zzhy => (k_dflt ((refine' ki_set ?zzk1 ?zzk2 ?zzk3 ?zzk4 ?zzk5 ?zzk6 ?_; (case zzk1 => k_asm); (case zzk2 => k_asm); (case zzk6 => k_upd); (case zzk3 => omega); (case zzk4 => omega); (case zzk5 => exact ki_setL_some (by simp; omega))); intro zzh' zzF' zzN'; (try dsimp only [List.nil_append, List.cons_append] at zzN'))))
  k_with "Z35exec Raise some none" => (k_here; case' zzhy => (k_dflt (refine' ex_raise ?zzkX rfl ?_; (case zzkX => k_asm))))
  k_with "Z35call ref" => (k_here; (with_reducible show wpAny _ _ (call (Value.ref 59) _) _ _ _); case' zzhy => (k_dflt ( (refine' call_eq (f' := Value.ref 59) (vs' := [Value.str _ _, Value.int _ _]) ?zzca ?zzcb ?_; (case zzca => exact rfl); (case zzcb => exact rfl)); (refine' refusal_call ?zzuB ?zzuF ?zzuX ?zzuT ?zzuA ?zzuf ?zzuk ?zzuh ?zzud ?zzuu ?_; (case zzuB => k_asm); (case zzuF => k_asm); (case zzuX => k_asm); (case zzuT => k_asm); (case zzuA => exact rfl); (case zzuf => exact rfl); (case zzuk => exact rfl); (case zzuh => exact rfl); (case zzud => exact Nat.le_of_ble_eq_true rfl); (case zzuu => exact Nat.le_of_ble_eq_true rfl); k_whole); (intro zze' zzd' zzt1' zzh' zztk' zze0 zzd0 zzkk zzee zzss zzF'); (refine (fun zzN' => ?_) (newsKeep (M := []) (by assumption) (fun _ _ => List.not_mem_nil) (Keep.of [] zzkk))))))
  k_with "Z35K_k_all" => (exact allLt_ne (by first | assumption | exact And.right (by assumption) | exact And.right (And.right (by assumption)) | exact And.right (And.right (And.right (by assumption)))))
  k_with "Z35K_k_all" => (assumption)
  k_with "Z35K_k_inst" => (case' zzhy => (refine' inst_mix ?zzF ?zzN ?zzh1 ?zzh2; (case zzF => k_asm); (case zzN => k_asm); (case zzh1 => assumption); (case zzh2 => k_mem)))
  k_with "Z35UnrEnd" => (case' zzhy => (k_dflt (refine' unr_end ?zzzF ?zzzN ?zzzo ?_; (case zzzF => assumption); (case zzzN => assumption); (case zzzo => k_all))))
  k_with "Z35K_k_mem" => (assumption)
  k_with "Z35binaryOp Add ref ref" => (k_here; (with_reducible show wpAny _ _ (binaryOp Operator.Add (Value.ref _) (Value.ref _)) _ _ _); case' zzhy => (k_dflt ((refine' add_symK ?zzk1 ?zzk2 ?zzk3 ?zzk4 ?zzk5 ?_; (case zzk1 => k_asm); (case zzk2 => k_asm); (case zzk3 => exact listOf_base (by k_asm) (by assumption)); (case zzk4 => exact listOf_news (by k_asm) (by k_mem)); (case zzk5 => (simp; omega)); k_whole); intro zzD' zzh' zzF' zzN' zzl1; k_lt zzl1)))
  k_with "Z35call builtin:len" => (k_here; (with_reducible show wpAny _ _ (call (Value.builtin "len") [Value.ref _]) _ _ _); case' zzhy => (k_dflt (refine' len_symK ?zzk1 ?zzk2 ?zzk3 ?_; (case zzk1 => exact listOf_base (by k_asm) (by assumption)); (case zzk2 => assumption); (case zzk3 => omega); k_whole)))
  k_with "Z35call ref" => (k_here; (with_reducible show wpAny _ _ (call (Value.ref 590) _) _ _ _); case' zzhy => (k_dflt ( (refine' call_eq (f' := Value.ref 590) (vs' := [Value.int _ _, Value.int _ _]) ?zzca ?zzcb ?_; (case zzca => exact rfl); (case zzcb => exact rfl)); (refine' use_sp (newframe_sp ) ?zzuB ?zzuF ?zzuX ?zzuT ?zzuA ?zzuf ?zzuk ?zzuh ?zzud ?zzuu ?zzuM ?_;  (case zzuB => k_asm); (case zzuF => k_asm); (case zzuX => k_asm); (case zzuT => k_asm); (case zzuA => exact rfl); (case zzuf => exact rfl); (case zzuk => exact rfl); (case zzuh => exact rfl); (case zzud => exact Nat.le_of_ble_eq_true rfl); (case zzuu => exact Nat.le_of_ble_eq_true rfl); (case zzuM => exact fun zza zzha => nomatch zzha); k_whole); (intro zzv' zzh' zztk' zzK' zzF' zzP'); (obtain ⟨zzy', zzdy', zze', zzf1, zzf2, zzf3, zzf4, zzhne', zzvy', zzny', zzg3, zzmade'⟩ := zzP'); subst zze'; (obtain ⟨⟨zzw0, zzw1, zzw2, zzw3, zzg1, zzg2⟩, zzpy', zzcy'⟩ := MadeBut.here zzmade'); (have zzn1' := ne_get' zzg1 zzg3 (by simp)); (have zzn2' := ne_get' zzg2 zzg3 (by simp)); (have zzly' := (Paired.length zzpy').trans (by simp : List.length ((List.replicate 11 W.none).set 10 _) = 11)); (obtain ⟨zztl', zzN', zzo1', zzo2', zzq1', zzin', zzhφ'⟩ := after_new (by assumption) (by assumption) zzK' zzf3 zzg3 zzmade'); (simp only [List.cons_append, List.nil_append] at zzN'); (simp only [AllNe, and_true] at zzq1'); (have zzo3' := zzo2' _ (List.Mem.head _)); (obtain ⟨zzloC, zzkvC, ⟨zzoC, zzesC, zzepC, zzeC, zzrC⟩, zzpC⟩ := zzcy'); (have zzi3' := zzin' _ _ zzf4 (Ne.symm zzhne') zzeC); (have zzi1' := zzin' _ _ zzf1 zzn1' zzg1); (have zzi2' := zzin' _ _ zzf2 zzn2' zzg2); clear zzin' zzo2'; (try dsimp only at zzN' zzo3'); (try dsimp only))))
  k_with "Z35call ref" => (k_here; (with_reducible show wpAny _ _ (call (Value.ref 545) _) _ _ _); case' zzhy => (k_dflt ( (refine' call_eq (f' := Value.ref 545) (vs' := [Value.ref _, Value.int _ _]) ?zzca ?zzcb ?_; (case zzca => exact rfl); (case zzcb => exact rfl)); (refine' use_sp (reg_sp ?zzp0 ?zzp1 ?zzp2 ?zzp3 ?zzp4 ?zzp5) ?zzuB ?zzuF ?zzuX ?zzuT ?zzuA ?zzuf ?zzuk ?zzuh ?zzud ?zzuu ?zzuM ?_; (case zzp0 => exact stfix_news (by k_asm) (by k_asm) (by assumption) (by k_mem) (by assumption)); (case zzp1 => exact (ei5 ⟨Fr.keep (by k_asm) _ _ (by assumption), Fr.keep (by k_asm) _ _ (by assumption)⟩)); (case zzp2 => exact Fr.keep (by k_asm) _ _ (by assumption)); (case zzp3 => omega); (case zzp4 => omega); (case zzp5 => omega); (case zzuB => k_asm); (case zzuF => k_asm); (case zzuX => k_asm); (case zzuT => k_asm); (case zzuA => exact rfl); (case zzuf => exact rfl); (case zzuk => exact rfl); (case zzuh => exact rfl); (case zzud => exact Nat.le_of_ble_eq_true rfl); (case zzuu => exact Nat.le_of_ble_eq_true rfl); (case zzuM => exact fun zza zzha => nomatch zzha); k_whole); (intro zzv' zzh' zztk' zzK' zzF' zzP'); (refine (fun zzN' => ?_) (newsKeep (M := []) (by assumption) (fun _ _ => List.not_mem_nil) zzK')); (try dsimp only))))
  trivial
theorem localcall_sp {s : Shared} {st sd fl rl : Addr} {pre : List FA} {x : FA} {b : Int} {vs : List Value} {n' : Nat} {ws : List W} {pl : Int} {tp : Tok} (S : StFix w.params s.heap st sd fl rl (pre ++ [x])) (hfr : FrameFix w.params s.heap x b) (e6 : s.heap.get? x.R = some (listOf vs.toArray n'))
    (pr : Paired (IsRegW w.params s.heap) vs ws) (hlen : ws.length = 11) (hpre : pre.length ≤ 20) :
    SpE w p loose mean mg mb 14 672 [.ref st, .none, .int pl tp] [sd] s (fun v h => v = .ref st ∧ pre.length < 7 ∧ ∃ (y : FA) (D : Addr), s.heap.get? y.fr = none ∧ s.heap.get? y.R = none ∧ s.heap.get? y.C = none ∧ y.R ≠ y.C ∧ s.heap.get? D = none ∧ StFix w.params h st sd D rl (pre ++ [x] ++ [y]) ∧ FrameAt w h y ⟨calledWs ws ((pre.length + 1 : Nat) : Int), [], pl + 1⟩) (fun what q => q = pl ∧ what = "too many frames" ∧ 7 ≤ pre.length) := by
 refine no_implicit_lambda% ((?qf0 : @Wit ?qp0 ?qe0 → ?qp0) (wit2 ?q00 ?qh0))
 case qf0 => exact fun _ => ?qe0
 case q00 =>
  obtain ⟨e1, ⟨t0, t1, t2, t3, e2⟩, n, e3⟩ := S
  obtain ⟨d, u0, u1, u2, ub, e4, e5⟩ := hfr
  have ab : @Ne Nat st sd := ne_get e1 e2 (fun z => absurd (congrArg Obj.cls z) (by simp))
  have a3 : fl ≠ st := ne_get e3 e1 (fun z => by cases z)
  have b3 : fl ≠ sd := ne_get e3 e2 (fun z => absurd (congrArg Obj.cls z) (by simp))
  have a4 : x.fr ≠ st := ne_get e4 e1 (fun z => absurd (congrArg Obj.cls z) (by simp))
  have b4 : x.fr ≠ sd := ne_get e4 e2 (fun z => by cases z)
  have a5 : d ≠ st := ne_get e5 e1 (fun z => by cases z)
  have b5 : d ≠ sd := fun z => by
    rw [z, e2] at e5
    have := congrArg Obj.data (Option.some.inj e5)
    simp at this
  have a6 : x.R ≠ st := ne_get e6 e1 (fun z => by cases z)
  have b6 : x.R ≠ sd := ne_get e6 e2 (fun z => absurd (congrArg Obj.cls z) (by simp))
  have hvl := pr.length
  have hN : ((pre ++ [x]).map fun x => Value.ref x.fr).length = pre.length + 1 := by simp
  intro A₀ base h₀ env outer L m R B F X T hf hke hM hret herr
  k_dflt (refine' enter (H := [sd]) (news := [(sd, dictOf [ent w.params "frames" t0 (.ref fl), ent w.params "next_number" t1 (.int 9 t3), ent w.params "rooms" t2 (.ref rl)] 3)]) (binds := [(Str.ofString "state", .ref st), (Str.ofString "program", .none), (Str.ofString "at", .int pl tp)]) B F X T hf hke (fun a ha => hM a ha) (fun q hq => by rcases List.mem_singleton.mp hq with rfl; exact ⟨e2, .head _⟩) ?ho ?hcd ?hb ?hl ?_ ?hc ?hr ?c1 ?c2 ?c3)
  case ho => k_is
  case hcd => k_is
  case hb => exact BindsTo.of_eq rfl
  case hl => exact locs rfl
  case hc => decide
  case hr => exact Nat.le_of_ble_eq_true rfl
  case c1 => exact rfl
  case c2 => exact rfl
  case c3 => exact rfl
  intro g L' h₁ tk₁ hkeep hback F' hL' N' hk1 B' X' T'
  clear B F X T

  have pg : Paired (IsRegW w.params g) vs ws := pmono (fun _ _ q => q.keepI (hkeep.keepI fun a ha o ho => by
    rcases List.mem_singleton.mp ha with rfl
    rw [e2] at ho
    cases ho
    rfl)) pr
  replace e1 := hkeep _ _ (by simpa using ab) e1
  replace e3 := hkeep _ _ (by simp [b3]) e3
  replace e4 := hkeep _ _ (by simp [b4]) e4
  replace e5 := hkeep _ _ (by simp [b5]) e5
  replace e6 := hkeep _ _ (by simp [b6]) e6
  (try dsimp only)
  (try k_fold)
  k_steps
  · (refine raise_leave hkeep hback B' (by assumption) (by assumption) (by assumption) (by assumption) (by assumption) (by assumption) hL' rfl rfl rfl (fun h'' th => herr _ _ _ _ _ ?_ th))
    exact ⟨rfl, rfl, by omega⟩
  (try dsimp only)
  refine hret _ _ _ (keep_end hkeep (by assumption)) ⟨rfl, by omega, ?_⟩
  refine' end_call hkeep ?zF ?zN e1 ?zh pg ?z1 ?z2 ?z3 ?z4 ?z5 ?zi ?zj ?zo ?zn ?zd ?ze
  case zF => assumption
  case zN => assumption
  case zh => assumption
  case z1 => assumption
  case z2 => assumption
  case z3 => assumption
  case z4 => assumption
  case z5 => assumption
  case zi => assumption
  case zj => assumption
  case zo => assumption
  case zn => assumption
  case zd => k_ne
  case ze => k_ne
 case qh0 => (try delta id oq1 oq2); exact fun h => h

end
end
section
theorem kg36 : True := trivial
theorem es_end {g h h' : Heap} {L : Addr} {m' : Str → Option Value} {es tl : List (Addr × Obj)} {φ ψ : Heap → Prop} (N : News g L h (es ++ tl)) (F : Fr g L h m') (off : ∀ q ∈ es, ∀ p ∈ tl, p.1 ≠ q.1) (k : Keep [] h h') (hI : ∀ h2, News g L h2 tl → ψ h2) (r : Made h h' φ) :
    ∃ tl', News g L h' (es ++ tl') ∧ (∀ q ∈ es, ∀ p ∈ tl', p.1 ≠ q.1) ∧ (∀ p ∈ tl, p ∈ tl') ∧ ∀ h2, News g L h2 tl' → ψ h2 ∧ φ h2 := by
 refine no_implicit_lambda% ((?qf0 : @Wit ?qp0 ?qe0 → ?qp0) (wit2 ?q00 ?qh0))
 case qf0 => exact fun _ => ?qe0
 case q00 =>
  have sub : ∀ q ∈ tl, q ∈ fullBut g L h' (es.map (·.1)) := fun q hq => by
    have z := N q (List.mem_append.mpr (.inr hq))
    refine fullBut_mem.mpr ⟨k.all z.1, z.2.2, z.2.1, fun hm => ?_⟩
    obtain ⟨e, he, hee⟩ := List.mem_map.mp hm
    exact off e he q hq hee.symm
  refine ⟨fullBut g L h' (es.map (·.1)), fun q hq => ?_, fun q hq p hp => fullBut_ne (List.mem_map_of_mem hq) p hp, sub, fun h2 N2 => ⟨hI h2 fun q hq => N2 q (sub q hq), r h2 fun b o e0 e1 => (N2 (b, o) (fullBut_mem.mpr ⟨e1, fresh_bk e0 F.keep, fun z => ?_, fun hm => ?_⟩)).1⟩⟩
  · rcases List.mem_append.mp hq with hq | hq
    · exact ⟨k.all (N q (List.mem_append.mpr (.inl hq))).1, (N q (List.mem_append.mpr (.inl hq))).2⟩
    · have := fullBut_mem.mp hq
      exact ⟨this.1, this.2.2.1, this.2.1⟩
  · obtain ⟨oL, _, _, ho, _⟩ := F.ns
    rw [show b = L from z] at e0
    rw [e0] at ho
    cases ho
  · obtain ⟨q, hq, hqq⟩ := List.mem_map.mp hm
    have := (N q (List.mem_append.mpr (.inl hq))).1
    rw [hqq, e0] at this
    cases this
 case qh0 => (try delta id oq1 oq2); exact fun h => h

theorem es2_end {g h h' : Heap} {L : Addr} {m' : Str → Option Value} {q1 q2 : Addr × Obj} {tl : List (Addr × Obj)} {φ ψ : Heap → Prop} (N : News g L h (q1 :: q2 :: tl)) (F : Fr g L h m') (o1 : ∀ p ∈ tl, p.1 ≠ q1.1) (o2 : ∀ p ∈ tl, p.1 ≠ q2.1) (k : Keep [] h h') (hI : ∀ h2, News g L h2 tl → ψ h2) (r : Made h h' φ) :
    ∃ tl', News g L h' (q1 :: q2 :: tl') ∧ (∀ p ∈ tl', p.1 ≠ q1.1) ∧ (∀ p ∈ tl', p.1 ≠ q2.1) ∧ (∀ p ∈ tl, p ∈ tl') ∧ ∀ h2, News g L h2 tl' → ψ h2 ∧ φ h2 := by
  obtain ⟨tl', a, b, c, d⟩ := es_end (es := [q1, q2]) (tl := tl) N F (List.forall_mem_cons.mpr ⟨o1, List.forall_mem_cons.mpr ⟨o2, List.forall_mem_nil _⟩⟩) k hI r
  exact ⟨tl', a, b _ (.head _), b _ (.tail _ (.head _)), c, d⟩
end
section
theorem kg37 : True := trivial
section
variable {prog : Program} {w : World} {A : Around} {E : Value → Shared → Prop} {s : Shared} {env : Env} {g : Heap} {m : Str → Option Value} {news : List (Addr × Obj)}
theorem loop_range {x : Str} {body : List Stmt} {r : Addr} {a b c : Int} {t u v : Tok} {n : Nat} {Q : Flow → Shared → Prop} (J : Nat → (Str → Option Value) → List (Addr × Obj) → Prop) (hh : A.handled = none)
    (hr : IsRange s.heap r a b c t u v) (hsm : Builtin.Range.small a b c = true) (hn : Builtin.Range.rangeSize a b c = (n : Int))
    (F : Fr g env.locals s.heap m) (N : News g env.locals s.heap news) (h0 : J 0 m news)
    (step : ∀ (i : Nat) (tk0 : Tok) m₁ news₁ I oI h₁ tk₁, i < n → J i m₁ news₁ → (∀ p ∈ news₁, p.1 ≠ I) → Fr g env.locals h₁ (fun y => if y = x then some (.int (a + i * c) tk0) else m₁ y) → News g env.locals h₁ ((I, oI) :: news₁) →
      wpAny (model prog w) A (execs body env) (Turned s g env.locals I oI (J (i + 1)) Q) E { s with heap := h₁, toks := tk₁ })
    (done : ∀ h' tk m' news', Fr g env.locals h' m' → News g env.locals h' news' → J n m' news' → Q .next { s with heap := h', toks := tk }) :
    wpAny (model prog w) A (pyIter (.ref r)) (fun it s₂ => LoopAtV prog w A g env x body Q E it s₂) E s := by
 refine no_implicit_lambda% ((?qf0 : @Wit ?qp0 ?qe0 → ?qp0) (wit2 ?q00 ?qh0))
 case qf0 => exact fun _ => ?qe0
 case q00 =>
  refine wpAny_pyIter_range hr hsm ?_
  have hgI0 : g.get? s.heap.objs.size = none := by
    cases q : g.get? s.heap.objs.size with
    | none => rfl
    | some o => exact absurd (Heap.lt_size (F.keep _ _ q)) (Nat.lt_irrefl _)
  have hLI : env.locals ≠ s.heap.objs.size := by
    obtain ⟨oL, _, _, ho, _⟩ := F.ns
    exact Nat.ne_of_lt (Heap.lt_size ho)
  have k : ∀ b' o, s.heap.get? b' = some o → (s.heap.push { cls := .type "range_iterator", data := .fields #[rawInt a, rawInt (Builtin.Range.rangeSize a b c), rawInt c] }).get? b' = some o := fun b' o e => Heap.get?_push_of_some _ e
  have F1 := frKeep (M := []) F (fun _ ha => nomatch ha) (Keep.of _ k)
  have N1 := newsKeep (M := []) N (fun _ _ => List.not_mem_nil) (Keep.of _ k)
  refine ⟨s.heap.objs.size, [s.heap.objs.size], [s.heap.objs.size], n, _, _, m, news, J, rfl, Walks.range hh s.heap.objs.size a c n, ?_, ?_, ?_, ?_, F1, N1, h0, ?_, ?_⟩
  · intro z
    exact hLI (List.mem_singleton.mp z)
  · intro b' hb
    rcases List.mem_singleton.mp hb with rfl
    exact hgI0
  · intro p hp z
    exact absurd (List.mem_singleton.mp z) (Nat.ne_of_lt (Heap.lt_size (N p hp).1))
  · have := Heap.get?_push_size (o := { cls := .type "range_iterator", data := .fields #[rawInt a, rawInt (Builtin.Range.rangeSize a b c), rawInt c] }) s.heap rfl
    rw [hn] at this ⊢
    simpa using this
  · intro i v m₁ news₁ s₁ own hs₁ hi hv hJ hnw hown1 hown2 hown3 hst F2 N2
    obtain ⟨h₁, tk₁, rfl⟩ := hs₁
    obtain ⟨tk0, rfl⟩ := hv
    obtain ⟨oI, hoI⟩ : ∃ oI, h₁.get? s.heap.objs.size = some oI := ⟨_, hst⟩
    have hmI := hown3 _ (.head _) hgI0 _ hoI
    have hnI : ∀ p ∈ news₁, p.1 ≠ s.heap.objs.size := fun p hp z => hnw p hp (by rw [z]; exact .head _)
    refine wpAny_mono (step i tk0 m₁ news₁ _ oI h₁ tk₁ hi hJ hnI F2 (fun q hq => by
      rcases List.mem_cons.mp hq with rfl | hq
      · exact N2 _ (List.mem_append.mpr (.inl hmI))
      · exact N2 _ (List.mem_append.mpr (.inr hq)))) (fun f s₂ z => ?_) fun _ _ z => z
    have fin : (∃ h' tk m₂ news₂, s₂ = { s with heap := h', toks := tk } ∧ Fr g env.locals h' m₂ ∧ News g env.locals h' ((s.heap.objs.size, oI) :: news₂) ∧ (∀ p ∈ news₂, p.1 ≠ s.heap.objs.size) ∧ J (i + 1) m₂ news₂) →
        ∃ h' tk m₂ news₂, s₂ = { s with heap := h', toks := tk } ∧ Fr g env.locals h' m₂ ∧ News g env.locals h' (own ++ news₂) ∧ (∀ p ∈ news₂, p.1 ∉ [s.heap.objs.size]) ∧ J (i + 1) m₂ news₂ := by
      intro rq0
      obtain ⟨h', tk, m₂, news₂, rfl, F4, N4, hne, hJ4⟩ := rq0
      refine ⟨h', tk, m₂, news₂, rfl, F4, fun q hq => ?_, fun p hp z => hne p hp (List.mem_singleton.mp z), hJ4⟩
      rcases List.mem_append.mp hq with hq | hq
      · have z2 := N2 _ (List.mem_append.mpr (.inl hq))
        refine ⟨?_, z2.2⟩
        have h5 : h₁.get? q.1 = some q.2 := hown2 q hq
        have z := List.mem_singleton.mp (hown1 q hq)
        rw [z] at h5 ⊢
        have h6 : h₁.get? s.heap.objs.size = some oI := hoI
        rw [h6] at h5
        cases h5
        exact (N4 _ (.head _)).1
      · exact N4 _ (.tail _ hq)
    cases f with
    | ret v => exact z
    | brk => exact z
    | cont => exact ⟨rfl, fin z⟩
    | next => exact ⟨rfl, fin z⟩
  · intro h' tk m' news' F4 N4 _ hJ4
    exact done h' tk m' news' F4 N4 hJ4
 case qh0 => (try delta id oq1 oq2); exact fun h => h

end
end
section
theorem kg38 : True := trivial
theorem StFix.all {P : Params} {h h' : Heap} {st sd fl rl : Addr} {xs : List FA} (S : StFix P h st sd fl rl xs) (k : ∀ b o, b = st ∨ b = sd ∨ b = fl → h.get? b = some o → h'.get? b = some o) : StFix P h' st sd fl rl xs := by
  obtain ⟨e1, ⟨t0, t1, t2, t3, e2⟩, n, e3⟩ := S
  exact ⟨k _ _ (.inl rfl) e1, ⟨t0, t1, t2, t3, k _ _ (.inr (.inl rfl)) e2⟩, ⟨n, k _ _ (.inr (.inr rfl)) e3⟩⟩
theorem stfix_base {P : Params} {g h : Heap} {L st sd fl rl : Addr} {m : Str → Option Value} {xs : List FA} (F : Fr g L h m) (S : StFix P g st sd fl rl xs) : StFix P h st sd fl rl xs := S.all fun b o _ e => F.keep b o e
theorem fix_base {P : Params} {g h : Heap} {L : Addr} {m : Str → Option Value} {x : FA} {b : Int} (F : Fr g L h m) (S : FrameFix P g x b) : FrameFix P h x b := S.keepI (KeepI.of F.keep)
theorem News_at {g h : Heap} {L a : Addr} {o : Obj} {news : List (Addr × Obj)} (N : News g L h news) (x : (a, o) ∈ news) : h.get? a = some o := (N _ x).1
theorem newsSub {g h : Heap} {L : Addr} {n1 n2 : List (Addr × Obj)} (N : News g L h n1) (s : ∀ q ∈ n2, q ∈ n1) : News g L h n2 := fun q hq => N q (s q hq)
theorem sub1 {a b : Addr × Obj} : ∀ q ∈ [b], q ∈ [a, b] := fun q hq => .tail _ hq
def forgot (ws : List W) : Nat → List W
  | 0 => ws
  | i + 1 => (forgot ws i).set (i + 1) .none
section
variable {w : World} {p : Program} {loose : List Str} {mean : ExcName → Option Value} {mg mb : Str → Option Value}
theorem kg39 : True := by
  k_with "Z39K_k_room" => (exact Nat.le_of_ble_eq_true rfl)
  k_with "Z39K_k_inst" => (case' zzhy => (refine' inst_base ?zzF ?zzh1 ?zzh2; (case zzF => k_asm); (case zzh1 => assumption); (case zzh2 => assumption)))
  k_with "Z39K_k_all" => (exact allLt_ne (by first | assumption | exact And.right (by assumption) | exact And.right (And.right (by assumption)) | exact And.right (And.right (And.right (by assumption)))))
  k_with "Z39K_k_all" => (assumption)
  k_with "Z39K_k_mem" => (assumption)
  k_with "Z39exec For Name Call cons nil" => (k_here; case' zzhy => ((rename Fr _ _ _ _ => zzlF'); (with_unfolding_all refine' For_invVF zzlF' ?zzk1 ?zzk2 ?_; (case zzk1 => exact rfl); (case zzk2 => exact rfl); k_whole)))
  k_with "Z39exec For Name Name cons nil" => (k_here; case' zzhy => ((rename Fr _ _ _ _ => zzlF'); (with_unfolding_all refine' For_invVF zzlF' ?zzk1 ?zzk2 ?_; (case zzk1 => exact rfl); (case zzk2 => exact rfl); k_whole)))
  k_with "Z39exec For Name Attribute cons nil" => (k_here; case' zzhy => ((rename Fr _ _ _ _ => zzlF'); (with_unfolding_all refine' For_invVF zzlF' ?zzk1 ?zzk2 ?_; (case zzk1 => exact rfl); (case zzk2 => exact rfl); k_whole)))
  k_with "Z39exec For Name Subscript cons nil" => (k_here; case' zzhy => ((rename Fr _ _ _ _ => zzlF'); (with_unfolding_all refine' For_invVF zzlF' ?zzk1 ?zzk2 ?_; (case zzk1 => exact rfl); (case zzk2 => exact rfl); k_whole)))
  k_with "Z39exec For Name BinOp cons nil" => (k_here; case' zzhy => ((rename Fr _ _ _ _ => zzlF'); (with_unfolding_all refine' For_invVF zzlF' ?zzk1 ?zzk2 ?_; (case zzk1 => exact rfl); (case zzk2 => exact rfl); k_whole)))
  k_with "Z39pyIter ref" => (refine Stop.out ?_)
  k_with "Z39call type:range" => (k_here; case' zzhy => (k_dflt (first | ((with_reducible show wpAny _ _ (call _ [Value.int _ _]) _ _ _); refine' range1_rows ?zzzF ?zzzN ?_; (case zzzF => k_asm); (case zzzN => k_asm); k_whole) | ((with_reducible show wpAny _ _ (call _ [Value.int _ _, Value.int _ _]) _ _ _); refine' range2_rows ?zzzF ?zzzN ?_; (case zzzF => k_asm); (case zzzN => k_asm); k_whole)); intro zzh' zztk' zzt1' zzu1' zzv1' zzR' zzF' zzN' zzk'))
  k_with "Z39LOOK" => ((try dsimp only); first | assumption | exact if_pos rfl | (refine (if_neg (by decide)).trans ?_; walk_at "LOOK") | exact rfl)
  k_with "Z39eval Name" => (k_here; case' zzhy => (k_dflt (refine' nameX_L ?zzzF ?zzzv ?_ ?zzza ?zzzb ?zzzc; (case zzza => exact rfl); (case zzzb => exact rfl); (case zzzc => decide); (case zzzF => k_asm); (case zzzv => walk_at "LOOK"); k_whole)))
  k_with "Z39call ref" => (k_here; (with_reducible show wpAny _ _ (call (Value.ref 350) _) _ _ _); case' zzhy => (k_dflt ( (refine' call_eq (f' := Value.ref 350) (vs' := []) ?zzca ?zzcb ?_; (case zzca => exact rfl); (case zzcb => exact rfl)); (refine' use_sp (none_sp ) ?zzuB ?zzuF ?zzuX ?zzuT ?zzuA ?zzuf ?zzuk ?zzuh ?zzud ?zzuu ?zzuM ?_;  (case zzuB => k_asm); (case zzuF => k_asm); (case zzuX => k_asm); (case zzuT => k_asm); (case zzuA => exact rfl); (case zzuf => exact rfl); (case zzuk => exact rfl); (case zzuh => exact rfl); (case zzud => exact Nat.le_of_ble_eq_true rfl); (case zzuu => exact Nat.le_of_ble_eq_true rfl); (case zzuM => exact fun zza zzha => nomatch zzha); k_whole); (intro zzv' zzh' zztk' zzK' zzF' zzP'); (obtain ⟨zza', zze', zzfr', zzr'⟩ := zzP'); subst zze'; (obtain ⟨zztl', zzN', zzo1', zzo2', zzsb', zzhI'⟩ := es2_end (by assumption) (by assumption) (by k_all) (by k_all) zzK' (by assumption) zzr'); (try dsimp only at zzN' zzo1' zzo2'); (try dsimp only))))
  k_with "Z39call ref" => (k_here; (with_reducible show wpAny _ _ (call (Value.ref 552) _) _ _ _); case' zzhy => (k_dflt ( (refine' call_eq (f' := Value.ref 552) (vs' := [Value.ref _, Value.int _ _, _]) ?zzca ?zzcb ?_; (case zzca => exact rfl); (case zzcb => exact rfl)); (refine' use_sp (put_sp ?zzp0 ?zzp1 ?zzp2 ?zzp3 ?zzp4 ?zzp5 ?zzp6) ?zzuB ?zzuF ?zzuX ?zzuT ?zzuA ?zzuf ?zzuk ?zzuh ?zzud ?zzuu ?zzuM ?_; (case zzp0 => exact stfix_base (by k_asm) (by assumption)); (case zzp1 => exact fix_base (by k_asm) (by assumption)); (case zzp2 => exact (News_at (by k_asm) (by k_mem))); (case zzp3 => omega); (case zzp4 => omega); (case zzp5 => omega); (case zzp6 => assumption); (case zzuB => k_asm); (case zzuF => k_asm); (case zzuX => k_asm); (case zzuT => k_asm); (case zzuA => exact rfl); (case zzuf => exact rfl); (case zzuk => exact rfl); (case zzuh => exact rfl); (case zzud => exact Nat.le_of_ble_eq_true rfl); (case zzuu => exact Nat.le_of_ble_eq_true rfl); (case zzuM => exact newsHid (by k_asm) (by k_mem)); k_whole); (intro zzv' zzh' zztk' zzK' zzF' zzP'); (obtain ⟨zze', zze6'⟩ := zzP'); subst zze'; (refine' (fun zzN' => ?_) (newsUpd ?zzuN ?zzuU zzK' zze6'); (case zzuN => k_asm); (case zzuU => k_upd); (try dsimp only at zzN')); (try dsimp only))))
  trivial
theorem forget_sp {s : Shared} {st sd fl rl : Addr} {pre : List FA} {x : FA} {b : Int} {vs : List Value} {n' : Nat} {ws : List W} (S : StFix w.params s.heap st sd fl rl (pre ++ [x])) (hfr : FrameFix w.params s.heap x b) (e6 : s.heap.get? x.R = some (listOf vs.toArray n'))
    (pr : Paired (IsRegW w.params s.heap) vs ws) (hlen : vs.length = 11) (hfl : fl ≠ x.R) :
    Sp w p loose mean mg mb 18 665 [.ref st] [x.R] s (fun v h => v = .none ∧ RegsAt w.params h x.R (forgot ws 5)) := by
 refine no_implicit_lambda% ((?qf0 : @Wit ?qp0 ?qe0 → ?qp0) (wit2 ?q00 ?qh0))
 case qf0 => exact fun _ => ?qe0
 case q00 =>
  have n1 := ne_get S.inst e6 (fun z => by cases z)
  have n2 : sd ≠ x.R := by
    obtain ⟨_, _, _, _, e2⟩ := S.dict
    exact ne_get e2 e6 (fun z => absurd (congrArg Obj.cls z) (by simp))
  intro A₀ base h₀ env outer L m R B F X T hf hke hM hret
  k_dflt (refine' enter (H := [x.R]) (news := [(x.R, listOf vs.toArray n')]) (binds := [(Str.ofString "state", .ref st)]) B F X T hf hke (fun a ha => hM a ha) (fun q hq => by rcases List.mem_singleton.mp hq with rfl; exact ⟨e6, .head _⟩) ?ho ?hcd ?hb ?hl ?_ ?hc ?hr ?c1 ?c2 ?c3)
  case ho => k_is
  case hcd => k_is
  case hb => exact BindsTo.of_eq rfl
  case hl => exact locs rfl
  case hc => decide
  case hr => exact Nat.le_of_ble_eq_true rfl
  case c1 => exact rfl
  case c2 => exact rfl
  case c3 => exact rfl
  intro g L' h₁ tk₁ hkeep hback F' hL' N' hk1 B' X' T'
  clear B F X T

  have Sg : StFix w.params g st sd fl rl (pre ++ [x]) := S.all fun b o hb e => hkeep b o (by
    rw [List.mem_singleton]
    rcases hb with rfl | rfl | rfl
    · exact n1
    · exact n2
    · exact hfl) e
  have kI0 : KeepI s.heap g := hkeep.keepI fun a ha => by
    rcases List.mem_singleton.mp ha with rfl
    exact imm_list ⟨_, e6, rfl, n', rfl⟩
  have Fg : FrameFix w.params g x b := hfr.keepI kI0
  have pg : Paired (IsRegW w.params g) vs ws := pmono (fun _ _ q => q.keepI kI0) pr
  clear S hfr pr
  obtain ⟨e1, ⟨t0, t1, t2, t3, e2⟩, n, e3⟩ := id Sg
  (try dsimp only)
  (try k_fold)
  k_steps
  apply Stop.in
  refine loop_range (n := 5) (fun i m news => m "state" = some (.ref st) ∧ ∃ vs' tl, news = (x.R, listOf vs'.toArray n') :: tl ∧ (∀ p ∈ tl, p.1 ≠ x.R) ∧ vs'.length = 11 ∧ ∀ h2, News g L' h2 tl → (∀ b o, g.get? b = some o → h2.get? b = some o) → Paired (IsRegW w.params h2) vs' (forgot ws i)) rfl (by assumption) (by decide) (by decide) (by assumption) (by assumption) ⟨rfl, vs, [], rfl, (fun _ h => nomatch h), hlen, fun h2 _ k => pmono (fun _ _ q => q.keepI (KeepI.of k)) pg⟩ ?_ ?_
  · intro i tk0 m₁ news₁ I oI h₁ tk₁ hi rq0 hnI F N
    obtain ⟨hm, vs', tl, rfl, htl, hl', hI⟩ := rq0
    (try dsimp only at F N)
    have hRI : @Ne Nat x.R I := hnI _ (.head _)
    have hIt : ∀ p ∈ tl, p.1 ≠ I := fun p hp => hnI p (.tail _ hp)
    have hI0 : ∀ h2, News g L' h2 tl → (∀ b o, g.get? b = some o → h2.get? b = some o) → Paired (IsRegW w.params h2) vs' (forgot ws i) := hI
    have hi0 : (0 : Int) ≤ 1 + (i : Int) * 1 := by omega
    have hi1 : 1 + (i : Int) * 1 < 11 := by omega
    k_steps
    refine (ei4 ⟨rfl, by assumption, by assumption, List.forall_mem_cons.mpr ⟨hRI, by assumption⟩, by walk_at "LOOK", _, _, rfl, by assumption, (List.length_set).trans hl', fun h2 N2 k2 => ?_⟩)
    rename_i hIx _ _ _ _ _ _
    obtain ⟨q1, q2⟩ := hIx h2 N2
    have e : (1 + (i : Int) * 1).toNat = i + 1 := by omega
    rw [e]
    exact pset ⟨_, rfl, _, q2, by constructor⟩ (i + 1) (q1 k2)
  · intro h' tk m' news' F N rq0
    obtain ⟨hm, vs', tl, rfl, htl, hl', hI⟩ := rq0
    (try dsimp only at F N)
    k_steps
    exact hret _ _ _ (keep_end hkeep (by assumption)) ⟨rfl, vs', n', News_at N (.head _), hI _ (newsSub N fun q hq => .tail _ hq) F.keep⟩
 case qh0 => (try delta id oq1 oq2); exact fun h => h

end
end
section
theorem kg40 : True := trivial

section
variable {w : World} {A : Around} {E : Value → Shared → Prop} {s : Shared} {e : Addr} {oe : Obj} {od : Option Obj} {name : Str}
theorem find59_ga : findIn (hd.heap_1 w.params) (.ref 59) "__getattribute__" = some (some (.builtin "BaseException.__getattribute__")) := by k_is
theorem find59_hook : findIn (hd.heap_1 w.params) (.ref 59) "__getattr__" = some none := by k_is
theorem canon_bexc_ga : (Manifest.canonical "BaseException.__getattribute__" != "object.__getattribute__") = false := by decide +kernel
theorem exc_method {f : Addr} {pl : Sem Bool} {Q : Value × List Value → Shared → Prop} (X : (hd.heap_1 w.params).In s.heap) (I : InstAt s.heap e oe 59 od)
    (hf : findIn (hd.heap_1 w.params) (.ref 59) name = some (some (.ref f))) (ht : typeIn (hd.heap_1 w.params) (.ref f) = some (.type "function")) (hs : shadowIn od name = some false) (h : Q (.ref f, [.ref e]) s) :
    wpAny (model Pg w) A (getMethod (.ref e) name pl) Q E s := by
 refine no_implicit_lambda% ((?qf0 : @Wit ?qp0 ?qe0 → ?qp0) (wit2 ?q00 ?qh0))
 case qf0 => exact fun _ => ?qe0
 case q00 =>
  unfold getMethod specialOf
  refine wpAny_bind (wpAny_bind (I.type.here ((looks_findIn X find59_ga).here ?_)))
  (try dsimp only)
  rw [canon_bexc_ga, if_neg (by decide)]
  refine wpAny_bind (wpAny_bind (I.type.here ((looks_findIn X find59_hook).here ?_)))
  refine wpAny_bind (wpAny_bind (I.type.here ((looks_findIn X hf).here (wpAny_bind ((looks_typeIn X ht).here ?_)))))
  rw [if_neg (by decide +kernel)]
  refine wpAny_bind (wpAny_loadPart I.at_ ?_)
  have hd := I.dict
  cases q : oe.dict with
  | none => exact wpAny_bind (wpAny_rule (wpAny_pure h))
  | some dx =>
    cases od with
    | none => rw [q] at hd; exact hd.elim
    | some o =>
      rw [q] at hd
      obtain ⟨r, a, b⟩ := Option.map_eq_some_iff.mp hs
      refine wpAny_bind (wpAny_bind (wpAny_loadPart hd ?_))
      rw [nsLook_of a]
      refine wpAny_pure ?_
      rw [b]
      exact wpAny_bind (wpAny_rule (wpAny_pure h))
 case qh0 => (try delta id oq1 oq2); exact fun h => h

theorem exc_value {v : Value} {expr : Bool} {Q : Value → Shared → Prop} (X : (hd.heap_1 w.params).In s.heap) (I : InstAt s.heap e oe 59 od)
    (hf : findObj (hd.heap_1 w.params) 59 od name = some (.value v)) (hh : handedIn v = true) (h : Q v { s with toks := s.toks + 1 }) : wpAny (model Pg w) A (getAttr (.ref e) name expr) Q E s := by
 refine no_implicit_lambda% ((?qf0 : @Wit ?qp0 ?qe0 → ?qp0) (wit2 ?q00 ?qh0))
 case qf0 => exact fun _ => ?qe0
 case q00 =>
  obtain ⟨hp, g, d, t, os⟩ := s
  have L0 := I.type (M := model Pg w)
  have L1 := looks_findIn (M := model Pg w) X find59_ga
  have L2 := looks_findIn (M := model Pg w) X find59_hook
  have L3 := looks_find (M := model Pg w) X I hf
  obtain ⟨q, hdc, sn, sub, ab, col, dd, k0, k1', k2', k3', k5', hC⟩ := h59 X
  have hcB : (Value.ref 59 :: [Value.ref 46, .type "Exception", .type "BaseException", .type "object"]).contains (.type "BaseException") = true := rfl
  unfold getAttr getAttrBy
  refine wpAny_bind (wpAny_mkText (wpAny_holding (wpAny_bind (L0.at (wpAny_bind (L1.at ?_))))))
  show wpAny _ _ (getAttrByItsOwn _ _ _ _ _ _) _ _ _
  unfold getAttrByItsOwn hookBefore
  refine wpAny_bind ?_
  show wpAny _ _ (typeLookup (.ref 59) "__getattr__") _ _ _
  refine L2.at ?_
  refine wpAny_bind (wpAny_attempt (wpAny_holding ?_))
  have hx0 : (expr && onTheHeap (Value.builtin "BaseException.__getattribute__")) = false := by cases expr <;> rfl
  unfold callGetattribute
  rw [hx0, if_neg (by decide)]
  unfold boundAndCalled
  have f3 := PySem.F.attrBase_Exception.ga.bind (.ref e)
  rw [f3]
  refine wpAny_bind (wpAny_pure ?_)
  refine wpAny_call (codeAny_call_builtin PySem.F.attrBase_Exception.ga.plain PySem.F.entry_bexc_ga ?_)
  have hk : builtinKind "BaseException.__getattribute__" = some .slot := by decide +kernel
  have hsplit : splitId "BaseException.__getattribute__" = some ("BaseException", "__getattribute__") := by decide +kernel
  have ha := PySem.F.args_bexc_ga (.ref e) (.str name t)
  have hx := I.at_
  have hc := I.cls
  have chk : ∀ {α : Type} {Q : Unit → Shared → Prop} {E : Value → Shared → Prop} {A : Around}, Q () ⟨hp, g, d, t + 1, os⟩ → wpAny (model Pg w) A (checkBuiltinCall "BaseException.__getattribute__" ⟨[.ref e, .str name t], []⟩) Q E ⟨hp, g, d, t + 1, os⟩ := by
    intro _ Q E A hq
    simp only [checkBuiltinCall, hk, hsplit]
    refine wpAny_bind ?_
    unfold isInstance
    repeat (first | (with_reducible refine wpAny_loadPart_at hx ?_; rw [hc]) | (with_reducible refine wpAny_isSubtype_exc hC ?_; rw [hcB]) | wp_step)
    exact hq
  refine chk (α := Unit) ?_
  unfold Builtin.«object.__getattribute__»
  refine wpAny_bind ?_
  have sl : PySem.slotArgs "__getattribute__" 1 ⟨[Value.ref e] ++ [Value.str name t], []⟩ = pure (Value.ref e, [Value.str name t]) := by rfl
  refine (wpAny_of_eq sl ?_)
  refine wpAny_bind (wpAny_pure ?_)
  refine wpAny_bind (L0.at (wpAny_bind (L3.at ?_)))
  refine wpAny_pure ?_
  show wpAny _ _ (handedOut v) _ _ _
  rw [handedOut_of hh]
  exact wpAny_pure h
 case qh0 => (try delta id oq1 oq2); exact fun h => h

theorem exc_own {g : Heap} {L : Addr} {m : Str → Option Value} {es : List DictEntry} {n : Nat} {v : Value} {attr : Option Value} {expr : Bool} {Q : Value → Shared → Prop} (F : Fr g L s.heap m) (X₀ : (hd.heap_1 w.params).In g) (I : InstAt s.heap e oe 59 (some (dictOf es n))) (hh : hasDictIn (hd.heap_1 w.params) 59 = true)
    (ha : findIn (hd.heap_1 w.params) (.ref 59) name = some attr) (hn : noGet (hd.heap_1 w.params) attr = true) (hl : getL name es = some (some v)) (hv : handedIn v = true) (h : Q v { s with toks := s.toks + 1 }) :
    wpAny (model Pg w) A (getAttr (.ref e) name expr) Q E s := exc_value (X₀.keeps F.keep) I (findObj_own hh ha hn hl) hv h
theorem exc_meth {g : Heap} {L : Addr} {m : Str → Option Value} {es : List DictEntry} {n : Nat} {f : Addr} {pl : Sem Bool} {Q : Value × List Value → Shared → Prop} (F : Fr g L s.heap m) (X₀ : (hd.heap_1 w.params).In g) (I : InstAt s.heap e oe 59 (some (dictOf es n)))
    (hf : findIn (hd.heap_1 w.params) (.ref 59) name = some (some (.ref f))) (ht : isFn (hd.heap_1 w.params) (.ref f) = true) (hl : getL name es = some none) (h : Q (.ref f, [.ref e]) s) : wpAny (model Pg w) A (getMethod (.ref e) name pl) Q E s :=
  exc_method (X₀.keeps F.keep) I hf (beq_iff_eq.mp ht) (by show (lookIn name (dictOf es n)).map _ = _; rw [lookIn_dict, hl]; rfl) h
end
end
section
theorem kg41 : True := trivial

theorem fnAt_base {g h : Heap} {L f : Addr} {m : Str → Option Value} (F : Fr g L h m) (x : FnAt f g) : FnAt f h := let ⟨a, b, c, d, e⟩ := x; ⟨a, b, c, d, F.keep _ _ e⟩
theorem inst_exc {g h : Heap} {L e d : Addr} {oe od : Obj} {news : List (Addr × Obj)} (N : News g L h news) (m1 : (e, oe) ∈ news) (hc : oe.cls = .ref 59) (hn : notCls oe = true) (hd : oe.dict = some d) (m2 : (d, od) ∈ news) : InstAt h e oe 59 (some od) := ⟨(N _ m1).1, hc, hn, by rw [hd]; exact (N _ m2).1⟩
section
variable {w : World} {p : Program} {loose : List Str} {mean : ExcName → Option Value} {mg mb : Str → Option Value}
  {A₀ : Around} {base g h₁ h2 : Heap} {L' e : Addr} {m : Str → Option Value} {l : List Env} {envH : Env} {M : List Addr} {what : Str} {pl : Int}
theorem caught_rebase (hfE : envH.frame = some L') (B' : Below A₀ base l g) (F' : Fr g L' h₁ m) (gL : g.get? L' = none) (hM' : ∀ a ∈ M, g.get? a = none ∧ a ≠ L') (Xb : (hd.heap_1 w.params).In base) (Tb : Top p loose mean mg mb base)
    (th : Thrown w.params h₁ M (envH :: l) e what pl h2) :
    ∃ B d, FlyD B (envH :: l) e d h2 ∧ ∀ h5, FlyD B (envH :: l) e d h5 → h2.UpToSlots h5 → ∃ g2, Rebased w p loose mean mg mb A₀ base g h5 l L' m g2 ∧ ∃ oe, h5.get? e = some oe ∧ oe.cls = .ref 59 ∧ notCls oe = true ∧ oe.dict = some d ∧ g2.get? e = none ∧ e ≠ L' ∧ g2.get? d = none ∧ d ≠ L' ∧ SaysAt w.params h5 d what pl := by
 refine no_implicit_lambda% ((?qf0 : @Wit ?qp0 ?qe0 → ?qp0) (wit2 ?q00 ?qh0))
 case qf0 => exact fun _ => ?qe0
 case q00 =>
  obtain ⟨⟨B, d, f1, f2, f3, f4⟩, up⟩ := th
  have hcons : frs (envH :: l) = L' :: frs l := by
    show List.filterMap (·.frame) (envH :: l) = _
    rw [List.filterMap_cons, hfE]
  have gB : ∀ b o, b ∉ frs l → g.get? b = some o → B.get? b = some o := fun b o hb e1 => by
    refine f3 b o (hideAll_get _ (F'.keep _ _ e1) ?_)
    rw [hcons, List.mem_append, List.mem_cons]
    rintro (z | z | z)
    · rw [(hM' b z).1] at e1; cases e1
    · rw [z, gL] at e1; cases e1
    · exact hb z
  have frB : ∀ b, b ∈ L' :: frs l → B.get? b = none := fun b hb => (f1.2.2.1.mem (show b ∈ frs (envH :: l) from by rw [hcons]; exact hb)).1
  refine ⟨B, d, f1, fun h5 f5 x5 => ?_⟩
  obtain ⟨g2, RB⟩ := rebase (w := w) (p := p) (loose := loose) (mean := mean) (mg := mg) (mb := mb) (h6 := h5) (m := m) B' F'.above Xb Tb (by
    obtain ⟨oL, es, ep, hL, hLd, hLk⟩ := F'.ns
    obtain ⟨sl, e2⟩ := up L' (by rw [hcons]; exact .head _) oL hL
    obtain ⟨sl', e3⟩ := x5 _ _ e2 (fun vs q => by (try dsimp only at q); rw [hLd] at q; cases q)
    exact ⟨_, es, ep, e3, hLd, hLk⟩) (fun b o hb e1 => f5.1 _ _ (gB b o hb e1)) (fun b hb o e1 => by
    obtain ⟨_, o', ho', hnf⟩ := B'.frames.mem hb
    rw [e1] at ho'
    cases ho'
    obtain ⟨sl, e2⟩ := up b (by rw [hcons]; exact .tail _ hb) o (F'.keep _ _ e1)
    obtain ⟨sl', e3⟩ := x5 _ _ e2 hnf
    exact ⟨sl', e3⟩)
  obtain ⟨oe, vs, T, oT, ts, he, ⟨hc, hdct⟩, hdat, -⟩ := f5.2.2.2
  obtain ⟨u1, u2, tw, tp, hdB⟩ := f2
  have frnd : ∀ b, b ∈ L' :: frs l → b ≠ d := fun b hb q => by
    have := frB b hb
    rw [q, hdB] at this
    cases this
  have frne : ∀ b, b ∈ frs l → b ≠ e := fun b hb q => by
    obtain ⟨_, o', ho', hnf⟩ := B'.frames.mem hb
    obtain ⟨sl, e2⟩ := RB.up b hb o' ho'
    have e3 := RB.fr.keep _ _ e2
    rw [q, he] at e3
    cases e3
    exact hnf vs hdat
  have hge : g.get? e = none := by
    cases z : g.get? e with
    | none => rfl
    | some o => have := gB e o (fun q => frne e q rfl) z; rw [f1.2.1] at this; cases this
  have hgd : g.get? d = none := by
    cases z : g.get? d with
    | none => rfl
    | some o =>
      have : (hideAll h₁ (M ++ frs (envH :: l))).get? d = some o := by
        refine hideAll_get _ (F'.keep _ _ z) ?_
        rw [hcons, List.mem_append]
        rintro (q | q)
        · rw [(hM' d q).1] at z; cases z
        · exact frnd d q rfl
      rw [f4] at this
      cases this
  refine ⟨g2, RB, oe, he, hc, by unfold notCls; rw [hdat], hdct, RB.none _ hge, fun q => ?_, RB.none _ hgd, fun q => frnd L' (.head _) q.symm, u1, u2, tw, tp, f5.1 _ _ hdB⟩
  obtain ⟨oL, es, ep, hL, hLd, _⟩ := RB.fr.ns
  rw [← q, he] at hL
  cases hL
  rw [hdat] at hLd
  cases hLd
 case qh0 => (try delta id oq1 oq2); exact fun h => h

end
section
variable {w : World} {p : Program} {loose : List Str} {mean : ExcName → Option Value} {mg mb : Str → Option Value}

theorem kg42 : True := by
  k_with "Z42K_k_room" => (exact Nat.le_of_ble_eq_true rfl)
  k_with "Z42K_k_inst" => (case' zzhy => (refine' inst_base ?zzF ?zzh1 ?zzh2; (case zzF => k_asm); (case zzh1 => assumption); (case zzh2 => assumption)))
  k_with "Z42bind" => (case' zzhy => (k_dflt (refine' name_goes_keeps ?zzzF ?zzzN ?_; (case zzzF => k_asm); (case zzzN => k_asm)); intro zzh' zzu' zzF' zzN'))
  k_with "Z42getMethod ref" => (k_here; case' zzhy => (k_dflt (refine' exc_meth ?zzk1 ?zzk2 ?zzk3 ?zzk4 ?zzk5 ?zzk6 ?_; (case zzk1 => k_asm); (case zzk2 => k_asm); (case zzk3 => k_inst); (case zzk4 => k_is); (case zzk5 => k_is); (case zzk6 => k_get); k_whole)))
  k_with "Z42getAttr ref" => (k_here; case' zzhy => (k_dflt (refine' exc_own ?zzk1 ?zzk2 ?zzk3 ?zzk5 ?zzk6 ?zzk7 ?zzk8 ?zzk9 ?_; (case zzk1 => k_asm); (case zzk2 => k_asm); (case zzk3 => k_inst); (case zzk5 => k_is); (case zzk6 => k_is); (case zzk7 => k_is); (case zzk8 => k_get); (case zzk9 => k_handed); k_whole)))
  k_with "Z42K_k_inst" => (case' zzhy => (refine' inst_exc ?zzzN ?zzzm ?zzzc ?zzzo ?zzzd ?zzzn; (case zzzo => assumption); (case zzzN => k_asm); (case zzzm => k_mem); (case zzzc => assumption); (case zzzd => assumption); (case zzzn => k_mem)))
  k_with "Z42callWith ref" => (k_here; case' zzhy => (k_dflt (refine' callWith_F0 ?zzzf ?_; (case zzzf => exact fnAt_base (by k_asm) (by assumption)); (try dsimp only [List.append_nil]))))
  k_with "Z42exec Try" => (k_here; refine wpAny_Try_except ?_)
  k_with "Z42call ref" => (k_here; (with_reducible show wpAny _ _ (call (Value.ref _) []) _ _ _); refine Stop.out ?_)
  k_with "Z42newTuple" => (k_here; case' zzhy => (k_dflt (refine' newTuple_NK ?zzzF ?zzzN ?_ ?zzzs; (case zzzF => k_asm); (case zzzN => k_asm); (case zzzs => size_fits); k_whole); intro zzh' zzF' zzN' zzk'))
  k_with "Z42noteFrame ref" => (refine Stop.out ?_)
  trivial
theorem heard_sp {s : Shared} {f : Addr} {mn : List (Addr × Obj)} {Post : Heap → Value → Heap → Prop} {Err : Str → Int → Prop} (hfn : FnAt f s.heap) (hfM : f ∉ mn.map (·.1)) (hmn : ∀ q ∈ mn, s.heap.get? q.1 = some q.2)
    (S : ∀ h' tk', Keep [] s.heap h' → SpE w p loose mean mg mb 9 f [] (mn.map (·.1)) { s with heap := h', toks := tk' } (Post h') Err) (hst : ∀ h0 v h1 h2, Keep [] h1 h2 → Post h0 v h1 → Post h0 v h2) :
    SpH w p loose mean mg mb 7 733 [.ref f] (mn.map (·.1)) s (fun hb v h => ∃ T, v = .ref T ∧ hb.get? T = none ∧ ((∃ u t, h.get? T = some (tupObj [.str "done" t, u]) ∧ ∃ h0, Keep [] s.heap h0 ∧ Post h0 u h) ∨ (∃ T2 what pl t tw tp, h.get? T = some (tupObj [.str "refused" t, .ref T2]) ∧ hb.get? T2 = none ∧ h.get? T2 = some (tupObj [.str what tw, .int pl tp]) ∧ Err what pl))) := by
 refine no_implicit_lambda% ((?qf0 : @Wit ?qp0 ?qe0 → ?qp0) (wit2 ?q00 ?qh0))
 case qf0 => exact fun _ => ?qe0
 case q00 =>
  intro A₀ base h₀ env outer L m R B F X T Xb Tb hf hke hM hret
  have hF0 := F.keep
  k_dflt (refine' enter (H := mn.map (·.1)) (news := mn) (binds := [(Str.ofString "deed", .ref f)]) B F X T hf hke (fun a ha => hM a ha) (fun q hq => ⟨hmn q hq, List.mem_map_of_mem hq⟩) ?ho ?hcd ?hb ?hl ?_ ?hc ?hr ?c1 ?c2 ?c3)
  case ho => k_is
  case hcd => k_is
  case hb => exact BindsTo.of_eq rfl
  case hl => exact locs rfl
  case hc => decide
  case hr => exact Nat.le_of_ble_eq_true rfl
  case c1 => exact rfl
  case c2 => exact rfl
  case c3 => exact rfl
  intro g L' h₁ tk₁ hkeep hback F' hL' N' hk1 B' X' T'
  clear B F X T
  have fresh0 : ∀ b, g.get? b = none → h₀.get? b = none := fun b e => by
    cases z : h₀.get? b with
    | none => rfl
    | some o => have := hkeep _ _ (fun q => by rw [(hM b q).1] at z; cases z) (hF0 _ _ z); rw [e] at this; cases this
  have hfg : FnAt f g := let ⟨a, b, c, d, e⟩ := hfn; ⟨a, b, c, d, hkeep _ _ hfM e⟩
  (try dsimp only)
  (try k_fold)
  k_steps
  apply Stop.in
  have hM' : ∀ a ∈ mn.map (·.1), g.get? a = none ∧ a ≠ L' := fun a ha => by
    obtain ⟨q, hq, rfl⟩ := List.mem_map.mp ha
    exact ⟨(N' q hq).2.2, (N' q hq).2.1⟩
  refine' use_spe (S h₁ _ hk1) B' F' X' T' ?uA ?uf ?uk ?uh ?ud ?uu hM' ?uQ ?uE
  case uA => exact rfl
  case uf => exact rfl
  case uk => exact rfl
  case uh => exact rfl
  case ud => exact Nat.le_of_ble_eq_true rfl
  case uu => exact Nat.le_of_ble_eq_true rfl
  case uQ =>
    intro v h2 tk2 K2 F2 P2
    have N2 : News g L' h2 [] := fun _ h => nomatch h
    k_steps
    rename_i hE FE NE kE
    have gfr : ∀ b ∈ frs (env :: outer), ∀ o, s.heap.get? b = some o → g.get? b = some o := fun b hb o ho => by
      obtain ⟨_, o', ho', _⟩ := B'.frames.mem hb
      have := hback _ _ ho'
      rw [ho] at this
      cases this
      exact ho'
    exact hret _ _ _ ((keep_end hkeep FE).mono fun a ha => List.mem_append.mpr (.inl ha)) (fun b hb o ho => ⟨o.slots, FE.keep _ _ (gfr b hb o ho)⟩) ⟨_, rfl, fresh0 _ (NE _ (.head _)).2.2, .inl ⟨v, _, News_at NE (.head _), h₁, hk1, hst _ _ _ _ (Keep.of _ kE) P2⟩⟩
  case uE =>
    intro e what pl h2 tk2 er th
    k_steps
    apply Stop.in
    have gL : g.get? L' = none := by
      cases z : g.get? L' with
      | none => rfl
      | some o => have := hback _ _ z; rw [hL'] at this; cases this
    obtain ⟨B, d, f1, cb⟩ := caught_rebase (w := w) (p := p) (loose := loose) (mean := mean) (mg := mg) (mb := mb) rfl B' F' gL hM' Xb Tb th
    refine' caughtD (B := B) (d := d) ?ha ?hb f1 ?hx ?he ?hk
    case ha => exact rfl
    case hb => exact rfl
    case hx =>
      intro h5 f5 x5
      obtain ⟨g2, RB, -⟩ := cb h5 f5 x5
      exact RB.inn.keeps RB.fr.keep
    case he =>
      intro h5 Q5 E5 f5 x5 q
      obtain ⟨g2, RB, -⟩ := cb h5 f5 x5
      exact nameX_K RB.fr RB.inn (topRead_of RB.top) (by rfl) q
    case hk =>
      intro h6 E1 E2 f6 x6
      obtain ⟨g2, RB, oe, he, hce, hnc, hed, gme, neL, gmd, ndL, u1, u2, tw, tp, hd2⟩ := cb h6 f6 x6
      have F6 := RB.fr
      have B6 := RB.below
      have X6 := RB.inn
      have T6 := RB.top
      have N6 : News g2 L' h6 [(e, oe), (d, dictOf [ent w.params "what" u1 (.str what tw), ent w.params "at" u2 (.int pl tp)] 2)] := newsCons he gme neL (newsCons hd2 gmd ndL fun _ h => nomatch h)
      have Bk : PSigma fun _ : Unit => Below _ base (env :: outer) g := ⟨(), B'⟩
      clear B' X' T' F' N'
      k_steps
      rename_i hE uE FE NE
      have gfr : ∀ b ∈ frs (env :: outer), ∀ o, s.heap.get? b = some o → g.get? b = some o := fun b hb o ho => by
        obtain ⟨_, o', ho', _⟩ := Bk.2.frames.mem hb
        have := hback _ _ ho'
        rw [ho] at this
        cases this
        exact ho'
      have bk : ∀ b, g2.get? b = none → g.get? b = none := fun b e2 => by
        cases z : g.get? b with
        | none => rfl
        | some o =>
          by_cases hb : b ∈ frs (env :: outer)
          · obtain ⟨sl, e3⟩ := RB.up b hb o z
            rw [e2] at e3
            cases e3
          · rw [RB.out b hb, z] at e2
            cases e2
      refine hret _ _ _ (fun b o hb e1 => ?_) (fun b hb o ho => ?_) ⟨_, rfl, fresh0 _ (bk _ (NE _ (.head _)).2.2), .inr ⟨_, what, pl, _, _, _, News_at NE (.head _), fresh0 _ (bk _ (NE _ (.tail _ (.head _))).2.2), News_at NE (.tail _ (.head _)), er⟩⟩
      · rw [List.mem_append, not_or] at hb
        refine FE.keep _ _ ?_
        rw [RB.out b hb.2]
        exact hkeep _ _ hb.1 e1
      · obtain ⟨sl, e3⟩ := RB.up b hb o (gfr b hb o ho)
        exact ⟨sl, FE.keep _ _ e3⟩
 case qh0 => (try delta id oq1 oq2); exact fun h => h

end
end
section
theorem kg43 : True := trivial
def TurnedR (s : Shared) (g : Heap) (L : Addr) (own : List (Addr × Obj)) (Jn : (Str → Option Value) → Prop) (Q : Flow → Shared → Prop) (f : Flow) (s₂ : Shared) : Prop :=
  match f with
  | .ret v => Q (.ret v) s₂
  | .brk => Q .next s₂
  | _ => ∃ h' tk m₂, s₂ = { s with heap := h', toks := tk } ∧ Fr g L h' m₂ ∧ News g L h' own ∧ Jn m₂
section
variable {w : World} {A : Around} {E : Value → Shared → Prop} {s : Shared} {env : Env} {g : Heap} {m : Str → Option Value} {news : List (Addr × Obj)}
theorem loop_zip {elts : List PySem.Expr} {k : Nat} {pos : Pos} {body : List Stmt} {l1 l2 : Addr} {xs ys : List Value} {Q : Flow → Shared → Prop} (J : Nat → (Str → Option Value) → Prop) (hh : A.handled = none)
    (b1 : g.IsList l1 xs.toArray) (b2 : g.IsList l2 ys.toArray) (F : Fr g env.locals s.heap m) (h0 : J 0 m)
    (step : ∀ i x y T m₁ own h₁ tk₁, xs[i]? = some x → ys[i]? = some y → J i m₁ → Fr g env.locals h₁ m₁ → News g env.locals h₁ own → IsTup h₁ T #[x, y] →
      wpAny (model Pg w) A (assign (.Tuple elts k pos) env (.ref T)) (fun _ s₃ => wpAny (model Pg w) A (execs body env) (TurnedR s g env.locals own (J (i + 1)) Q) E s₃) E { s with heap := h₁, toks := tk₁ })
    (done : ∀ h' tk m', Fr g env.locals h' m' → J (min xs.length ys.length) m' → Q .next { s with heap := h', toks := tk }) :
    wpAny (model Pg w) A (call (.type "zip") [.ref l1, .ref l2]) (fun xv s₁ => wpAny (model Pg w) A (pyIter xv) (fun it s₂ => TurnsAt Pg w A g env (.Tuple elts k pos) body Q E it s₂) E s₁) E s := by
 refine no_implicit_lambda% ((?qf0 : @Wit ?qp0 ?qe0 → ?qp0) (wit2 ?q00 ?qh0))
 case qf0 => exact fun _ => ?qe0
 case q00 =>
  have c1 : s.heap.IsList l1 xs.toArray := let ⟨o, e, r⟩ := b1; ⟨o, F.keep _ _ e, r⟩
  have c2 : s.heap.IsList l2 ys.toArray := let ⟨o, e, r⟩ := b2; ⟨o, F.keep _ _ e, r⟩
  have hlt1 : l1 < s.heap.objs.size := let ⟨_, e, _⟩ := c1; Heap.lt_size e
  have hlt2 : l2 < s.heap.objs.size := let ⟨_, e, _⟩ := c2; Heap.lt_size e
  have hLs : env.locals < s.heap.objs.size := F.ns.lt
  have n1 : env.locals ≠ l1 := fun q => by
    obtain ⟨o, e, _⟩ := b1
    exact absurd (Nat.lt_of_lt_of_le (Heap.lt_size e) F.above) (by rw [q]; exact Nat.lt_irrefl _)
  have n2 : env.locals ≠ l2 := fun q => by
    obtain ⟨o, e, _⟩ := b2
    exact absurd (Nat.lt_of_lt_of_le (Heap.lt_size e) F.above) (by rw [q]; exact Nat.lt_irrefl _)
  have D : ZipApart (s.heap.objs.size + 4) (s.heap.objs.size + 2) (s.heap.objs.size + 3) s.heap.objs.size (s.heap.objs.size + 1) l1 l2 := ktu_apart _ _ _ hlt1 hlt2
  refine call_zip_2 c1 c2 fun h' hz hTI hTO hi1 hi2 hsz hk => ?_
  refine wpAny_pyIter_zip hz ?_
  have fresh : ∀ b, s.heap.objs.size ≤ b → g.get? b = none := fun b hb => ktu_new F hb
  refine ⟨_, [s.heap.objs.size + 4, s.heap.objs.size + 2, s.heap.objs.size + 3, s.heap.objs.size, s.heap.objs.size + 1, l1, l2], [s.heap.objs.size + 4, s.heap.objs.size + 3, s.heap.objs.size, s.heap.objs.size + 1], _, _, _, _, m, [], fun i m' n' => J i m' ∧ n' = [], rfl, KTurns.ofWalksU (WalksT.zip2 hh _ _ _ _ _ _ _ D xs.toArray ys.toArray).toU, ?_, ?_, (fun _ h => nomatch h), ⟨hz, hTI, ⟨_, _, hTO⟩, hi1, hi2, ?_, ?_⟩, frKeep (M := []) F (fun _ ha => nomatch ha) (Keep.of _ hk), (fun _ h => nomatch h), ⟨h0, rfl⟩, ?_, ?_⟩
  · intro hq
    simp only [List.mem_cons, List.not_mem_nil, or_false] at hq
    have e : ∀ j : Nat, env.locals ≠ s.heap.objs.size + j := fun j => Nat.ne_of_lt (Nat.lt_of_lt_of_le hLs (Nat.le_add_right _ _))
    rcases hq with q | q | q | q | q | q | q
    · exact e 4 q
    · exact e 2 q
    · exact e 3 q
    · exact e 0 q
    · exact e 1 q
    · exact n1 q
    · exact n2 q
  · intro b hb
    simp only [List.mem_cons, List.not_mem_nil, or_false] at hb
    rcases hb with rfl | rfl | rfl | rfl
    · exact fresh _ (Nat.le_add_right _ _)
    · exact fresh _ (Nat.le_add_right _ _)
    · exact fresh _ (Nat.le_refl _)
    · exact fresh _ (Nat.le_add_right _ _)
  · let ⟨o, e, r⟩ := c1
    exact ⟨o, hk _ _ e, r⟩
  · let ⟨o, e, r⟩ := c2
    exact ⟨o, hk _ _ e, r⟩
  · rintro i v m₁ news₁ h₁ tk₁ own hi ⟨T, vals, rfl, ⟨x, y, hx, hy, rfl⟩, hT⟩ ⟨hJ, rfl⟩ - hown1 hown2 hown3 hst F2 N2
    rw [List.append_nil] at N2
    refine wpAny_mono (step i x y T m₁ own h₁ tk₁ (by simpa using hx) (by simpa using hy) hJ F2 N2 (by obtain ⟨o, e, c, n, dd⟩ := hT; exact ⟨o, e, c, n, dd⟩)) (fun _ s₃ z => wpAny_mono z (fun f s₂ z => ?_) fun _ _ z => z) fun _ _ z => z
    have fin : (∃ h' tk m₂, s₂ = { s with heap := h', toks := tk } ∧ Fr g env.locals h' m₂ ∧ News g env.locals h' own ∧ J (i + 1) m₂) →
        ∃ h' tk m₂ news₂, s₂ = { s with heap := h', toks := tk } ∧ Fr g env.locals h' m₂ ∧ News g env.locals h' (own ++ news₂) ∧ (∀ p ∈ news₂, p.1 ∉ [s.heap.objs.size + 4, s.heap.objs.size + 3, s.heap.objs.size, s.heap.objs.size + 1]) ∧ J (i + 1) m₂ ∧ news₂ = [] := by
      intro rq0
      obtain ⟨h', tk, m₂, rfl, F4, N4, hJ4⟩ := rq0
      exact ⟨h', tk, m₂, [], rfl, F4, by rw [List.append_nil]; exact N4, (fun _ h => nomatch h), hJ4, rfl⟩
    cases f with
    | ret v => exact z
    | brk => exact z
    | cont => exact ⟨rfl, fin z⟩
    | next => exact ⟨rfl, fin z⟩
  · intro h2 tk m' news' F4 N4 _ rq0
    obtain ⟨hJ4, -⟩ := rq0
    exact done h2 tk m' F4 (by simpa using hJ4)
 case qh0 => (try delta id oq1 oq2); exact fun h => h

theorem loop_dictR {x : Str} {body : List Stmt} {d : Addr} {kvs : List (Int × Value)} {Q : Flow → Shared → Prop} (J : Nat → (Str → Option Value) → Prop) (hh : A.handled = none) (lo : (d == sysModules) = false)
    (bD : g.DictOf (intKind Pg w) d kvs) (F : Fr g env.locals s.heap m) (N : News g env.locals s.heap news) (h0 : J 0 m)
    (step : ∀ (i : Nat) (k : Int) (t : Tok) (v : Value) m₁ own h₁ tk₁, kvs[i]? = some (k, v) → J i m₁ → Fr g env.locals h₁ (fun y => if y = x then some (.int k t) else m₁ y) → News g env.locals h₁ (own ++ news) →
      wpAny (model Pg w) A (execs body env) (TurnedR s g env.locals (own ++ news) (J (i + 1)) Q) E { s with heap := h₁, toks := tk₁ })
    (done : ∀ h' tk m', Fr g env.locals h' m' → News g env.locals h' news → J kvs.length m' → Q .next { s with heap := h', toks := tk }) :
    wpAny (model Pg w) A (pyIter (.ref d)) (fun it s₂ => LoopAtV Pg w A g env x body Q E it s₂) E s := by
 refine no_implicit_lambda% ((?qf0 : @Wit ?qp0 ?qe0 → ?qp0) (wit2 ?q00 ?qh0))
 case qf0 => exact fun _ => ?qe0
 case q00 =>
  obtain ⟨ep, hat⟩ := bD.dictAt
  have hat0 : s.heap.DictAt (intKind Pg w) d kvs ep := hat.keep fun b o e => F.keep b o e
  refine wpAny_pyIter_dict lo hat0 ?_
  have hdI : d ≠ s.heap.objs.size := Nat.ne_of_lt hat0.lt_size
  have hgI0 : g.get? s.heap.objs.size = none := by
    cases q : g.get? s.heap.objs.size with
    | none => rfl
    | some o => exact absurd (Heap.lt_size (F.keep _ _ q)) (Nat.lt_irrefl _)
  have hLI : env.locals ≠ s.heap.objs.size := by
    obtain ⟨oL, _, _, ho, _⟩ := F.ns
    exact Nat.ne_of_lt (Heap.lt_size ho)
  have hLd : env.locals ≠ d := fun q => by
    obtain ⟨o, es, e, _⟩ := hat
    exact absurd (Nat.lt_of_lt_of_le (Heap.lt_size e) F.above) (by rw [q]; exact Nat.lt_irrefl _)
  have k : ∀ b o, s.heap.get? b = some o → (s.heap.push { cls := .type "dict_keyiterator", data := .fields #[.ref d, .int 0 0, .int kvs.length 0, .int ep 0] }).get? b = some o := fun b o e => Heap.get?_push_of_some _ e
  have F1 := frKeep (M := []) F (fun _ ha => nomatch ha) (Keep.of _ k)
  have N1 := newsKeep (M := []) N (fun _ _ => List.not_mem_nil) (Keep.of _ k)
  refine ⟨s.heap.objs.size, [s.heap.objs.size, d], [s.heap.objs.size], kvs.length, _, _, m, news, fun i m' n' => J i m' ∧ n' = news, rfl, Walks.dictKeys (knd := intKind Pg w) hh s.heap.objs.size d hdI kvs ep, ?_, ?_, ?_, ⟨⟨_, Heap.get?_push_size _ rfl, rfl, rfl⟩, hat0.push _⟩, F1, N1, ⟨h0, rfl⟩, ?_, ?_⟩
  · intro z
    rcases List.mem_cons.mp z with z | z
    · exact hLI z
    · exact hLd (List.mem_singleton.mp z)
  · intro b hb
    rcases List.mem_singleton.mp hb with rfl
    exact hgI0
  · intro p hp z
    exact absurd (List.mem_singleton.mp z) (Nat.ne_of_lt (Heap.lt_size (N p hp).1))
  · intro i v m₁ news₁ s₁ own rq0 hi rq1 rq2 hnw hown1 hown2 hown3 hst F2 N2
    obtain ⟨h₁, tk₁, rfl⟩ := rq0
    obtain ⟨k', v', hx, hkk⟩ := rq1
    obtain ⟨hJ, rfl⟩ := rq2
    obtain ⟨t, rfl⟩ := Value.isInt_shape (show Value.isInt k' v = true from hkk)
    refine wpAny_mono (step i k' t v' m₁ own h₁ tk₁ hx hJ F2 N2) (fun f s₂ z => ?_) fun _ _ z => z
    have fin : (∃ h' tk m₂, s₂ = { s with heap := h', toks := tk } ∧ Fr g env.locals h' m₂ ∧ News g env.locals h' (own ++ news₁) ∧ J (i + 1) m₂) →
        ∃ h' tk m₂ news₂, s₂ = { s with heap := h', toks := tk } ∧ Fr g env.locals h' m₂ ∧ News g env.locals h' (own ++ news₂) ∧ (∀ p ∈ news₂, p.1 ∉ [s.heap.objs.size]) ∧ J (i + 1) m₂ ∧ news₂ = news₁ := by
      intro rq0
      obtain ⟨h', tk, m₂, rfl, F4, N4, hJ4⟩ := rq0
      exact ⟨h', tk, m₂, news₁, rfl, F4, N4, hnw, hJ4, rfl⟩
    cases f with
    | ret v => exact z
    | brk => exact z
    | cont => exact ⟨rfl, fin z⟩
    | next => exact ⟨rfl, fin z⟩
  · intro h2 tk m' news' F4 N4 _ rq0
    obtain ⟨hJ4, rfl⟩ := rq0
    exact done h2 tk m' F4 N4 hJ4
 case qh0 => (try delta id oq1 oq2); exact fun h => h

end
end
section
theorem kg44 : True := trivial
theorem keys_ints {prog : Program} {w : World} : ∀ {vs : List Value} {kvs : List (Int × Value)}, vs.length = kvs.length → (∀ (j : Nat) (v : Value), vs[j]? = some v → ∃ k x, kvs[j]? = some (k, x) ∧ (intKind prog w).is k v = true) → IntsAre vs (kvs.map (·.1))
  | [], [], _, _ => .nil
  | [], _ :: _, hl, _ => by simp at hl
  | _ :: _, [], hl, _ => by simp at hl
  | v :: r, q :: kr, hl, hv => by
    obtain ⟨k, x, e, hk⟩ := hv 0 v rfl
    simp only [List.getElem?_cons_zero, Option.some.injEq] at e
    subst e
    obtain ⟨t, ht⟩ := Value.isInt_shape (show Value.isInt k v = true from hk)
    subst ht
    exact .cons k t (keys_ints (by simpa using hl) fun j u hu => by
      obtain ⟨k', x', e', h'⟩ := hv (j + 1) u (by simpa using hu)
      exact ⟨k', x', by simpa using e', h'⟩)
section
variable {w : World} {A : Around} {E : Value → Shared → Prop} {s : Shared} {g : Heap} {L : Addr} {m : Str → Option Value} {news news' : List (Addr × Obj)}
theorem sorted_dictI {d : Addr} {kvs : List (Int × Value)} {Q : Value → Shared → Prop} (F : Fr g L s.heap m) (N : News g L s.heap news) (hh : A.handled = none) (hD : s.heap.DictOf (intKind Pg w) d kvs) (lo : (d == sysModules) = false) (h64 : kvs.length < 64)
    (h : ∀ B vs' ns' c h' tk, Fr g L h' m → News g L h' ((B, listOf (List.toArray vs') c) :: news) → (∀ q ∈ news, q.1 < B) → IntsAre vs' ns' → ns'.Perm (kvs.map (·.1)) → ns'.Pairwise (fun x y => x ≤ y) → Q (.ref B) { s with heap := h', toks := tk }) :
    wpAny (model Pg w) A (call (.builtin "sorted") [.ref d]) Q E s := by
 refine no_implicit_lambda% ((?qf0 : @Wit ?qp0 ?qe0 → ?qp0) (wit2 ?q00 ?qh0))
 case qf0 => exact fun _ => ?qe0
 case q00 =>
  obtain ⟨ep, hat⟩ := hD.dictAt
  refine kdu_sorted (kdl_dict (knd := intKind Pg w) (kvs := kvs) (ep := ep) lo) hh F N hat (kdl_size (by omega)) fun B h' tk vs F' N' l1 hl hv => ?_
  have hI := keys_ints hl hv
  have nB : ∀ p ∈ news, p.1 ≠ B := fun p hp => Nat.ne_of_lt (l1 p hp)
  refine ksk_lsort (s := { s with heap := h', toks := tk }) (its := vs.toArray) (n := 0) (vs := vs) (news' := fun o => (B, o) :: news) F' N' (fun o => ?_) rfl hI (by rw [List.length_map]; exact h64) fun vs' ns' c h2 F2 N2 a1 a2 a3 a4 _ => h B vs' ns' c h2 tk F2 N2 l1 a1 a3 a4
  exact .head nB
 case qh0 => (try delta id oq1 oq2); exact fun h => h

theorem getitem_dictI {value slice : PySem.Expr} {d : Addr} {kvs : List (Int × Value)} {k : Int} {t : Tok} {v : Value} {Q : Value → Shared → Prop} (hD : s.heap.DictOf (intKind Pg w) d kvs) (hl : valueAt kvs k = some v) (h : Q v { s with toks := s.toks + 1 })
    (hs : subscripted slice false (.ref d) (.int k t) = operate [.ref d, .int k t] (getItem (.ref d) (.int k t)) := by with_unfolding_all rfl) :
    wpAny (model Pg w) A (subscriptTail value slice (.ref d) (.int k t)) Q E s :=
  tail_any hD.typeIs slot_dict_getitem.lookup (wpAny_getItem_of (intKind_is _ _ _ _) hD.mapOf hl h) hs
theorem extend_symK {D b : Addr} {vs us : List Value} {n n2 : Nat} {Q : Value → Shared → Prop} (F : Fr g L s.heap m) (N : News g L s.heap news) (hb : s.heap.get? b = some (listOf us.toArray n2)) (hne : us.length ≠ 0)
    (U : Upd D (listOf vs.toArray n) (listOf (vs ++ us).toArray (n + 1)) news news') (hz : vs.length + us.length ≤ 10000)
    (h : ∀ h', Fr g L h' m → News g L h' news' → Q .none { s with heap := h' }) : wpAny (model Pg w) A (call (.builtin "list.extend") [.ref D, .ref b]) Q E s := by
 refine no_implicit_lambda% ((?qf0 : @Wit ?qp0 ?qe0 → ?qp0) (wit2 ?q00 ?qh0))
 case qf0 => exact fun _ => ?qe0
 case q00 =>
  obtain ⟨pre, post, rfl, rfl, a, c⟩ := U.split
  have z := N (D, listOf vs.toArray n) (List.mem_append.mpr (.inr (.head _)))
  refine call_meets PySem.F.slot_list_extend ⟨_, z.1, rfl⟩ PySem.F.entry_list_extend (PySem.F.args_list_extend_2 _ _) (PySem.AutoSeq1.list_extend_list_list_0 D vs.toArray n b us.toArray n2 (by
    have := extend_door (a := vs.toArray) (b := us.toArray) (by rw [sizeLine_eq]; simp only [List.size_toArray]; omega)
    exact this) (by rw [sizeLine_eq]; simp only [List.size_toArray]; omega) (by rw [sizeLine_eq]; simp only [List.size_toArray]; omega)) ⟨z.1, hb, h _ (F.change (Heap.SameBut.update ..) z.2.1 z.2.2) (kl_turn _ N a c ?_ ?_)⟩
  · apply Array.toList_inj.mp
    simp
  · simp at hne ⊢
    exact hne
 case qh0 => (try delta id oq1 oq2); exact fun h => h

theorem append_symK {D : Addr} {vs : List Value} {n : Nat} {x : Value} {Q : Value → Shared → Prop} (F : Fr g L s.heap m) (N : News g L s.heap news)
    (U : Upd D (listOf vs.toArray n) (listOf (vs ++ [x]).toArray (n + 1)) news news') (hz : vs.length ≤ 10000)
    (h : ∀ h', Fr g L h' m → News g L h' news' → Q .none { s with heap := h' }) : wpAny (model Pg w) A (call (.builtin "list.append") [.ref D, x]) Q E s := by
  refine append_K F N (its := vs.toArray) (by rw [List.push_toArray]; exact U) h (by rw [sizeLine_eq, List.size_toArray]; omega)
end
theorem pick_last {vs : List Value} {v : Value} : kms_pick (vs ++ [v]) none (some (-1)) = vs := by
  simp [kms_pick, kms_lo, kms_hi]
theorem pick_from {vs : List Value} {k : Nat} : kms_pick vs (some (k : Int)) none = vs.drop k := by
  have e : kms_lo (some (k : Int)) vs.length = min k vs.length := by
    show (if (k : Int) < 0 then vs.length - (-(k : Int)).toNat else min (k : Int).toNat vs.length) = _
    rw [if_neg (show ¬ ((k : Int) < 0) by omega)]
    rfl
  unfold kms_pick
  rw [e, kmk_drop_min]
  refine List.take_of_length_le ?_
  rw [List.length_drop]
  show _ ≤ vs.length - min k vs.length
  omega
section
variable {w : World} {A : Around} {E : Value → Shared → Prop} {s : Shared} {g : Heap} {L : Addr} {m : Str → Option Value} {news : List (Addr × Obj)}
theorem slice_symK {l : Addr} {value slice : PySem.Expr} {vs zs : List Value} {vl vu : Value} {lo hi : Option Int} {Q : Value → Shared → Prop} (F : Fr g L s.heap m) (N : News g L s.heap news) (hl : s.heap.IsList l vs.toArray) (pl : IsPart vl lo) (pu : IsPart vu hi) (e : kms_pick vs lo hi = zs) (hz : vs.length ≤ 10000)
    (h : ∀ D h', Fr g L h' m → News g L h' ((D, listOf zs.toArray 0) :: news) → (∀ p ∈ news, p.1 < D) → Q (.ref D) { s with heap := h' })
    (hs : subscripted slice false (.ref l) (.ref s.heap.objs.size) = operate [.ref s.heap.objs.size, .ref l] (getItem (.ref l) (.ref s.heap.objs.size))) (ht : ∀ r, letTemporaryGo value (.ref l) r = pure ()) :
    wpAny (model Pg w) A (subscriptTail value slice (.ref l) (.ref s.heap.objs.size)) Q E { s with heap := s.heap.push { cls := .type "slice", data := .fields #[vl, vu, .none] } } :=
  kms_slice_lit F N hl pl pu (by simpa using e) h hs ht (by rw [sizeLine_eq, List.size_toArray]; omega)
end
end
section
theorem kg45 : True := trivial
def W.pts (d : Int) : W → Bool
  | .stack f _ => decide (f = d)
  | _ => false
section
variable {w : World} {p : Program} {loose : List Str} {mean : ExcName → Option Value} {mg mb : Str → Option Value}

theorem kg46 : True := by
  k_with "Z46K_k_room" => (exact Nat.le_of_ble_eq_true rfl)
  k_with "Z46K_k_inst" => (case' zzhy => (refine' inst_base ?zzF ?zzh1 ?zzh2; (case zzF => k_asm); (case zzh1 => assumption); (case zzh2 => assumption)))
  trivial
theorem points_sp {s : Shared} {a : Addr} {x : W} {d : Int} {td : Tok} (hr : RegW w.params s.heap a x) : Sp w p loose mean mg mb 28 679 [.ref a, .int d td] [] s (fun v h => v = .bool (x.pts d)) := by
 refine no_implicit_lambda% ((?qf0 : @Wit ?qp0 ?qe0 → ?qp0) (wit2 ?q00 ?qh0))
 case qf0 => exact fun _ => ?qe0
 case q00 =>
  intro A₀ base h₀ env outer L m R B F X T hf hke hM hret
  k_dflt (refine' enter (H := []) (news := []) (binds := [(Str.ofString "reg", .ref a), (Str.ofString "depth", .int d td)]) B F X T hf hke (fun a ha => nomatch ha) (fun q hq => nomatch hq) ?ho ?hcd ?hb ?hl ?_ ?hc ?hr ?c1 ?c2 ?c3)
  case ho => k_is
  case hcd => k_is
  case hb => exact BindsTo.of_eq rfl
  case hl => exact locs rfl
  case hc => decide
  case hr => exact Nat.le_of_ble_eq_true rfl
  case c1 => exact rfl
  case c2 => exact rfl
  case c3 => exact rfl
  intro g L' h₁ tk₁ hkeep hback F' hL' N' hk1 B' X' T'
  clear B F X T
  obtain ⟨r, ⟨⟨d', sc, t0, t1, t2, t3, t4, t5, t6, t7, u0, u1, u3, u4, u7, v5, v6, e1, e2, -⟩⟩, fit⟩ := hr
  replace e1 := hkeep.all e1
  replace e2 := hkeep.all e2
  cases fit
  all_goals (
    ((try dsimp only at e2))
    (try dsimp only)
    (try k_fold)
    k_steps)
  all_goals (try dsimp only)
  all_goals first | exact hret _ _ _ (keep_end hkeep (by assumption)) rfl
 case qh0 => (try delta id oq1 oq2); exact fun h => h

end
end
section
theorem kg47 : True := trivial
def AF.allW (f : AF) : List W := f.ws ++ f.cells.map (·.2)
def allW (fs : List AF) : List W := fs.flatMap AF.allW
theorem allW_succ {fs : List AF} {i : Nat} {f : AF} (h : fs[i]? = some f) {x : W} : x ∈ allW (fs.take (i + 1)) ↔ x ∈ allW (fs.take i) ∨ x ∈ f.ws ∨ x ∈ f.cells.map (·.2) := by
  have hi := (List.getElem?_eq_some_iff.mp h).1
  rw [List.take_succ, h]
  unfold allW
  rw [List.flatMap_append, List.mem_append]
  simp [AF.allW]
theorem ne_L' {g h : Heap} {L a : Addr} {o : Obj} {m : Str → Option Value} {news : List (Addr × Obj)} (_F : Fr g L h m) (N : News g L h news) (hm : (a, o) ∈ news) : a ≠ L := (N _ hm).2.1
theorem papp {α β : Type} {F : α → β → Prop} : ∀ {l₁ : List α} {l₂ : List β} {k₁ : List α} {k₂ : List β}, Paired F l₁ l₂ → Paired F k₁ k₂ → Paired F (l₁ ++ k₁) (l₂ ++ k₂) := by
  intro l₁ l₂ k₁ k₂ p q
  induction p with
  | nil => exact q
  | cons h t ih => exact .cons h ih
theorem pnth {α β : Type} {F : α → β → Prop} {l₁ : List α} {l₂ : List β} (p : Paired F l₁ l₂) {i : Nat} {a : α} (e : l₁[i]? = some a) : ∃ b, l₂[i]? = some b ∧ F a b := pget p i a e
theorem pkeys {P : Params} {h : Heap} {kvs : List (Int × Value)} {kxs : List (Int × W)} (p : Paired (IsCellW P h) kvs kxs) : kvs.map (·.1) = kxs.map (·.1) := by
  induction p with
  | nil => rfl
  | cons q _ ih => rw [List.map_cons, List.map_cons, ih, q.1]
theorem valueAt_eqI {kxs : List (Int × W)} (nd : (kxs.map (·.1)).Nodup) {i j : Nat} {k : Int} {x y : W} (e : kxs[i]? = some (k, x)) (e2 : kxs[j]? = some (k, y)) : y = x := by
  have h1 : (kxs.map (·.1))[i]? = some k := by rw [List.getElem?_map, e]; rfl
  have h2 : (kxs.map (·.1))[j]? = some k := by rw [List.getElem?_map, e2]; rfl
  have hi := (List.getElem?_eq_some_iff.mp h1).1
  have := (List.getElem?_inj hi nd).mp (h1.trans h2.symm)
  subst this
  rw [e] at e2
  cases e2
  rfl
theorem cell_at {w : World} {h : Heap} {C : Addr} {kvs : List (Int × Value)} {kxs : List (Int × W)} (hD : h.DictOf (intKind Pg w) C kvs) (p : Paired (IsCellW w.params h) kvs kxs) {k : Int} (hk : k ∈ kvs.map (·.1)) :
    ∃ c x, valueAt kvs k = some (.ref c) ∧ CellW w.params h c x ∧ (k, x) ∈ kxs ∧ ∀ y, (k, y) ∈ kxs → y = x := by
 refine no_implicit_lambda% ((?qf0 : @Wit ?qp0 ?qe0 → ?qp0) (wit2 ?q00 ?qh0))
 case qf0 => exact fun _ => ?qe0
 case q00 =>
  obtain ⟨ep, hat⟩ := hD.dictAt
  have nd := hat.nodup
  obtain ⟨⟨k', v⟩, hm, rfl⟩ := List.mem_map.mp hk
  obtain ⟨i, hi, e⟩ := List.mem_iff_getElem.mp hm
  have e' : kvs[i]? = some (k', v) := by rw [List.getElem?_eq_getElem hi, e]
  obtain ⟨⟨k2, x⟩, e2, hk2, c, hv, hc⟩ := pget p i _ e'
  (try dsimp only at hk2 hv hc)
  subst hk2 hv
  refine ⟨c, x, valueAt_of_get nd e', hc, List.mem_of_getElem? e2, fun y hy => ?_⟩
  obtain ⟨j, hj, ej⟩ := List.mem_iff_getElem.mp hy
  have nd2 : (kxs.map (·.1)).Nodup := by
    have := (pkeys p).symm
    rw [this]; exact nd
  have ej2 : kxs[j]? = some (k', y) := by rw [List.getElem?_eq_getElem hj, ej]
  have := valueAt_eqI nd2 e2 ej2
  exact this
 case qh0 => (try delta id oq1 oq2); exact fun h => h

section
variable {w : World} {p : Program} {loose : List Str} {mean : ExcName → Option Value} {mg mb : Str → Option Value}

theorem kg48 : True := by
  k_with "Z48K_k_room" => (exact Nat.le_of_ble_eq_true rfl)
  k_with "Z48K_k_inst" => (case' zzhy => (refine' inst_base ?zzF ?zzh1 ?zzh2; (case zzF => k_asm); (case zzh1 => assumption); (case zzh2 => assumption)))
  k_with "Z48K_k_all" => (exact allLt_ne (by first | assumption | exact And.right (by assumption) | exact And.right (And.right (by assumption)) | exact And.right (And.right (And.right (by assumption)))))
  k_with "Z48K_k_all" => (assumption)
  k_with "Z48K_k_mem" => (assumption)
  k_with "Z48exec For Name Call cons nil" => (k_here; case' zzhy => ((rename Fr _ _ _ _ => zzlF'); (with_unfolding_all refine' For_invVF zzlF' ?zzk1 ?zzk2 ?_; (case zzk1 => exact rfl); (case zzk2 => exact rfl); k_whole)))
  k_with "Z48exec For Name Name cons nil" => (k_here; case' zzhy => ((rename Fr _ _ _ _ => zzlF'); (with_unfolding_all refine' For_invVF zzlF' ?zzk1 ?zzk2 ?_; (case zzk1 => exact rfl); (case zzk2 => exact rfl); k_whole)))
  k_with "Z48exec For Name Attribute cons nil" => (k_here; case' zzhy => ((rename Fr _ _ _ _ => zzlF'); (with_unfolding_all refine' For_invVF zzlF' ?zzk1 ?zzk2 ?_; (case zzk1 => exact rfl); (case zzk2 => exact rfl); k_whole)))
  k_with "Z48exec For Name Subscript cons nil" => (k_here; case' zzhy => ((rename Fr _ _ _ _ => zzlF'); (with_unfolding_all refine' For_invVF zzlF' ?zzk1 ?zzk2 ?_; (case zzk1 => exact rfl); (case zzk2 => exact rfl); k_whole)))
  k_with "Z48exec For Name BinOp cons nil" => (k_here; case' zzhy => ((rename Fr _ _ _ _ => zzlF'); (with_unfolding_all refine' For_invVF zzlF' ?zzk1 ?zzk2 ?_; (case zzk1 => exact rfl); (case zzk2 => exact rfl); k_whole)))
  k_with "Z48pyIter ref" => (refine Stop.out ?_)
  k_with "Z48call type:range" => (k_here; case' zzhy => (k_dflt (first | ((with_reducible show wpAny _ _ (call _ [Value.int _ _]) _ _ _); refine' range1_rows ?zzzF ?zzzN ?_; (case zzzF => k_asm); (case zzzN => k_asm); k_whole) | ((with_reducible show wpAny _ _ (call _ [Value.int _ _, Value.int _ _]) _ _ _); refine' range2_rows ?zzzF ?zzzN ?_; (case zzzF => k_asm); (case zzzN => k_asm); k_whole)); intro zzh' zztk' zzt1' zzu1' zzv1' zzR' zzF' zzN' zzk'))
  k_with "Z48LOOK" => ((try dsimp only); first | assumption | exact if_pos rfl | (refine (if_neg (by decide)).trans ?_; walk_at "LOOK") | exact rfl)
  k_with "Z48eval Name" => (k_here; case' zzhy => (k_dflt (refine' nameX_L ?zzzF ?zzzv ?_ ?zzza ?zzzb ?zzzc; (case zzza => exact rfl); (case zzzb => exact rfl); (case zzzc => decide); (case zzzF => k_asm); (case zzzv => walk_at "LOOK"); k_whole)))
  k_with "Z48call builtin:sorted" => (k_here; (with_reducible show wpAny _ _ (call (Value.builtin "sorted") [Value.ref _]) _ _ _); case' zzhy => (k_dflt (refine' sorted_dictI ?zzzF ?zzzN ?zzzh ?zzzD ?zzzl ?zzz6 ?_; (case zzzF => k_asm); (case zzzN => k_asm); (case zzzh => exact rfl); (case zzzD => exact dictOf_keep (by assumption) (Fr.keep (by k_asm) _)); (case zzzl => assumption); (case zzz6 => omega); k_whole); intro zzB' zzvs' zzns' zzc' zzh' zztk' zzF' zzN' zzl1' zzi1' zzp1' zzs1'; k_lt zzl1'))
  k_with "Z48subscriptTail" => (k_here; (with_reducible show wpAny _ _ (subscriptTail _ _ (Value.ref _) (Value.int _ _)) _ _ _); case' zzhy => (k_dflt (refine' getitem_dictI ?zzzD ?zzzl ?_ ?zzzs; (case zzzD => exact dictOf_keep (by assumption) (Fr.keep (by k_asm) _)); (case zzzl => assumption); (case zzzs => with_unfolding_all rfl); k_whole)))
  k_with "Z48call builtin:list.extend" => (k_here; (with_reducible show wpAny _ _ (call (Value.builtin _) [Value.ref _, Value.ref _]) _ _ _); case' zzhy => (k_dflt (refine' extend_symK ?zzzF ?zzzN ?zzzb ?zzzn ?zzzU ?zzzz ?_; (case zzzF => k_asm); (case zzzN => k_asm); (case zzzb => exact Fr.keep (by k_asm) _ _ (by assumption)); (case zzzn => omega); (case zzzU => k_upd); (case zzzz => omega); k_whole); intro zzh' zzF' zzN'; (try dsimp only at zzN')))
  k_with "Z48call builtin:list.append" => (k_here; (with_reducible show wpAny _ _ (call (Value.builtin _) [Value.ref _, _]) _ _ _); case' zzhy => (k_dflt (refine' append_symK ?zzzF ?zzzN ?zzzU ?zzzz ?_; (case zzzF => k_asm); (case zzzN => k_asm); (case zzzU => k_upd); (case zzzz => omega); k_whole); intro zzh' zzF' zzN'; (try dsimp only at zzN')))
  trivial
theorem spilled_sp {s : Shared} {c : Addr} {x : W} (hc : CellW w.params s.heap c x) : Sp w p loose mean mg mb 28 437 [.ref c] [] s (fun v h => v = .bool true) := by
 refine no_implicit_lambda% ((?qf0 : @Wit ?qp0 ?qe0 → ?qp0) (wit2 ?q00 ?qh0))
 case qf0 => exact fun _ => ?qe0
 case q00 =>
  intro A₀ base h₀ env outer L m R B F X T hf hke hM hret
  k_dflt (refine' enter (H := []) (news := []) (binds := [(Str.ofString "self", .ref c)]) B F X T hf hke (fun a ha => nomatch ha) (fun q hq => nomatch hq) ?ho ?hcd ?hb ?hl ?_ ?hc ?hr ?c1 ?c2 ?c3)
  case ho => k_is
  case hcd => k_is
  case hb => exact BindsTo.of_eq rfl
  case hl => exact locs rfl
  case hc => decide
  case hr => exact Nat.le_of_ble_eq_true rfl
  case c1 => exact rfl
  case c2 => exact rfl
  case c3 => exact rfl
  intro g L' h₁ tk₁ hkeep hback F' hL' N' hk1 B' X' T'
  clear B F X T
  obtain ⟨d, t0, t1, tk, a, e1, e2, -⟩ := hc
  replace e1 := hkeep.all e1
  replace e2 := hkeep.all e2
  (try dsimp only)
  (try k_fold)
  k_steps
  all_goals (try dsimp only)
  all_goals exact hret _ _ _ (keep_end hkeep (by assumption)) rfl
 case qh0 => (try delta id oq1 oq2); exact fun h => h

theorem kx3 : True := by
  k_with "Z48call ref" => (k_here; (with_reducible show wpAny _ _ (call (Value.ref 437) _) _ _ _); case' zzhy => (k_dflt ( (refine' call_eq (f' := Value.ref 437) (vs' := [Value.ref _]) ?zzca ?zzcb ?_; (case zzca => exact rfl); (case zzcb => exact rfl)); (refine' use_sp (spilled_sp ?zzp0) ?zzuB ?zzuF ?zzuX ?zzuT ?zzuA ?zzuf ?zzuk ?zzuh ?zzud ?zzuu ?zzuM ?_; (case zzp0 => exact CellW.keepI (by assumption) (KeepI.of (Fr.keep (by k_asm)))); (case zzuB => k_asm); (case zzuF => k_asm); (case zzuX => k_asm); (case zzuT => k_asm); (case zzuA => exact rfl); (case zzuf => exact rfl); (case zzuk => exact rfl); (case zzuh => exact rfl); (case zzud => exact Nat.le_of_ble_eq_true rfl); (case zzuu => exact Nat.le_of_ble_eq_true rfl); (case zzuM => exact fun zza zzha => nomatch zzha); k_whole); (intro zzv' zzh' zztk' zzK' zzF' zzP'); subst zzP'; (refine (fun zzN' => ?_) (newsKeep (M := []) (by assumption) (fun _ _ => List.not_mem_nil) zzK')); (try dsimp only))))
  trivial
theorem allregs_sp {s : Shared} {st sd fl rl : Addr} {xs : List FA} {fs : List AF} (S : StFix w.params s.heap st sd fl rl xs) (hfs : Paired (FrameAt w s.heap) xs fs) (hx : xs.length ≤ 20) (hw : ∀ f ∈ fs, f.ws.length = 11 ∧ f.cells.length ≤ 20) :
    Sp w p loose mean mg mb 16 571 [.ref st] [] s (fun v h => ∃ D vs n ws, v = .ref D ∧ s.heap.get? D = none ∧ h.get? D = some (listOf (List.toArray vs) n) ∧ Paired (IsRegW w.params s.heap) vs ws ∧ vs.length ≤ 1000 ∧ ∀ x, x ∈ ws ↔ x ∈ allW fs) := by
 refine no_implicit_lambda% ((?qf0 : @Wit ?qp0 ?qe0 → ?qp0) (wit2 ?q00 ?qh0))
 case qf0 => exact fun _ => ?qe0
 case q00 =>
  intro A₀ base h₀ env outer L m R B F X T hf hke hM hret
  k_dflt (refine' enter (H := []) (news := []) (binds := [(Str.ofString "self", .ref st)]) B F X T hf hke (fun a ha => nomatch ha) (fun q hq => nomatch hq) ?ho ?hcd ?hb ?hl ?_ ?hc ?hr ?c1 ?c2 ?c3)
  case ho => k_is
  case hcd => k_is
  case hb => exact BindsTo.of_eq rfl
  case hl => exact locs rfl
  case hc => decide
  case hr => exact Nat.le_of_ble_eq_true rfl
  case c1 => exact rfl
  case c2 => exact rfl
  case c3 => exact rfl
  intro g L' h₁ tk₁ hkeep hback F' hL' N' hk1 B' X' T'
  clear B F X T
  have Sg : StFix w.params g st sd fl rl xs := S.all fun b o _ e => hkeep.all e
  have hg : Paired (FrameAt w g) xs fs := pmono (fun _ _ q => q.all hkeep) hfs
  have hgl := hg.length
  obtain ⟨e1, ⟨t0, t1, t2, t3, e2⟩, n, e3⟩ := id Sg
  clear S
  (try dsimp only)
  (try k_fold)
  k_steps
  apply Stop.in
  rename_i D _ _ _ FF NN
  have nfL : fl ≠ L' := (fun z => by rw [z] at e3; have := hback _ _ e3; rw [hL'] at this; cases this)
  refine loop_list (l := fl) (items := xs.map fun x => Value.ref x.fr) (fun i m news => m "self" = some (.ref st) ∧ m "found" = some (.ref D) ∧ ∃ vs n ws, news = [(D, listOf (List.toArray vs) n)] ∧ Paired (IsRegW w.params g) vs ws ∧ vs.length ≤ 40 * i ∧ ∀ x, x ∈ ws ↔ x ∈ allW (fs.take i)) rfl (fun h e => ⟨_, e, rfl, n, rfl⟩) (fun i m' m'' news' h' _ F _ => F.keep _ _ e3) nfL (by assumption) (by assumption) ⟨rfl, rfl, [], _, [], rfl, .nil, Nat.zero_le _, fun x => by simp [allW]⟩ ?_ ?_
  · intro i v m₁ news₁ I oI h₁ tk₁ hv rq0 hnI F N
    obtain ⟨hm1, hm2, vs, n1, ws, rfl, pw, hl1, hws⟩ := rq0
    (try dsimp only at F N)
    have hDI : @Ne Nat D I := hnI _ (.head _)
    obtain ⟨x, hx1, rfl⟩ : ∃ x, xs[i]? = some x ∧ v = .ref x.fr := by
      rw [List.getElem?_map] at hv
      cases q : xs[i]? with
      | none => rw [q] at hv; cases hv
      | some x => rw [q] at hv; exact ⟨x, rfl, (Option.some.inj hv).symm⟩
    have hi20 := (List.getElem?_eq_some_iff.mp hx1).1
    obtain ⟨f, hf1, hfa⟩ := pget hg i _ hx1
    obtain ⟨hw1, hw2⟩ := hw f (List.mem_of_getElem? hf1)
    obtain ⟨⟨d, q0, q1, q2, qb, e4, e5⟩, ⟨us, nu, e6, pr⟩, ⟨lo, kvs, hD, pc⟩⟩ := hfa
    have hul : us.length = 11 := pr.length.trans hw1
    have hkl : kvs.length ≤ 20 := by rw [pc.length]; exact hw2
    k_steps
    apply Stop.in
    rename_i B vs' ns' c' h3 tk3 F3 N3 i3 p3 s3 l3
    have hBI : @Ne Nat I B := Nat.ne_of_lt l3.1
    have hBD : @Ne Nat D B := Nat.ne_of_lt l3.2
    refine loop_list (l := B) (ol := listOf vs'.toArray c') (items := vs') (fun j m news => (m "self" = some (.ref st) ∧ m "found" = some (.ref D) ∧ m "frame" = some (.ref x.fr)) ∧ ∃ vs n ws, news = [(B, listOf vs'.toArray c'), (I, oI), (D, listOf (List.toArray vs) n)] ∧ Paired (IsRegW w.params g) vs ws ∧ vs.length ≤ 40 * i + 11 + j ∧ ∀ z, z ∈ ws ↔ (z ∈ allW (fs.take i) ∨ z ∈ f.ws) ∨ ∃ k ∈ ns'.take j, (k, z) ∈ f.cells)
      rfl (fun h e => ⟨_, e, rfl, c', rfl⟩) ?_ (ne_L' F3 N3 (.head _)) F3 N3 ⟨⟨by walk_at "LOOK", by walk_at "LOOK", by walk_at "LOOK"⟩, _, _, _, rfl, papp pw pr, by simp; omega, fun z => by simp [hws]⟩ ?_ ?_
    · intro j m' m'' news' h' rq0 F N
      obtain ⟨-, vs4, n4, ws4, rfl, -⟩ := rq0
      exact News_at N (.head _)
    · intro j v m4 news4 I4 oI4 h4 tk4 hv4 rq0 hnI4 F N
      obtain ⟨⟨hn1, hn2, hn3⟩, vs4, n4, ws4, rfl, pw4, hl4, hws4⟩ := rq0
      (try dsimp only at F N)
      have g1 : @Ne Nat B I4 := hnI4 _ (.head _)
      have g2 : @Ne Nat I I4 := hnI4 _ (.tail _ (.head _))
      have g3 : @Ne Nat D I4 := hnI4 _ (.tail _ (.tail _ (.head _)))
      obtain ⟨k, t, rfl, hk⟩ := i3.at j v hv4
      have hjl := (List.getElem?_eq_some_iff.mp hk).1
      have hpl : ns'.length = kvs.length := by rw [p3.length_eq, List.length_map]
      obtain ⟨c, z, hz1, hcw, hz3, hz4⟩ := cell_at hD pc (k := k) (p3.mem_iff.mp (List.mem_of_getElem? hk))
      obtain ⟨dc, y0, y1, yk, ra, e7, e8, hra⟩ := id hcw
      k_steps
      refine (ei4 ⟨rfl, by assumption, by assumption, (by simp only [List.forall_mem_cons]; exact ⟨g1, g2, g3, List.forall_mem_nil _⟩), ⟨by walk_at "LOOK", by walk_at "LOOK", by walk_at "LOOK"⟩, _, _, ws4 ++ [z], rfl, pw4.snoc ⟨_, rfl, hra⟩, by simp; omega, fun y => ?_⟩)
      rw [List.mem_append, hws4, List.mem_singleton, List.take_succ, hk]
      constructor
      · rintro ((q | ⟨k2, q1, q2⟩) | rfl)
        · exact .inl q
        · exact .inr ⟨k2, List.mem_append.mpr (.inl q1), q2⟩
        · exact .inr ⟨k, List.mem_append.mpr (.inr (by simp)), hz3⟩
      · rintro (q | ⟨k2, q1, q2⟩)
        · exact .inl (.inl q)
        · rcases List.mem_append.mp q1 with q1 | q1
          · exact .inl (.inr ⟨k2, q1, q2⟩)
          · simp only [Option.toList_some, List.mem_singleton] at q1
            subst q1
            exact .inr (hz4 _ q2)
    · intro h' tk m' news' F N rq0
      obtain ⟨⟨hn1, hn2, hn3⟩, vs4, n4, ws4, rfl, pw4, hl4, hws4⟩ := rq0
      (try dsimp only at F N)
      have hpl : vs'.length ≤ 20 := by rw [i3.length, p3.length_eq, List.length_map]; exact hkl
      k_steps
      refine (ei4 ⟨rfl, by assumption, newsSub N (fun q hq => .tail _ hq), (by simp only [List.forall_mem_cons]; exact ⟨hDI, List.forall_mem_nil _⟩), by walk_at "LOOK", by walk_at "LOOK", vs4, n4, ws4, rfl, pw4, by omega, fun z => ?_⟩)
      rw [hws4, allW_succ hf1, or_assoc, List.take_of_length_le (l := ns') (by rw [i3.length]; exact Nat.le_refl _)]
      have e9 : (∃ k, k ∈ ns' ∧ (k, z) ∈ f.cells) ↔ z ∈ f.cells.map (·.2) := by
        constructor
        · intro rq0
          obtain ⟨k, _, q⟩ := rq0
          exact List.mem_map.mpr ⟨_, q, rfl⟩
        · intro q
          obtain ⟨⟨k, z'⟩, q0, rfl⟩ := List.mem_map.mp q
          refine ⟨k, p3.mem_iff.mpr ?_, q0⟩
          rw [pkeys pc]
          exact List.mem_map.mpr ⟨_, q0, rfl⟩
      rw [e9]
  · intro h' tk m' news' F N rq0
    obtain ⟨hm1, hm2, vs, n1, ws, rfl, pw, hl1, hws⟩ := rq0
    (try dsimp only at F N)
    k_steps
    rw [List.length_map] at hl1 hws
    (try dsimp only)
    refine hret _ _ _ (keep_end hkeep (by assumption)) ⟨D, vs, n1, ws, rfl, fresh_of hkeep N (.head _) (by simp), News_at N (.head _), pmono (fun _ _ q => q.keepI (KeepI.of hback)) pw, by omega, fun x => ?_⟩
    rw [hws, List.take_of_length_le (by omega)]
 case qh0 => (try delta id oq1 oq2); exact fun h => h

end
end
section
theorem kg49 : True := trivial
structure MR where
  row : Addr
  RM : Addr
  SM : Addr
def RowFix (w : World) (h : Heap) (r : MR) (back : Int) : Prop := ∃ tb, h.DictOf (strKind Pg w) r.row [("regs", .ref r.RM), ("slots", .ref r.SM), ("back", .int back tb)]
def IsWord (h : Heap) (v : Value) (x : W) : Prop := ∃ t, v = .ref t ∧ WordAt h t x
def WordsAt (h : Heap) (RM : Addr) (ws : List W) : Prop := ∃ vs n, h.get? RM = some (listOf (List.toArray vs) n) ∧ Paired (IsWord h) vs ws
def IsSlotW (h : Heap) (kv : Int × Value) (kx : Int × W) : Prop := kv.1 = kx.1 ∧ IsWord h kv.2 kx.2
def SlotsAt (w : World) (h : Heap) (SM : Addr) (kxs : List (Int × W)) : Prop := (SM == sysModules) = false ∧ ∃ kvs, h.DictOf (intKind Pg w) SM kvs ∧ Paired (IsSlotW h) kvs kxs
structure RowAt (w : World) (h : Heap) (r : MR) (f : AF) : Prop where
  fix : RowFix w h r f.back
  words : WordsAt h r.RM f.ws
  slots : SlotsAt w h r.SM f.cells
theorem IsWord.keepI {h h' : Heap} {v : Value} {x : W} (z : IsWord h v x) (k : KeepI h h') : IsWord h' v x := let ⟨t, e, r⟩ := z; ⟨t, e, r.keepI k⟩
theorem IsSlotW.keepI {h h' : Heap} {kv : Int × Value} {kx : Int × W} (z : IsSlotW h kv kx) (k : KeepI h h') : IsSlotW h' kv kx := ⟨z.1, z.2.keepI k⟩
theorem imm_rowO {w : World} {o : Obj} {a b c : Value} (x : o.IsDictOf (strKind Pg w) [("regs", a), ("slots", b), ("back", c)]) : isImm o = true := by
 refine no_implicit_lambda% ((?qf0 : @Wit ?qp0 ?qe0 → ?qp0) (wit2 ?q00 ?qh0))
 case qf0 => exact fun _ => ?qe0
 case q00 =>
  obtain ⟨es, ep, hc, hd, hk, hp, _⟩ := x
  obtain ⟨cl, dd, dt, sl⟩ := o
  obtain ⟨c1, c2, c3⟩ := hc
  (try dsimp only at c1 c2 c3 hd)
  subst c1 c2 c3 hd
  unfold isImm
  have := hp.find "slots"
  rw [show valueAt (([("regs", a), ("slots", b), ("back", c)] : List (Str × Value))) ("slots" : Str) = some b from rfl] at this
  obtain ⟨e, he, _⟩ := Option.map_eq_some_iff.mp this
  have hm := List.mem_of_find?_eq_some he
  have hq := List.find?_some he
  have hf : PyProof.V.Flat e.key (.str "slots") := kdl_flat_str (prog := Pg) (w := w) hq
  have hq' : e.key.isStr "slots" = true := by
    have hf := hf ({ objs := #[] } : Heap)
    generalize e.key = z at hf
    cases hf
    rfl
  refine List.any_eq_true.mpr ⟨e, hm, List.any_eq_true.mpr ⟨"slots", by simp [rare], hq'⟩⟩
 case qh0 => (try delta id oq1 oq2); exact fun h => h

theorem RowFix.keepI {w : World} {h h' : Heap} {r : MR} {b : Int} (z : RowFix w h r b) (k : KeepI h h') : RowFix w h' r b := by
 refine no_implicit_lambda% ((?qf0 : @Wit ?qp0 ?qe0 → ?qp0) (wit2 ?q00 ?qh0))
 case qf0 => exact fun _ => ?qe0
 case q00 =>
  obtain ⟨tb, hD⟩ := z
  obtain ⟨o, ho, x⟩ := Heap.dictOf_iff.mp hD
  exact ⟨tb, Heap.dictOf_iff.mpr ⟨o, k _ _ ho (imm_rowO x), x⟩⟩
 case qh0 => (try delta id oq1 oq2); exact fun h => h

theorem WordsAt.keep {h h' : Heap} {R : Addr} {ws : List W} (z : WordsAt h R ws) (k : KeepI h h') (e : ∀ o, h.get? R = some o → h'.get? R = some o) : WordsAt h' R ws := by
  obtain ⟨vs, n, e1, p⟩ := z
  exact ⟨vs, n, e _ e1, pmono (fun _ _ q => q.keepI k) p⟩
theorem SlotsAt.keep {w : World} {h h' : Heap} {C : Addr} {kxs : List (Int × W)} (z : SlotsAt w h C kxs) (k : KeepI h h') (e : ∀ o, h.get? C = some o → h'.get? C = some o) : SlotsAt w h' C kxs := by
  obtain ⟨lo, kvs, e1, p⟩ := z
  exact ⟨lo, kvs, dictOf_keep e1 e, pmono (fun _ _ q => q.keepI k) p⟩
theorem RowAt.keep {w : World} {h h' : Heap} {x : MR} {f : AF} (z : RowAt w h x f) (k : KeepI h h') (e1 : ∀ o, h.get? x.RM = some o → h'.get? x.RM = some o) (e2 : ∀ o, h.get? x.SM = some o → h'.get? x.SM = some o) : RowAt w h' x f :=
  ⟨z.fix.keepI k, z.words.keep k e1, z.slots.keep k e2⟩
theorem RowAt.all {w : World} {h h' : Heap} {x : MR} {f : AF} (z : RowAt w h x f) (k : Keep [] h h') : RowAt w h' x f := z.keep (KeepI.of fun _ _ => k.all) (fun _ => k.all) (fun _ => k.all)
theorem skeys {h : Heap} {kvs : List (Int × Value)} {kxs : List (Int × W)} (p : Paired (IsSlotW h) kvs kxs) : kvs.map (·.1) = kxs.map (·.1) := by
  induction p with
  | nil => rfl
  | cons q _ ih => rw [List.map_cons, List.map_cons, ih, q.1]

def W.data : W → PyData
  | .num n => .tuple [.str "number", .int n]
  | .any => .tuple [.str "any", .int 0]
  | .stack f o => .tuple [.str "stack", .int f, .int o]
  | .none => .tuple [.str "none"]
  | .room r => .tuple [.str "room", .int r]
  | .value => .tuple [.str "value", .int 3]
  | .ctx => .tuple [.str "context"]
theorem reads_word {h : Heap} {t : Addr} {x : W} (z : WordAt h t x) : Reads h (.ref t) x.data [] := by
 refine no_implicit_lambda% ((?qf0 : @Wit ?qp0 ?qe0 → ?qp0) (wit2 ?q00 ?qh0))
 case qf0 => exact fun _ => ?qe0
 case q00 =>
  obtain ⟨vs, e, v⟩ := z
  cases v <;> exact .tuple (as := []) e rfl rfl (by
    simp only [List.toList_toArray]
    repeat (first | exact .nil | refine readsAll_cons_val (by constructor) ?_))
 case qh0 => (try delta id oq1 oq2); exact fun h => h

theorem eqv_word (x : W) : PyData.eqv x.data x.data = true := by cases x <;> simp [W.data, PyData.eqv, PyData.eqvAll]
theorem can_word (x : W) : x.data.canLay0 = true ∧ x.data.depth ≤ 1 := by cases x <;> simp [W.data, PyData.canLay0, PyData.canLayAll0, PyData.depth, PyData.depthAll] <;> decide +kernel
theorem eqv_words : ∀ ws : List W, PyData.eqvAll (ws.map W.data) (ws.map W.data) = true
  | [] => rfl
  | x :: r => by simp [PyData.eqvAll, eqv_word, eqv_words r]
theorem can_words : ∀ ws : List W, PyData.canLayAll0 (ws.map W.data) = true ∧ PyData.depthAll (ws.map W.data) ≤ 1
  | [] => ⟨rfl, by simp [PyData.depthAll]⟩
  | x :: r => by
    have a := can_word x
    have b := can_words r
    constructor
    · simp [PyData.canLayAll0, a.1, b.1]
    · simp only [List.map_cons, PyData.depthAll]
      exact Nat.max_le.mpr ⟨a.2, b.2⟩
theorem reads_words {h : Heap} : ∀ {vs : List Value} {ws : List W}, Paired (IsWord h) vs ws → ReadsAll h vs (ws.map W.data) [] := by
 refine no_implicit_lambda% ((?qf0 : @Wit ?qp0 ?qe0 → ?qp0) (wit2 ?q00 ?qh0))
 case qf0 => exact fun _ => ?qe0
 case q00 =>
  intro vs ws p
  induction p with
  | nil => exact .nil
  | cons q t ih =>
    obtain ⟨a, rfl, z⟩ := q
    exact readsAll_cons_val (reads_word z) ih
 case qh0 => (try delta id oq1 oq2); exact fun h => h

section
variable {w : World} {A : Around} {E : Value → Shared → Prop} {s : Shared} {a b : Addr} {Q : Value → Shared → Prop}
theorem ne_words {vs us : List Value} {ws : List W} {n k : Nat} (ha : s.heap.get? a = some (listOf (List.toArray vs) n)) (hb : s.heap.get? b = some (listOf (List.toArray us) k)) (pa : Paired (IsWord s.heap) vs ws) (pb : Paired (IsWord s.heap) us ws) (hu : A.units + 64 < cLine) (h : Q (.bool false) s) :
    wpAny (model Pg w) A (compareOp .NotEq (.ref a) (.ref b)) Q E s := by
  have c := can_words ws
  have sh : SeqAt.shaped (.list (ws.map W.data)) = true := by
    unfold SeqAt.shaped
    rw [Bool.and_eq_true]
    refine ⟨by simpa [PyData.canLay0] using c.1, decide_eq_true ?_⟩
    simp only [PyData.depth]
    omega
  exact ne_dataH (reads_list_at ha rfl rfl (by simpa using reads_words pa)) (reads_list_at hb rfl rfl (by simpa using reads_words pb)) sh sh hu (by simp only [PyData.eqv, eqv_words, Bool.not_true]; exact h)
theorem ne_word {x : W} (ha : WordAt s.heap a x) (hb : WordAt s.heap b x) (hu : A.units + 64 < cLine) (h : Q (.bool false) s) :
    wpAny (model Pg w) A (compareOp .NotEq (.ref a) (.ref b)) Q E s := by
  have c := can_word x
  have sh : SeqAt.shaped x.data = true := by
    unfold SeqAt.shaped
    rw [Bool.and_eq_true]
    exact ⟨c.1, decide_eq_true (by omega)⟩
  exact ne_dataH (reads_word ha) (reads_word hb) sh sh hu (by rw [eqv_word]; exact h)
theorem ne_same {vs us : List Value} {ns : List Int} (ha : s.heap.IsList a vs.toArray) (hb : s.heap.IsList b us.toArray) (hi : IntsAre vs ns) (hj : IntsAre us ns) (hu : A.units + 64 < cLine) (h : Q (.bool false) s) :
    wpAny (model Pg w) A (compareOp .NotEq (.ref a) (.ref b)) Q E s := ke_ne_ints ha hb hi hj hu (by simpa using h)
theorem getitem_dictS {value slice : PySem.Expr} {d : Addr} {kvs : List (Str × Value)} {k : Str} {t : Tok} {v : Value} (hD : s.heap.DictOf (strKind Pg w) d kvs) (hl : valueAt kvs k = some v) (h : Q v { s with toks := s.toks + 1 })
    (hs : subscripted slice false (.ref d) (.str k t) = operate [.ref d, .str k t] (getItem (.ref d) (.str k t)) := by with_unfolding_all rfl) :
    wpAny (model Pg w) A (subscriptTail value slice (.ref d) (.str k t)) Q E s :=
  tail_any hD.typeIs slot_dict_getitem.lookup (wpAny_getItem_of (strKind_is _ _ _ _) hD.mapOf hl h) hs
end
theorem sorted_eq : ∀ {a b : List Int}, a.Perm b → a.Pairwise (· ≤ ·) → b.Pairwise (· ≤ ·) → a = b := fun p q r => p.eq_of_pairwise (fun x y _ _ h1 h2 => Int.le_antisymm h1 h2) q r
end
section
theorem kg50 : True := trivial

theorem Heap.DictOf.keepF {w : World} {h h' : Heap} {C : Addr} {kvs : List (Str × Value)} (x : h.DictOf (strKind Pg w) C kvs) (k : ∀ b o, h.get? b = some o → h'.get? b = some o) : h'.DictOf (strKind Pg w) C kvs := by
  obtain ⟨o, es, ep, e1, r⟩ := x
  exact ⟨o, es, ep, k _ _ e1, r⟩
section
variable {w : World} {p : Program} {loose : List Str} {mean : ExcName → Option Value} {mg mb : Str → Option Value}
theorem kg51 : True := by
  k_with "Z51K_k_room" => (exact Nat.le_of_ble_eq_true rfl)
  k_with "Z51K_k_inst" => (case' zzhy => (refine' inst_base ?zzF ?zzh1 ?zzh2; (case zzF => k_asm); (case zzh1 => assumption); (case zzh2 => assumption)))
  k_with "Z51K_k_all" => (exact allLt_ne (by first | assumption | exact And.right (by assumption) | exact And.right (And.right (by assumption)) | exact And.right (And.right (And.right (by assumption)))))
  k_with "Z51K_k_all" => (assumption)
  k_with "Z51K_k_mem" => (assumption)
  k_with "Z51call builtin:len" => (k_here; (with_reducible show wpAny _ _ (call (Value.builtin "len") [Value.ref _]) _ _ _); case' zzhy => (k_dflt (refine' len_symK ?zzk1 ?zzk2 ?zzk3 ?_; (case zzk1 => exact listOf_base (by k_asm) (by assumption)); (case zzk2 => assumption); (case zzk3 => omega); k_whole)))
  k_with "Z51ite" => (k_here; k_openite; first | (refine ite_pos (by first | omega | (simp only [beq_iff_eq, bne_iff_ne, decide_eq_true_eq, ne_eq]; omega)) ?_) | (refine ite_neg (by first | omega | (simp only [beq_iff_eq, bne_iff_ne, decide_eq_true_eq, ne_eq]; omega)) ?_))
  k_with "Z51exec For Name Call cons nil" => (k_here; case' zzhy => ((rename Fr _ _ _ _ => zzlF'); (with_unfolding_all refine' For_invVF zzlF' ?zzk1 ?zzk2 ?_; (case zzk1 => exact rfl); (case zzk2 => exact rfl); k_whole)))
  k_with "Z51exec For Name Name cons nil" => (k_here; case' zzhy => ((rename Fr _ _ _ _ => zzlF'); (with_unfolding_all refine' For_invVF zzlF' ?zzk1 ?zzk2 ?_; (case zzk1 => exact rfl); (case zzk2 => exact rfl); k_whole)))
  k_with "Z51exec For Name Attribute cons nil" => (k_here; case' zzhy => ((rename Fr _ _ _ _ => zzlF'); (with_unfolding_all refine' For_invVF zzlF' ?zzk1 ?zzk2 ?_; (case zzk1 => exact rfl); (case zzk2 => exact rfl); k_whole)))
  k_with "Z51exec For Name Subscript cons nil" => (k_here; case' zzhy => ((rename Fr _ _ _ _ => zzlF'); (with_unfolding_all refine' For_invVF zzlF' ?zzk1 ?zzk2 ?_; (case zzk1 => exact rfl); (case zzk2 => exact rfl); k_whole)))
  k_with "Z51exec For Name BinOp cons nil" => (k_here; case' zzhy => ((rename Fr _ _ _ _ => zzlF'); (with_unfolding_all refine' For_invVF zzlF' ?zzk1 ?zzk2 ?_; (case zzk1 => exact rfl); (case zzk2 => exact rfl); k_whole)))
  k_with "Z51pyIter ref" => (refine Stop.out ?_)
  k_with "Z51call type:range" => (k_here; case' zzhy => (k_dflt (first | ((with_reducible show wpAny _ _ (call _ [Value.int _ _]) _ _ _); refine' range1_rows ?zzzF ?zzzN ?_; (case zzzF => k_asm); (case zzzN => k_asm); k_whole) | ((with_reducible show wpAny _ _ (call _ [Value.int _ _, Value.int _ _]) _ _ _); refine' range2_rows ?zzzF ?zzzN ?_; (case zzzF => k_asm); (case zzzN => k_asm); k_whole)); intro zzh' zztk' zzt1' zzu1' zzv1' zzR' zzF' zzN' zzk'))
  k_with "Z51LOOK" => ((try dsimp only); first | assumption | exact if_pos rfl | (refine (if_neg (by decide)).trans ?_; walk_at "LOOK") | exact rfl)
  k_with "Z51eval Name" => (k_here; case' zzhy => (k_dflt (refine' nameX_L ?zzzF ?zzzv ?_ ?zzza ?zzzb ?zzzc; (case zzza => exact rfl); (case zzzb => exact rfl); (case zzzc => decide); (case zzzF => k_asm); (case zzzv => walk_at "LOOK"); k_whole)))
  k_with "Z51subscriptTail" => (k_here; (with_reducible show wpAny _ _ (subscriptTail _ _ (Value.ref _) (Value.int _ _)) _ _ _); case' zzhy => (k_dflt (refine' getitem_dictI ?zzzD ?zzzl ?_ ?zzzs; (case zzzD => exact dictOf_keep (by assumption) (Fr.keep (by k_asm) _)); (case zzzl => assumption); (case zzzs => with_unfolding_all rfl); k_whole)))
  k_with "Z51subscriptTail" => (k_here; (with_reducible show wpAny _ _ (subscriptTail _ _ (Value.ref _) (Value.str _ _)) _ _ _); case' zzhy => (k_dflt (refine' getitem_dictS ?zzzD ?zzzl ?_ ?zzzs; (case zzzD => exact Mine.Heap.DictOf.keepF (by assumption) (Fr.keep (by k_asm))); (case zzzl => rfl); (case zzzs => with_unfolding_all rfl); k_whole)))
  k_with "Z51compareOp NotEq ref ref" => (refine Stop.out ?_)
  k_with "Z51exec For Tuple Call cons nil" => (k_here; case' zzhy => ((rename Fr _ _ _ _ => zzlF'); (with_unfolding_all refine' For_turns zzlF' ?_; k_whole)))
  k_with "Z51call type:zip" => (refine Stop.out ?_)
  k_with "Z51CompEnd" => (refine Stop.out ?_)
  k_with "Z51eval ListComp" => (k_here; k_dflt (refine LCg.ListComp_U (F₀ := by k_asm) (by rfl) (by decide) (by rfl) (by decide) (by rfl) ?_))
  k_with "Z51exec Assign cons ListComp" => (k_here; k_dflt (refine LCg.Assign_ListComp_U (F₀ := by k_asm) (by rfl) (by with_unfolding_all rfl) (by rfl) (by decide) (by rfl) (by decide) (by rfl) (by rfl) (by rfl) ?_))
  k_with "Z51CompSrc" => (refine Stop.out ?_)
  k_with "Z51call builtin:sorted" => (k_here; (with_reducible show wpAny _ _ (call (Value.builtin "sorted") [Value.ref _]) _ _ _); case' zzhy => (k_dflt (refine' sorted_dictI ?zzzF ?zzzN ?zzzh ?zzzD ?zzzl ?zzz6 ?_; (case zzzF => k_asm); (case zzzN => k_asm); (case zzzh => exact rfl); (case zzzD => exact dictOf_keep (by assumption) (Fr.keep (by k_asm) _)); (case zzzl => assumption); (case zzz6 => omega); k_whole); intro zzB' zzvs' zzns' zzc' zzh' zztk' zzF' zzN' zzl1' zzi1' zzp1' zzs1'; k_lt zzl1'))
  k_with "Z51call ref" => (k_here; (with_reducible show wpAny _ _ (call (Value.ref 721) _) _ _ _); case' zzhy => (k_dflt ( (refine' call_eq (f' := Value.ref 721) (vs' := [Value.ref _]) ?zzca ?zzcb ?_; (case zzca => exact rfl); (case zzcb => exact rfl)); (refine' use_sp (told_sp ?zzp0) ?zzuB ?zzuF ?zzuX ?zzuT ?zzuA ?zzuf ?zzuk ?zzuh ?zzud ?zzuu ?zzuM ?_; (case zzuA => exact rfl); (case zzuf => exact rfl); (case zzuk => exact rfl); (case zzuF => k_asm); (case zzuB => k_asm); (case zzuX => k_asm); (case zzuT => k_asm); (case zzp0 => exact RegW.keepI (by assumption) (KeepI.of (Fr.keep (by k_asm)))); (case zzuh => exact rfl); (case zzud => exact Nat.le_of_ble_eq_true rfl); (case zzuu => exact Nat.le_of_ble_eq_true rfl); (case zzuM => exact fun zza zzha => nomatch zzha); k_whole); (intro zzv' zzh' zztk' zzK' zzF' zzP'); (obtain ⟨zzt', zze', zzfr', zzwa'⟩ := zzP'); subst zze'; (try dsimp only))))
  trivial
theorem stands_sp {s : Shared} {st sd fl rl ml rm : Addr} {xs : List FA} {rows : List MR} {fs : List AF} {N nr nm nl : Nat} {rs rs2 : List Value} {ns : List Int} (S : StFix w.params s.heap st sd fl rl xs) (hfs : Paired (FrameAt w s.heap) xs fs) (hrs : Paired (RowAt w s.heap) rows fs) (hN : fs.length = N) (hN2 : N ≤ 20) (hw : ∀ f ∈ fs, f.ws.length = 11 ∧ f.cells.length ≤ 20)
    (em : s.heap.get? ml = some (listOf (rows.map fun r => Value.ref r.row).toArray nm)) (er : s.heap.get? rl = some (listOf rs.toArray nr)) (er2 : s.heap.get? rm = some (listOf rs2.toArray nl)) (hi1 : IntsAre rs ns) (hi2 : IntsAre rs2 ns) :
    Sp w p loose mean mg mb 6 726 [.ref st, .ref ml, .ref rm] [] s (fun v h => v = .bool true) := by
 refine no_implicit_lambda% ((?qf0 : @Wit ?qp0 ?qe0 → ?qp0) (wit2 ?q00 ?qh0))
 case qf0 => exact fun _ => ?qe0
 case q00 =>
  intro A₀ base h₀ env outer L m R B F X T hf hke hM hret
  k_dflt (refine' enter (H := []) (news := []) (binds := [(Str.ofString "state", .ref st), (Str.ofString "model", .ref ml), (Str.ofString "rooms", .ref rm)]) B F X T hf hke (fun a ha => nomatch ha) (fun q hq => nomatch hq) ?ho ?hcd ?hb ?hl ?_ ?hc ?hr ?c1 ?c2 ?c3)
  case ho => k_is
  case hcd => k_is
  case hb => exact BindsTo.of_eq rfl
  case hl => exact locs rfl
  case hc => decide
  case hr => exact Nat.le_of_ble_eq_true rfl
  case c1 => exact rfl
  case c2 => exact rfl
  case c3 => exact rfl
  intro g L' h₁ tk₁ hkeep hback F' hL' N' hk1 B' X' T'
  clear B F X T
  have Sg : StFix w.params g st sd fl rl xs := S.all fun b o _ e => hkeep.all e
  have hg : Paired (FrameAt w g) xs fs := pmono (fun _ _ q => q.all hkeep) hfs
  have hr : Paired (RowAt w g) rows fs := pmono (fun _ _ q => q.all hkeep) hrs
  have hgl := hg.length
  have hrl := hr.length
  obtain ⟨e1, ⟨t0, t1, t2, t3, e2⟩, n, e3⟩ := id Sg
  replace em := hkeep.all em
  replace er := hkeep.all er
  replace er2 := hkeep.all er2
  have hl1 : (xs.map fun x => Value.ref x.fr).length = N := by rw [List.length_map, hgl, hN]
  have hl2 : (rows.map fun x => Value.ref x.row).length = N := by rw [List.length_map, hrl, hN]
  clear S hfs hrs
  (try dsimp only)
  (try k_fold)
  k_steps
  apply Stop.in
  refine' ne_same ?za ?zb hi1 hi2 ?zu ?_
  case za => exact listOf_base (by k_asm) er
  case zb => exact listOf_base (by k_asm) er2
  case zu => k_units
  k_steps
  apply Stop.in
  refine loop_zip (xs := xs.map fun x => Value.ref x.fr) (ys := rows.map fun x => Value.ref x.row) (fun i m => m "state" = some (.ref st) ∧ m "model" = some (.ref ml) ∧ m "rooms" = some (.ref rm)) rfl ⟨_, e3, rfl, n, rfl⟩ ⟨_, em, rfl, nm, rfl⟩ (by assumption) ⟨rfl, rfl, rfl⟩ ?_ ?_
  · intro i vx vy T m₁ own h₁ tk₁ hx hy rq0 F N hT
    obtain ⟨hm1, hm2, hm3⟩ := rq0
    (try dsimp only at F N)
    obtain ⟨x, hx1, rfl⟩ : ∃ x, xs[i]? = some x ∧ vx = .ref x.fr := by
      rw [List.getElem?_map] at hx
      cases q : xs[i]? with
      | none => rw [q] at hx; cases hx
      | some x => rw [q] at hx; exact ⟨x, rfl, (Option.some.inj hx).symm⟩
    obtain ⟨r, hr1, rfl⟩ : ∃ r, rows[i]? = some r ∧ vy = .ref r.row := by
      rw [List.getElem?_map] at hy
      cases q : rows[i]? with
      | none => rw [q] at hy; cases hy
      | some x => rw [q] at hy; exact ⟨x, rfl, (Option.some.inj hy).symm⟩
    obtain ⟨f, hf1, hfa⟩ := pget hg i _ hx1
    obtain ⟨f', hf2, hra⟩ := pget hr i _ hr1
    rw [hf1] at hf2
    cases hf2
    obtain ⟨hw1, hw2⟩ := hw f (List.mem_of_getElem? hf1)
    obtain ⟨⟨d, q0, q1, q2, qb, e4, e5⟩, ⟨us, nu, e6, pr⟩, ⟨lo, kvs, hD, pc⟩⟩ := hfa
    obtain ⟨⟨tb, hRD⟩, ⟨vsw, nw, e7, pw⟩, ⟨loS, kvsS, hDS, pS⟩⟩ := hra
    have hul : us.length = 11 := pr.length.trans hw1
    have hkl : kvs.length ≤ 20 := by rw [pc.length]; exact hw2
    have hklS : kvsS.length ≤ 20 := by rw [pS.length]; exact hw2
    k_steps
    apply Stop.in
    have huL : g.IsList x.R us.toArray := ⟨_, e6, rfl, nu, rfl⟩
    refine LCg.CompSrc.base (its := us.toArray) (by rfl) (by k_asm) (by k_asm) huL (by rw [sizeLine_eq]; simp; omega) ?_
    intro gH
    refine compRest_ind (fun i ys news => ∀ h2, News g L' h2 news → News g L' h2 own ∧ Paired (IsWord h2) ys (f.ws.take i)) ?_ ?_ _ 0 [] _ (Nat.zero_add _) (fun h2 N2 => ⟨N2, .nil⟩)
    · rintro i ys news v I oI C oC D m₂ h tk E' hi hI hP hC hx' F N off ne
      obtain ⟨wx, hwx, a, rfl, ra⟩ : ∃ wx, f.ws[i]? = some wx ∧ ∃ a, v = .ref a ∧ RegW w.params g a wx := pget pr i v (by simpa using hP)
      k_steps
      apply Stop.in
      rename_i h5 tk5 K5 F5 t5 f5 w5
      obtain ⟨news', r1, r2, r3⟩ := comp_end N F off K5 hI (φ := fun h2 => IsWord h2 (.ref t5) wx) (fun h2 k2 => by
        obtain ⟨vs5, e5', v5⟩ := w5
        exact ⟨t5, rfl, vs5, k2 _ _ f5 e5', v5⟩)
      refine (ei2 ⟨news', rfl, F5, r1, r2, .inl huL, fun h2 N2 => ?_⟩)
      obtain ⟨⟨p0, p1⟩, p2⟩ := r3 h2 N2
      rw [List.take_add_one, hwx]
      exact ⟨p0, p1.snoc p2⟩
    · rintro ys news hI
      unfold LCg.FinE
      intro D hD5 tkD FD ND oD
      obtain ⟨No, pD⟩ := hI hD5 (newsSub ND fun q hq => .tail _ hq)
      rw [List.take_of_length_le (by simp; omega)] at pD
      have ND2 : News g L' hD5 ((D, LCg.lst ys) :: own) := newsCons (ND _ (.head _)).1 (ND _ (.head _)).2.2 (ND _ (.head _)).2.1 No
      clear ND oD
      k_steps
      apply Stop.in
      refine' ne_words (News_at (by k_asm) (.head _)) (Fr.keep (by k_asm) _ _ e7) pD (pmono (fun _ _ q => q.keepI (KeepI.of (Fr.keep (by k_asm)))) pw) ?zu ?_
      case zu => k_units
      k_steps
      apply Stop.in
      rename_i B1 vs1 ns1 c1 _ _ _ _ i1 p1 s1 l1 B2 vs2 ns2 c2 h6 tk6 F6 N6 i2 p2 s2 l2
      have hkeys : kvs.map (·.1) = kvsS.map (·.1) := (pkeys pc).trans (skeys pS).symm
      have hns : ns1 = ns2 := sorted_eq (p1.trans (by rw [hkeys]; exact p2.symm)) s1 s2
      subst hns
      refine' ne_same (list_news N6 (.tail _ (.head _))) (list_news N6 (.head _)) i1 i2 ?zu ?_
      case zu => k_units
      k_steps
      apply Stop.in
      refine loop_dictR (fun j m => m "state" = some (.ref st) ∧ m "model" = some (.ref ml) ∧ m "rooms" = some (.ref rm) ∧ m "frame" = some (.ref x.fr) ∧ m "row" = some (.ref r.row)) rfl loS hDS (by assumption) (newsSub (n2 := own) (by assumption) fun q hq => .tail _ (.tail _ (.tail _ hq))) ⟨by walk_at "LOOK", by walk_at "LOOK", by walk_at "LOOK", by walk_at "LOOK", by walk_at "LOOK"⟩ ?_ ?_
      · intro j k t v m4 own2 h4 tk4 hkv rq0 F N
        obtain ⟨hn1, hn2, hn3, hn4, hn5⟩ := rq0
        (try dsimp only at F N)
        obtain ⟨c, z, hz1, hcw, hz3, hz4⟩ := cell_at hD pc (k := k) (by rw [hkeys]; exact List.mem_map.mpr ⟨_, List.mem_of_getElem? hkv, rfl⟩)
        obtain ⟨dc, y0, y1, yk, ra, e8, e9, hra⟩ := id hcw
        obtain ⟨⟨k2, z2⟩, hz5, hz6, tw, hz7, hw8⟩ := pget pS j _ hkv
        (try dsimp only at hz6 hz7)
        subst hz6 hz7
        have := hz4 _ (List.mem_of_getElem? hz5)
        subst this
        have hvS : valueAt kvsS k = some (.ref tw) := by
          obtain ⟨ep, hat⟩ := hDS.dictAt
          exact valueAt_of_get hat.nodup hkv
        k_steps
        apply Stop.in
        rename_i N7 h8 tk8 K8 F8 t8 f8 w8
        have N8 := newsKeep (M := []) N7 (fun _ _ => List.not_mem_nil) K8
        refine' ne_word w8 (hw8.keepI (KeepI.of F8.keep)) ?zu ?_
        case zu => k_units
        k_steps
        exact (ei3 ⟨rfl, by assumption, by assumption, by walk_at "LOOK", by walk_at "LOOK", by walk_at "LOOK", by walk_at "LOOK", by walk_at "LOOK"⟩)
      · intro h' tk m' F N rq0
        obtain ⟨hn1, hn2, hn3, hn4, hn5⟩ := rq0
        (try dsimp only at F N)
        k_steps
        exact (ei3 ⟨rfl, by assumption, by assumption, by walk_at "LOOK", by walk_at "LOOK", by walk_at "LOOK"⟩)
  · intro h' tk m' F rq0
    obtain ⟨hm1, hm2, hm3⟩ := rq0
    (try dsimp only at F)
    k_steps
    (try dsimp only)
    exact hret _ _ _ (keep_end hkeep (by assumption)) rfl
 case qh0 => (try delta id oq1 oq2); exact fun h => h

end
end
section
theorem kg52 : True := trivial
def exitBad (x : W) (rooms : Nat) : Option Str := match x.bad with
  | some e => some e
  | none => if 0 < rooms then some "room left" else none
theorem exitBad_some {x : W} {n : Nat} {e : Str} (h : x.bad = some e) : exitBad x n = some e := by unfold exitBad; rw [h]
theorem exitBad_room {x : W} {n : Nat} (h : x.bad = none) (hn : 0 < n) : exitBad x n = some "room left" := by unfold exitBad; rw [h]; exact if_pos hn
theorem exitBad_none {x : W} {n : Nat} (h : x.bad = none) (hn : ¬ 0 < n) : exitBad x n = none := by unfold exitBad; rw [h]; exact if_neg hn
section
variable {w : World} {p : Program} {loose : List Str} {mean : ExcName → Option Value} {mg mb : Str → Option Value}
theorem kg53 : True := by
  k_with "Z53K_k_room" => (exact Nat.le_of_ble_eq_true rfl)
  k_with "Z53K_k_inst" => (case' zzhy => (refine' inst_base ?zzF ?zzh1 ?zzh2; (case zzF => k_asm); (case zzh1 => assumption); (case zzh2 => assumption)))
  k_with "Z53K_k_all" => (exact allLt_ne (by first | assumption | exact And.right (by assumption) | exact And.right (And.right (by assumption)) | exact And.right (And.right (And.right (by assumption)))))
  k_with "Z53K_k_all" => (assumption)
  k_with "Z53K_k_mem" => (assumption)
  k_with "Z53exec Raise some none" => (k_here; case' zzhy => (k_dflt (refine' ex_raise ?zzkX rfl ?_; (case zzkX => k_asm))))
  k_with "Z53call ref" => (k_here; (with_reducible show wpAny _ _ (call (Value.ref 59) _) _ _ _); case' zzhy => (k_dflt ( (refine' call_eq (f' := Value.ref 59) (vs' := [Value.str _ _, Value.int _ _]) ?zzca ?zzcb ?_; (case zzca => exact rfl); (case zzcb => exact rfl)); (refine' refusal_call ?zzuB ?zzuF ?zzuX ?zzuT ?zzuA ?zzuf ?zzuk ?zzuh ?zzud ?zzuu ?_; (case zzuB => k_asm); (case zzuF => k_asm); (case zzuX => k_asm); (case zzuT => k_asm); (case zzuA => exact rfl); (case zzuf => exact rfl); (case zzuk => exact rfl); (case zzuh => exact rfl); (case zzud => exact Nat.le_of_ble_eq_true rfl); (case zzuu => exact Nat.le_of_ble_eq_true rfl); k_whole); (intro zze' zzd' zzt1' zzh' zztk' zze0 zzd0 zzkk zzee zzss zzF'); (refine (fun zzN' => ?_) (newsKeep (M := []) (by assumption) (fun _ _ => List.not_mem_nil) (Keep.of [] zzkk))))))
  k_with "Z53call builtin:len" => (k_here; (with_reducible show wpAny _ _ (call (Value.builtin "len") [Value.ref _]) _ _ _); case' zzhy => (k_dflt (refine' len_symK ?zzk1 ?zzk2 ?zzk3 ?_; (case zzk1 => exact listOf_base (by k_asm) (by assumption)); (case zzk2 => assumption); (case zzk3 => omega); k_whole)))
  k_with "Z53call ref" => (k_here; (with_reducible show wpAny _ _ (call (Value.ref 545) _) _ _ _); case' zzhy => (k_dflt ( (refine' call_eq (f' := Value.ref 545) (vs' := [Value.ref _, Value.int _ _]) ?zzca ?zzcb ?_; (case zzca => exact rfl); (case zzcb => exact rfl)); (refine' use_sp (reg_sp ?zzp0 ?zzp1 ?zzp2 ?zzp3 ?zzp4 ?zzp5) ?zzuB ?zzuF ?zzuX ?zzuT ?zzuA ?zzuf ?zzuk ?zzuh ?zzud ?zzuu ?zzuM ?_; (case zzp0 => exact stfix_base (by k_asm) (by assumption)); (case zzp1 => exact fix_base (by k_asm) (by assumption)); (case zzp2 => exact Fr.keep (by k_asm) _ _ (by assumption)); (case zzp3 => omega); (case zzp4 => omega); (case zzp5 => omega); (case zzuB => k_asm); (case zzuF => k_asm); (case zzuX => k_asm); (case zzuT => k_asm); (case zzuA => exact rfl); (case zzuf => exact rfl); (case zzuk => exact rfl); (case zzuh => exact rfl); (case zzud => exact Nat.le_of_ble_eq_true rfl); (case zzuu => exact Nat.le_of_ble_eq_true rfl); (case zzuM => exact fun zza zzha => nomatch zzha); k_whole); (intro zzv' zzh' zztk' zzK' zzF' zzP'); (obtain ⟨zza', zzea', zzrw'⟩ := pgetD (by assumption) zzP'); subst zzea'; (refine (fun zzN' => ?_) (newsKeep (M := []) (by assumption) (fun _ _ => List.not_mem_nil) zzK')); (try dsimp only))))
  k_with "Z53call ref" => (k_here; (with_reducible show wpAny _ _ (call (Value.ref 658) _) _ _ _); case' zzhy => (k_dflt ( (refine' call_eq (f' := Value.ref 658) (vs' := [Value.ref _, Value.int _ _]) ?zzca ?zzcb ?_; (case zzca => exact rfl); (case zzcb => exact rfl)); (refine' use_spe (need_sp ?zzp0) ?zzuB ?zzuF ?zzuX ?zzuT ?zzuA ?zzuf ?zzuk ?zzuh ?zzud ?zzuu ?zzuM ?zzuQ ?zzuE; (case zzp0 => exact RegW.keepI (by assumption) (KeepI.of (Fr.keep (by k_asm)))); (case zzuB => k_asm); (case zzuF => k_asm); (case zzuX => k_asm); (case zzuT => k_asm); (case zzuA => exact rfl); (case zzuf => exact rfl); (case zzuk => exact rfl); (case zzuh => exact rfl); (case zzud => exact Nat.le_of_ble_eq_true rfl); (case zzuu => exact Nat.le_of_ble_eq_true rfl); (case zzuM => exact fun zza zzha => nomatch zzha)); (case' zzuE => intro zze' zzwhat' zzpl' zzh' zztk' zzer' zzth'); (case' zzuQ => intro zzv' zzh' zztk' zzK' zzF' zzP'; (obtain ⟨zze', zzb'⟩ := zzP'); subst zze'; (refine (fun zzN' => ?_) (newsKeep (M := []) (by assumption) (fun _ _ => List.not_mem_nil) zzK')); (try dsimp only)))))
  trivial
theorem exit_sp {s : Shared} {st sd fl rl : Addr} {pre : List FA} {x : FA} {b : Int} {vs : List Value} {n' : Nat} {ws : List W} {rs : List Value} {nr k : Nat} {pl : Int} {tp : Tok} (S : StFix w.params s.heap st sd fl rl (pre ++ [x])) (hfr : FrameFix w.params s.heap x b) (e6 : s.heap.get? x.R = some (listOf vs.toArray n'))
    (pr : Paired (IsRegW w.params s.heap) vs ws) (hlen : vs.length = 11) (er : s.heap.get? rl = some (listOf rs.toArray nr)) (hrl : rs.length = k) (hk : k ≤ 100) :
    SpE w p loose mean mg mb 14 686 [.ref st, .int pl tp] [] s (fun v h => v = .none ∧ exitBad (ws.getD 0 .none) k = none) (fun what q => q = pl ∧ exitBad (ws.getD 0 .none) k = some what) := by
 refine no_implicit_lambda% ((?qf0 : @Wit ?qp0 ?qe0 → ?qp0) (wit2 ?q00 ?qh0))
 case qf0 => exact fun _ => ?qe0
 case q00 =>
  intro A₀ base h₀ env outer L m R B F X T hf hke hM hret herr
  k_dflt (refine' enter (H := []) (news := []) (binds := [(Str.ofString "state", .ref st), (Str.ofString "at", .int pl tp)]) B F X T hf hke (fun a ha => nomatch ha) (fun q hq => nomatch hq) ?ho ?hcd ?hb ?hl ?_ ?hc ?hr ?c1 ?c2 ?c3)
  case ho => k_is
  case hcd => k_is
  case hb => exact BindsTo.of_eq rfl
  case hl => exact locs rfl
  case hc => decide
  case hr => exact Nat.le_of_ble_eq_true rfl
  case c1 => exact rfl
  case c2 => exact rfl
  case c3 => exact rfl
  intro g L' h₁ tk₁ hkeep hback F' hL' N' hk1 B' X' T'
  clear B F X T
  have Sg : StFix w.params g st sd fl rl (pre ++ [x]) := S.all fun b o _ e => hkeep.all e
  have Fg : FrameFix w.params g x b := hfr.keepI (KeepI.of fun _ _ => hkeep.all)
  have pg : Paired (IsRegW w.params g) vs ws := pmono (fun _ _ q => q.keepI (KeepI.of fun _ _ => hkeep.all)) pr
  clear S hfr pr
  replace e6 := hkeep.all e6
  replace er := hkeep.all er
  obtain ⟨e1, ⟨t0, t1, t2, t3, e2⟩, n, e3⟩ := id Sg
  (try dsimp only)
  (try k_fold)
  k_steps
  · (refine raise_leave (s := s) hkeep hback B' (by assumption) (by assumption) (by assumption) (by assumption) (by assumption) (by assumption) hL' rfl rfl rfl (fun h'' th => herr _ _ _ _ _ ?_ th))
    exact ⟨rfl, exitBad_room (by assumption) (by omega)⟩
  · exact hret _ _ _ (keep_end hkeep (by assumption)) ⟨rfl, exitBad_none (by assumption) (by omega)⟩
  · (refine' pass_leave (s := s) (M1 := []) hkeep hback B' ?zF hL' rfl rfl ?zM ?zx ?zQ; (case zx => assumption); (case zF => assumption); (case zM => exact fun a ha => nomatch ha); (case zQ => exact fun h'' th => herr _ _ _ _ _ ⟨And.left (by assumption), exitBad_some (And.right (by assumption))⟩ th))
 case qh0 => (try delta id oq1 oq2); exact fun h => h

end
end
section
theorem kg54 : True := trivial
theorem pregs_base {P : Params} {g h : Heap} {L : Addr} {m : Str → Option Value} {vs : List Value} {ws : List W} (F : Fr g L h m) (p : Paired (IsRegW P g) vs ws) : Paired (IsRegW P h) vs ws := pmono (fun _ _ q => q.keepI (KeepI.of F.keep)) p
section
variable {w : World} {p : Program} {loose : List Str} {mean : ExcName → Option Value} {mg mb : Str → Option Value}

theorem kg55 : True := by
  k_with "Z55K_k_room" => (exact Nat.le_of_ble_eq_true rfl)
  k_with "Z55K_k_inst" => (case' zzhy => (refine' inst_base ?zzF ?zzh1 ?zzh2; (case zzF => k_asm); (case zzh1 => assumption); (case zzh2 => assumption)))
  k_with "Z55K_k_all" => (exact allLt_ne (by first | assumption | exact And.right (by assumption) | exact And.right (And.right (by assumption)) | exact And.right (And.right (And.right (by assumption)))))
  k_with "Z55K_k_all" => (assumption)
  k_with "Z55K_k_mem" => (assumption)
  k_with "Z55exec Raise some none" => (k_here; case' zzhy => (k_dflt (refine' ex_raise ?zzkX rfl ?_; (case zzkX => k_asm))))
  k_with "Z55call ref" => (k_here; (with_reducible show wpAny _ _ (call (Value.ref 59) _) _ _ _); case' zzhy => (k_dflt ( (refine' call_eq (f' := Value.ref 59) (vs' := [Value.str _ _, Value.int _ _]) ?zzca ?zzcb ?_; (case zzca => exact rfl); (case zzcb => exact rfl)); (refine' refusal_call ?zzuB ?zzuF ?zzuX ?zzuT ?zzuA ?zzuf ?zzuk ?zzuh ?zzud ?zzuu ?_; (case zzuB => k_asm); (case zzuF => k_asm); (case zzuX => k_asm); (case zzuT => k_asm); (case zzuA => exact rfl); (case zzuf => exact rfl); (case zzuk => exact rfl); (case zzuh => exact rfl); (case zzud => exact Nat.le_of_ble_eq_true rfl); (case zzuu => exact Nat.le_of_ble_eq_true rfl); k_whole); (intro zze' zzd' zzt1' zzh' zztk' zze0 zzd0 zzkk zzee zzss zzF'); (refine (fun zzN' => ?_) (newsKeep (M := []) (by assumption) (fun _ _ => List.not_mem_nil) (Keep.of [] zzkk))))))
  k_with "Z55call builtin:len" => (k_here; (with_reducible show wpAny _ _ (call (Value.builtin "len") [Value.ref _]) _ _ _); case' zzhy => (k_dflt (refine' len_symK ?zzk1 ?zzk2 ?zzk3 ?_; (case zzk1 => exact listOf_base (by k_asm) (by assumption)); (case zzk2 => assumption); (case zzk3 => omega); k_whole)))
  trivial
theorem depth_sp {s : Shared} {st sd fl rl : Addr} {xs : List FA} {N : Nat} (S : StFix w.params s.heap st sd fl rl xs) (hN : (xs.map fun x => Value.ref x.fr).length = N) (hx : N ≤ 50) : Sp w p loose mean mg mb 28 538 [.ref st] [] s (fun v h => ∃ t, v = .int ((N : Int) - 1) t) := by
 refine no_implicit_lambda% ((?qf0 : @Wit ?qp0 ?qe0 → ?qp0) (wit2 ?q00 ?qh0))
 case qf0 => exact fun _ => ?qe0
 case q00 =>
  intro A₀ base h₀ env outer L m R B F X T hf hke hM hret
  k_dflt (refine' enter (H := []) (news := []) (binds := [(Str.ofString "self", .ref st)]) B F X T hf hke (fun a ha => nomatch ha) (fun q hq => nomatch hq) ?ho ?hcd ?hb ?hl ?_ ?hc ?hr ?c1 ?c2 ?c3)
  case ho => k_is
  case hcd => k_is
  case hb => exact BindsTo.of_eq rfl
  case hl => exact locs rfl
  case hc => decide
  case hr => exact Nat.le_of_ble_eq_true rfl
  case c1 => exact rfl
  case c2 => exact rfl
  case c3 => exact rfl
  intro g L' h₁ tk₁ hkeep hback F' hL' N' hk1 B' X' T'
  clear B F X T
  have Sg : StFix w.params g st sd fl rl xs := S.all fun b o _ e => hkeep.all e
  clear S
  obtain ⟨e1, ⟨t0, t1, t2, t3, e2⟩, n, e3⟩ := id Sg
  (try dsimp only)
  (try k_fold)
  k_steps
  all_goals (try dsimp only)
  exact hret _ _ _ (keep_end hkeep (by assumption)) ⟨_, rfl⟩
 case qh0 => (try delta id oq1 oq2); exact fun h => h

theorem kx4 : True := by
  k_with "Z55call ref" => (k_here; (with_reducible show wpAny _ _ (call (Value.ref 686) _) _ _ _); case' zzhy => (k_dflt ( (refine' call_eq (f' := Value.ref 686) (vs' := [Value.ref _, Value.int _ _]) ?zzca ?zzcb ?_; (case zzca => exact rfl); (case zzcb => exact rfl)); (refine' use_spe (exit_sp ?zzp0 ?zzp1 ?zzp2 ?zzp3 ?zzp4 ?zzp5 ?zzp6 ?zzp7) ?zzuB ?zzuF ?zzuX ?zzuT ?zzuA ?zzuf ?zzuk ?zzuh ?zzud ?zzuu ?zzuM ?zzuQ ?zzuE; (case zzp0 => exact stfix_base (by k_asm) (by assumption)); (case zzp1 => exact fix_base (by k_asm) (by assumption)); (case zzp2 => exact Fr.keep (by k_asm) _ _ (by assumption)); (case zzp3 => exact pregs_base (by k_asm) (by assumption)); (case zzp4 => assumption); (case zzp5 => exact Fr.keep (by k_asm) _ _ (by assumption)); (case zzp6 => assumption); (case zzp7 => assumption); (case zzuB => k_asm); (case zzuF => k_asm); (case zzuX => k_asm); (case zzuT => k_asm); (case zzuA => exact rfl); (case zzuf => exact rfl); (case zzuk => exact rfl); (case zzuh => exact rfl); (case zzud => exact Nat.le_of_ble_eq_true rfl); (case zzuu => exact Nat.le_of_ble_eq_true rfl); (case zzuM => exact fun zza zzha => nomatch zzha)); (case' zzuE => intro zze' zzwhat' zzpl' zzh' zztk' zzer' zzth'); (case' zzuQ => intro zzv' zzh' zztk' zzK' zzF' zzP'; (obtain ⟨zze', zzb'⟩ := zzP'); subst zze'; (refine (fun zzN' => ?_) (newsKeep (M := []) (by assumption) (fun _ _ => List.not_mem_nil) zzK')); (try dsimp only)))))
  trivial
theorem leave1_sp {s : Shared} {st sd fl rl : Addr} {x : FA} {b : Int} {vs : List Value} {n' : Nat} {ws : List W} {rs : List Value} {nr k : Nat} {pl : Int} {tp : Tok} (S : StFix w.params s.heap st sd fl rl ([] ++ [x])) (hfr : FrameFix w.params s.heap x b) (e6 : s.heap.get? x.R = some (listOf vs.toArray n'))
    (pr : Paired (IsRegW w.params s.heap) vs ws) (hlen : vs.length = 11) (er : s.heap.get? rl = some (listOf rs.toArray nr)) (hrl : rs.length = k) (hk : k ≤ 100) :
    SpE w p loose mean mg mb 10 693 [.ref st, .int pl tp] [] s (fun v h => v = .none ∧ exitBad (ws.getD 0 .none) k = none) (fun what q => q = pl ∧ exitBad (ws.getD 0 .none) k = some what) := by
 refine no_implicit_lambda% ((?qf0 : @Wit ?qp0 ?qe0 → ?qp0) (wit2 ?q00 ?qh0))
 case qf0 => exact fun _ => ?qe0
 case q00 =>
  intro A₀ base h₀ env outer L m R B F X T hf hke hM hret herr
  k_dflt (refine' enter (H := []) (news := []) (binds := [(Str.ofString "state", .ref st), (Str.ofString "at", .int pl tp)]) B F X T hf hke (fun a ha => nomatch ha) (fun q hq => nomatch hq) ?ho ?hcd ?hb ?hl ?_ ?hc ?hr ?c1 ?c2 ?c3)
  case ho => k_is
  case hcd => k_is
  case hb => exact BindsTo.of_eq rfl
  case hl => exact locs rfl
  case hc => decide
  case hr => exact Nat.le_of_ble_eq_true rfl
  case c1 => exact rfl
  case c2 => exact rfl
  case c3 => exact rfl
  intro g L' h₁ tk₁ hkeep hback F' hL' N' hk1 B' X' T'
  clear B F X T
  have Sg : StFix w.params g st sd fl rl ([] ++ [x]) := S.all fun b o _ e => hkeep.all e
  have Fg : FrameFix w.params g x b := hfr.keepI (KeepI.of fun _ _ => hkeep.all)
  have pg : Paired (IsRegW w.params g) vs ws := pmono (fun _ _ q => q.keepI (KeepI.of fun _ _ => hkeep.all)) pr
  clear S hfr pr
  replace e6 := hkeep.all e6
  replace er := hkeep.all er
  have hN : ((([] : List FA) ++ [x]).map fun x => Value.ref x.fr).length = 1 := rfl
  obtain ⟨e1, ⟨t0, t1, t2, t3, e2⟩, n, e3⟩ := id Sg
  (try dsimp only)
  (try k_fold)
  k_steps
  · (try dsimp only)
    exact hret _ _ _ (keep_end hkeep (by assumption)) ⟨rfl, by assumption⟩
  · (refine' pass_leave (s := s) (M1 := []) hkeep hback B' ?zF hL' rfl rfl ?zM ?zx ?zQ; (case zx => assumption); (case zF => assumption); (case zM => exact fun a ha => nomatch ha); (case zQ => exact fun h'' th => herr _ _ _ _ _ (by assumption) th))
 case qh0 => (try delta id oq1 oq2); exact fun h => h

end
end
section
theorem kg56 : True := trivial
def FrameB (w : World) (g : Heap) (R : Addr) (x : FA) (f : AF) : Prop := FrameAt w g x f
theorem frames_after {w : World} {g h : Heap} {L : Addr} {m : Str → Option Value} {pre : List FA} {fpre : List AF} {x : FA} {cs : List (Int × W)} {b : Int} {R : Addr} {vs : List Value} {n : Nat} {ws : List W} (hp : Paired (FrameB w g R) pre fpre) (hx : FrameFix w.params g x b) (hc : CellsAt w g x.C cs) (F : Fr g L h m) (e : h.get? x.R = some (listOf vs.toArray n)) (p : Paired (IsRegW w.params h) vs ws) :
    Paired (FrameAt w h) (pre ++ [x]) (fpre ++ [⟨ws, cs, b⟩]) :=
  papp (pmono (fun _ _ q => FrameAt.keep (show FrameAt w g _ _ from q) (KeepI.of F.keep) (fun _ => F.keep _ _) (fun _ => F.keep _ _)) hp) (.cons ⟨hx.keepI (KeepI.of F.keep), ⟨vs, n, e, p⟩, hc.keep (KeepI.of F.keep) fun _ => F.keep _ _⟩ .nil)
theorem listOf_inj {a b : List Value} {n k : Nat} (h : listOf a.toArray n = listOf b.toArray k) : a = b := by
  have := congrArg Obj.data h
  exact (by simpa using this : a = b ∧ n = k).1
theorem fl_ne {P : Params} {h : Heap} {fl R : Addr} {xs : List FA} {x : FA} {vs : List Value} {n n' : Nat} {ws : List W} {b : Int} (e3 : h.get? fl = some (listOf (xs.map fun x => Value.ref x.fr).toArray n)) (hx : x ∈ xs) (hfx : FrameFix P h x b) (e6 : h.get? R = some (listOf vs.toArray n')) (pr : Paired (IsRegW P h) vs ws) : fl ≠ R := by
 refine no_implicit_lambda% ((?qf0 : @Wit ?qp0 ?qe0 → ?qp0) (wit2 ?q00 ?qh0))
 case qf0 => exact fun _ => ?qe0
 case q00 =>
  intro z
  subst z
  rw [e3] at e6
  have e := listOf_inj (Option.some.inj e6)
  have hm : Value.ref x.fr ∈ vs := by rw [← e]; exact List.mem_map_of_mem (f := fun x : FA => Value.ref x.fr) hx
  obtain ⟨i, hi, ei⟩ := List.mem_iff_getElem.mp hm
  obtain ⟨y, _, a, ea, r, ⟨⟨d, _, _, _, _, _, _, _, _, _, _, _, _, _, _, _, _, g1, _⟩⟩, _⟩ := pget pr i _ (List.getElem?_eq_getElem hi)
  rw [ei] at ea
  cases ea
  obtain ⟨d', _, _, _, _, g2, _⟩ := hfx
  rw [g1] at g2
  cases g2
 case qh0 => (try delta id oq1 oq2); exact fun h => h

def IsStD (P : Params) (h : Heap) (sd : Addr) : Prop := ∃ t0 t1 t2 v0 v1 v2, h.get? sd = some (dictOf [ent P "frames" t0 v0, ent P "next_number" t1 v1, ent P "rooms" t2 v2] 3)
theorem IsStD.imm {P : Params} {h : Heap} {sd : Addr} (x : IsStD P h sd) : ∀ o, h.get? sd = some o → isImm o = false := by
 refine no_implicit_lambda% ((?qf0 : @Wit ?qp0 ?qe0 → ?qp0) (wit2 ?q00 ?qh0))
 case qf0 => exact fun _ => ?qe0
 case q00 =>
  obtain ⟨t0, t1, t2, v0, v1, v2, e⟩ := x
  intro o ho
  rw [e] at ho
  cases ho
  rfl
 case qh0 => (try delta id oq1 oq2); exact fun h => h

theorem IsStD.ne_cells {w : World} {h : Heap} {sd C : Addr} {kxs : List (Int × W)} (x : IsStD w.params h sd) (c : CellsAt w h C kxs) : C ≠ sd := by
 refine no_implicit_lambda% ((?qf0 : @Wit ?qp0 ?qe0 → ?qp0) (wit2 ?q00 ?qh0))
 case qf0 => exact fun _ => ?qe0
 case q00 =>
  intro z
  subst z
  obtain ⟨t0, t1, t2, v0, v1, v2, e⟩ := x
  obtain ⟨_, kvs, ⟨o, es, ep, ho, _, hd, hk, _⟩, _⟩ := c
  rw [e] at ho
  cases ho
  cases hd
  obtain ⟨k, hk, _⟩ := hk (ent w.params "frames" t0 v0) (by simp)
  obtain ⟨t, ht⟩ := Value.isInt_shape (show Value.isInt k (ent w.params "frames" t0 v0).key = true from hk)
  cases ht
 case qh0 => (try delta id oq1 oq2); exact fun h => h

theorem IsStD.ne_imm {P : Params} {h : Heap} {sd a : Addr} {o : Obj} (x : IsStD P h sd) (e : h.get? a = some o) (i : isImm o = true) : a ≠ sd := by
  intro z
  subst z
  rw [x.imm o e] at i
  cases i
theorem list_ne_imm {h : Heap} {R a : Addr} {o : Obj} {vs : List Value} {n : Nat} (e6 : h.get? R = some (listOf vs.toArray n)) (e : h.get? a = some o) (i : isImm o = true) : a ≠ R := by
  intro z
  subst z
  rw [e6] at e
  cases e
  cases i
theorem cells_ne_list {w : World} {h : Heap} {R C : Addr} {kxs : List (Int × W)} {vs : List Value} {n : Nat} (e6 : h.get? R = some (listOf vs.toArray n)) (c : CellsAt w h C kxs) : C ≠ R := by
 refine no_implicit_lambda% ((?qf0 : @Wit ?qp0 ?qe0 → ?qp0) (wit2 ?q00 ?qh0))
 case qf0 => exact fun _ => ?qe0
 case q00 =>
  intro z
  subst z
  obtain ⟨_, kvs, ⟨o, es, ep, ho, hc, _⟩, _⟩ := c
  rw [e6] at ho
  cases ho
  exact absurd hc.1 (by simp)
 case qh0 => (try delta id oq1 oq2); exact fun h => h

def lastWs (wx wy : List W) : List W := forgot (wx.set (Int.toNat 0) (wy.getD (Int.toNat 0) .none)) 5
def leftFs (fpre : List AF) (fx fy : AF) : List AF := fpre ++ [⟨lastWs fx.ws fy.ws, fx.cells, fx.back⟩]
theorem hw_after {fpre : List AF} {fx : AF} {ws : List W} {b : Int} (hw : ∀ f ∈ fpre ++ [fx], f.ws.length = 11 ∧ f.cells.length ≤ 20) (hl : ws.length = 11) : ∀ f ∈ fpre ++ [(⟨ws, fx.cells, b⟩ : AF)], f.ws.length = 11 ∧ f.cells.length ≤ 20 := by
  intro f hf
  rcases List.mem_append.mp hf with hf | hf
  · exact hw f (List.mem_append.mpr (.inl hf))
  · rcases List.mem_singleton.mp hf with rfl
    exact ⟨hl, (hw fx (by simp)).2⟩
theorem retail {g h : Heap} {L : Addr} {m : Str → Option Value} {es : List (Addr × Obj)} (F : Fr g L h m) (hr : ∀ x ∈ rare, m x = none) (N : News g L h es) (hx : ∀ q ∈ es, isImm q.2 = false) :
    ∃ tl, News g L h (es ++ tl) ∧ (∀ q ∈ es, ∀ p ∈ tl, p.1 ≠ q.1) ∧ ∀ h2, News g L h2 tl → (∀ b o, g.get? b = some o → h2.get? b = some o) → KeepI h h2 := by
 refine no_implicit_lambda% ((?qf0 : @Wit ?qp0 ?qe0 → ?qp0) (wit2 ?q00 ?qh0))
 case qf0 => exact fun _ => ?qe0
 case q00 =>
  refine ⟨fullBut g L h (es.map (·.1)), newsFull _ N, fun q hq p hp => fullBut_ne (List.mem_map_of_mem hq) p hp, fun h2 N2 k b o e i => ?_⟩
  cases z : g.get? b with
  | some o' =>
    have := F.keep _ _ z
    rw [e] at this
    cases this
    exact k _ _ z
  | none =>
    refine (N2 (b, o) (fullBut_mem.mpr ⟨e, z, fun q => ?_, fun q => ?_⟩)).1
    · subst q
      rw [imm_ns F.ns hr o e] at i
      cases i
    · obtain ⟨q0, hq, hqq⟩ := List.mem_map.mp q
      have e2 := (N q0 hq).1
      rw [hqq] at e2
      have e3 : h.get? b = some o := e
      rw [e2] at e3
      cases e3
      rw [hx q0 hq] at i
      cases i
 case qh0 => (try delta id oq1 oq2); exact fun h => h

theorem pmono_mem {α β : Type} {F G : α → β → Prop} : ∀ {l₁ : List α} {l₂ : List β}, (∀ a b, a ∈ l₁ → F a b → G a b) → Paired F l₁ l₂ → Paired G l₁ l₂ := by
  intro l₁ l₂ k p
  induction p with
  | nil => exact .nil
  | cons h t ih => exact .cons (k _ _ (.head _) h) (ih fun a b ha => k a b (.tail _ ha))
theorem pset_put {P : Params} {g h : Heap} {L : Addr} {m : Str → Option Value} {vs : List Value} {ws : List W} {a : Addr} {y : W} {i : Nat} (F : Fr g L h m) (p : Paired (IsRegW P g) vs ws) (r : RegW P g a y) : Paired (IsRegW P h) (vs.set i (.ref a)) (ws.set i y) := pset ⟨a, rfl, r.keepI (KeepI.of F.keep)⟩ i (pregs_base F p)
theorem stfix_nn {P : Params} {g h : Heap} {L st sd fl rl : Addr} {m : Str → Option Value} {xs : List FA} {news : List (Addr × Obj)} {t0 t1 t2 t : Tok} {n : Nat} (F : Fr g L h m) (N : News g L h news) (e1 : g.get? st = some (instObj 581 sd))
    (m2 : (sd, dictOf [ent P "frames" t0 (.ref fl), ent P "next_number" t1 (.int 9 t), ent P "rooms" t2 (.ref rl)] 3) ∈ news) (m3 : (fl, listOf (xs.map fun x => Value.ref x.fr).toArray n) ∈ news) : StFix P h st sd fl rl xs :=
  ⟨F.keep _ _ e1, ⟨t0, t1, t2, t, (N _ m2).1⟩, ⟨n, (N _ m3).1⟩⟩
section
variable {w : World} {p : Program} {loose : List Str} {mean : ExcName → Option Value} {mg mb : Str → Option Value}
theorem kg57 : True := by
  k_with "Z57K_k_room" => (exact Nat.le_of_ble_eq_true rfl)
  k_with "Z57K_k_inst" => (case' zzhy => (refine' inst_base ?zzF ?zzh1 ?zzh2; (case zzF => k_asm); (case zzh1 => assumption); (case zzh2 => assumption)))
  k_with "Z57K_k_all" => (exact allLt_ne (by first | assumption | exact And.right (by assumption) | exact And.right (And.right (by assumption)) | exact And.right (And.right (And.right (by assumption)))))
  k_with "Z57K_k_all" => (assumption)
  k_with "Z57K_k_mem" => (assumption)
  k_with "Z57exec Raise some none" => (k_here; case' zzhy => (k_dflt (refine' ex_raise ?zzkX rfl ?_; (case zzkX => k_asm))))
  k_with "Z57call ref" => (k_here; (with_reducible show wpAny _ _ (call (Value.ref 59) _) _ _ _); case' zzhy => (k_dflt ( (refine' call_eq (f' := Value.ref 59) (vs' := [Value.str _ _, Value.int _ _]) ?zzca ?zzcb ?_; (case zzca => exact rfl); (case zzcb => exact rfl)); (refine' refusal_call ?zzuB ?zzuF ?zzuX ?zzuT ?zzuA ?zzuf ?zzuk ?zzuh ?zzud ?zzuu ?_; (case zzuB => k_asm); (case zzuF => k_asm); (case zzuX => k_asm); (case zzuT => k_asm); (case zzuA => exact rfl); (case zzuf => exact rfl); (case zzuk => exact rfl); (case zzuh => exact rfl); (case zzud => exact Nat.le_of_ble_eq_true rfl); (case zzuu => exact Nat.le_of_ble_eq_true rfl); k_whole); (intro zze' zzd' zzt1' zzh' zztk' zze0 zzd0 zzkk zzee zzss zzF'); (refine (fun zzN' => ?_) (newsKeep (M := []) (by assumption) (fun _ _ => List.not_mem_nil) (Keep.of [] zzkk))))))
  k_with "Z57call builtin:len" => (k_here; (with_reducible show wpAny _ _ (call (Value.builtin "len") [Value.ref _]) _ _ _); case' zzhy => (k_dflt (refine' len_symK ?zzk1 ?zzk2 ?zzk3 ?_; (case zzk1 => exact listOf_base (by k_asm) (by assumption)); (case zzk2 => assumption); (case zzk3 => omega); k_whole)))
  k_with "Z57exec For Name Call cons nil" => (k_here; case' zzhy => ((rename Fr _ _ _ _ => zzlF'); (with_unfolding_all refine' For_invVF zzlF' ?zzk1 ?zzk2 ?_; (case zzk1 => exact rfl); (case zzk2 => exact rfl); k_whole)))
  k_with "Z57exec For Name Name cons nil" => (k_here; case' zzhy => ((rename Fr _ _ _ _ => zzlF'); (with_unfolding_all refine' For_invVF zzlF' ?zzk1 ?zzk2 ?_; (case zzk1 => exact rfl); (case zzk2 => exact rfl); k_whole)))
  k_with "Z57exec For Name Attribute cons nil" => (k_here; case' zzhy => ((rename Fr _ _ _ _ => zzlF'); (with_unfolding_all refine' For_invVF zzlF' ?zzk1 ?zzk2 ?_; (case zzk1 => exact rfl); (case zzk2 => exact rfl); k_whole)))
  k_with "Z57exec For Name Subscript cons nil" => (k_here; case' zzhy => ((rename Fr _ _ _ _ => zzlF'); (with_unfolding_all refine' For_invVF zzlF' ?zzk1 ?zzk2 ?_; (case zzk1 => exact rfl); (case zzk2 => exact rfl); k_whole)))
  k_with "Z57exec For Name BinOp cons nil" => (k_here; case' zzhy => ((rename Fr _ _ _ _ => zzlF'); (with_unfolding_all refine' For_invVF zzlF' ?zzk1 ?zzk2 ?_; (case zzk1 => exact rfl); (case zzk2 => exact rfl); k_whole)))
  k_with "Z57pyIter ref" => (refine Stop.out ?_)
  k_with "Z57call type:range" => (k_here; case' zzhy => (k_dflt (first | ((with_reducible show wpAny _ _ (call _ [Value.int _ _]) _ _ _); refine' range1_rows ?zzzF ?zzzN ?_; (case zzzF => k_asm); (case zzzN => k_asm); k_whole) | ((with_reducible show wpAny _ _ (call _ [Value.int _ _, Value.int _ _]) _ _ _); refine' range2_rows ?zzzF ?zzzN ?_; (case zzzF => k_asm); (case zzzN => k_asm); k_whole)); intro zzh' zztk' zzt1' zzu1' zzv1' zzR' zzF' zzN' zzk'))
  k_with "Z57LOOK" => ((try dsimp only); first | assumption | exact if_pos rfl | (refine (if_neg (by decide)).trans ?_; walk_at "LOOK") | exact rfl)
  k_with "Z57eval Name" => (k_here; case' zzhy => (k_dflt (refine' nameX_L ?zzzF ?zzzv ?_ ?zzza ?zzzb ?zzzc; (case zzza => exact rfl); (case zzzb => exact rfl); (case zzzc => decide); (case zzzF => k_asm); (case zzzv => walk_at "LOOK"); k_whole)))
  k_with "Z57K_k_inst" => (case' zzhy => (refine' inst_mix ?zzF ?zzN ?zzh1 ?zzh2; (case zzF => k_asm); (case zzN => k_asm); (case zzh1 => assumption); (case zzh2 => k_mem)))
  k_with "Z57subscriptTail Name Slice ref ref" => (k_here; (with_reducible show wpAny _ _ (subscriptTail _ (PySem.Expr.Slice _ _ none _) (Value.ref _) (Value.ref _)) _ _ _); case' zzhy => (k_dflt (refine' slice_symK ?zzzF ?zzzN ?zzzl ?zzzp ?zzzq ?zzze ?zzzz ?_ ?zzzs ?zzzt; (case zzzF => k_asm); (case zzzN => k_asm); (case zzzl => walk_at "ISLIST"); (case zzzp => kmk_part); (case zzzq => kmk_part); (case zzze => first | exact pick_last | exact pick_from); (case zzzs => with_unfolding_all rfl); (case zzzt => kmk_pure); (case zzzz => (simp only [List.length_map, List.length_append, List.length_cons, List.length_nil]; omega)); k_whole); intro zzD' zzh' zzF' zzN' zzl1'; k_lt zzl1'))
  k_with "Z57ISLIST" => (first | exact listOf_base (by k_asm) (by assumption) | exact list_news (by k_asm) (by k_mem))
  k_with "Z57ite" => (k_here; k_openite; first | (refine ite_pos (by first | omega | (simp only [beq_iff_eq, bne_iff_ne, decide_eq_true_eq, ne_eq]; omega)) ?_) | (refine ite_neg (by first | omega | (simp only [beq_iff_eq, bne_iff_ne, decide_eq_true_eq, ne_eq]; omega)) ?_))
  k_with "Z57call ref" => (k_here; (with_reducible show wpAny _ _ (call (Value.ref 545) _) _ _ _); case' zzhy => (k_dflt ( (refine' call_eq (f' := Value.ref 545) (vs' := [Value.ref _, Value.int _ _]) ?zzca ?zzcb ?_; (case zzca => exact rfl); (case zzcb => exact rfl)); (refine' use_sp (reg_sp ?zzp0 ?zzp1 ?zzp2 ?zzp3 ?zzp4 ?zzp5) ?zzuB ?zzuF ?zzuX ?zzuT ?zzuA ?zzuf ?zzuk ?zzuh ?zzud ?zzuu ?zzuM ?_; (case zzp0 => first | exact stfix_nn (by k_asm) (by k_asm) (by assumption) (by k_mem) (by k_mem) | exact stfix_news (by k_asm) (by k_asm) (by assumption) (by k_mem) (by assumption)); (case zzp1 => exact fix_base (by k_asm) (by assumption)); (case zzp2 => exact Fr.keep (by k_asm) _ _ (by assumption)); (case zzp3 => omega); (case zzp4 => omega); (case zzp5 => omega); (case zzuB => k_asm); (case zzuF => k_asm); (case zzuX => k_asm); (case zzuT => k_asm); (case zzuA => exact rfl); (case zzuf => exact rfl); (case zzuk => exact rfl); (case zzuh => exact rfl); (case zzud => exact Nat.le_of_ble_eq_true rfl); (case zzuu => exact Nat.le_of_ble_eq_true rfl); (case zzuM => exact fun zza zzha => nomatch zzha); k_whole); (intro zzv' zzh' zztk' zzK' zzF' zzP'); (obtain ⟨zza', zzea', zzrw'⟩ := pgetD (by assumption) zzP'); subst zzea'; (refine (fun zzN' => ?_) (newsKeep (M := []) (by assumption) (fun _ _ => List.not_mem_nil) zzK')); (try dsimp only))))
  k_with "Z57call ref" => (k_here; (with_reducible show wpAny _ _ (call (Value.ref 538) _) _ _ _); case' zzhy => (k_dflt ( (refine' call_eq (f' := Value.ref 538) (vs' := [Value.ref _]) ?zzca ?zzcb ?_; (case zzca => exact rfl); (case zzcb => exact rfl)); (refine' use_sp (depth_sp ?zzp0 ?zzp1 ?zzp2) ?zzuB ?zzuF ?zzuX ?zzuT ?zzuA ?zzuf ?zzuk ?zzuh ?zzud ?zzuu ?zzuM ?_; (case zzp0 => first | exact stfix_nn (by k_asm) (by k_asm) (by assumption) (by k_mem) (by k_mem) | exact stfix_news (by k_asm) (by k_asm) (by assumption) (by k_mem) (by assumption)); (case zzp1 => assumption); (case zzp2 => omega); (case zzuB => k_asm); (case zzuF => k_asm); (case zzuX => k_asm); (case zzuT => k_asm); (case zzuA => exact rfl); (case zzuf => exact rfl); (case zzuk => exact rfl); (case zzuh => exact rfl); (case zzud => exact Nat.le_of_ble_eq_true rfl); (case zzuu => exact Nat.le_of_ble_eq_true rfl); (case zzuM => exact fun zza zzha => nomatch zzha); k_whole); (intro zzv' zzh' zztk' zzK' zzF' zzP'); (obtain ⟨zzt', zze'⟩ := zzP'); subst zze'; (refine (fun zzN' => ?_) (newsKeep (M := []) (by assumption) (fun _ _ => List.not_mem_nil) zzK')); (try dsimp only))))
  k_with "Z57call ref" => (k_here; (with_reducible show wpAny _ _ (call (Value.ref 552) _) _ _ _); case' zzhy => (k_dflt ( (refine' call_eq (f' := Value.ref 552) (vs' := [Value.ref _, Value.int _ _, _]) ?zzca ?zzcb ?_; (case zzca => exact rfl); (case zzcb => exact rfl)); (refine' use_sp (put_sp ?zzp0 ?zzp1 ?zzp2 ?zzp3 ?zzp4 ?zzp5 ?zzp6) ?zzuB ?zzuF ?zzuX ?zzuT ?zzuA ?zzuf ?zzuk ?zzuh ?zzud ?zzuu ?zzuM ?_; (case zzp0 => first | exact stfix_nn (by k_asm) (by k_asm) (by assumption) (by k_mem) (by k_mem) | exact stfix_news (by k_asm) (by k_asm) (by assumption) (by k_mem) (by assumption)); (case zzp1 => exact fix_base (by k_asm) (by assumption)); (case zzp2 => exact (News_at (by k_asm) (by k_mem))); (case zzp3 => omega); (case zzp4 => omega); (case zzp5 => omega); (case zzp6 => k_ne); (case zzuB => k_asm); (case zzuF => k_asm); (case zzuX => k_asm); (case zzuT => k_asm); (case zzuA => exact rfl); (case zzuf => exact rfl); (case zzuk => exact rfl); (case zzuh => exact rfl); (case zzud => exact Nat.le_of_ble_eq_true rfl); (case zzuu => exact Nat.le_of_ble_eq_true rfl); (case zzuM => exact newsHid (by k_asm) (by k_mem)); k_whole); (intro zzv' zzh' zztk' zzK' zzF' zzP'); (obtain ⟨zze', zze6'⟩ := zzP'); subst zze'; (refine' (fun zzN' => ?_) (newsUpd ?zzuN ?zzuU zzK' zze6'); (case zzuN => k_asm); (case zzuU => k_upd); (try dsimp only at zzN')); (try dsimp only))))
  k_with "Z57call ref" => (k_here; (with_reducible show wpAny _ _ (call (Value.ref 665) _) _ _ _); case' zzhy => (k_dflt ( (refine' call_eq (f' := Value.ref 665) (vs' := [Value.ref _]) ?zzca ?zzcb ?_; (case zzca => exact rfl); (case zzcb => exact rfl)); (refine' use_sp (forget_sp ?zzp0 ?zzp1 ?zzp2 ?zzp3 ?zzp4 ?zzp5) ?zzuB ?zzuF ?zzuX ?zzuT ?zzuA ?zzuf ?zzuk ?zzuh ?zzud ?zzuu ?zzuM ?_; (case zzp0 => first | exact stfix_nn (by k_asm) (by k_asm) (by assumption) (by k_mem) (by k_mem) | exact stfix_news (by k_asm) (by k_asm) (by assumption) (by k_mem) (by assumption)); (case zzp1 => exact fix_base (by k_asm) (by assumption)); (case zzp2 => exact (News_at (by k_asm) (by k_mem))); (case zzp3 => exact pset_put (by k_asm) (by assumption) (by assumption)); (case zzp4 => (simp only [List.length_set]; omega)); (case zzp5 => k_ne); (case zzuB => k_asm); (case zzuF => k_asm); (case zzuX => k_asm); (case zzuT => k_asm); (case zzuA => exact rfl); (case zzuf => exact rfl); (case zzuk => exact rfl); (case zzuh => exact rfl); (case zzud => exact Nat.le_of_ble_eq_true rfl); (case zzuu => exact Nat.le_of_ble_eq_true rfl); (case zzuM => exact newsHid (by k_asm) (by k_mem)); k_whole); (intro zzv' zzh' zztk' zzK' zzF' zzP'); (obtain ⟨zze', zzvs'', zzn'', zzeR', zzpR'⟩ := zzP'); subst zze'; (have zzhF' := frames_after (by assumption) (by assumption) (by assumption) zzF' zzeR' zzpR'); (refine' (fun zzN' => ?_) (newsUpd ?zzuN ?zzuU zzK' zzeR'); (case zzuN => k_asm); (case zzuU => k_upd); (try dsimp only at zzN')); (try dsimp only))))
  k_with "Z57call ref" => (k_here; (with_reducible show wpAny _ _ (call (Value.ref 571) _) _ _ _); case' zzhy => (k_dflt ( (refine' call_eq (f' := Value.ref 571) (vs' := [Value.ref _]) ?zzca ?zzcb ?_; (case zzca => exact rfl); (case zzcb => exact rfl)); (refine' use_sp (allregs_sp ?zzp0 ?zzp1 ?zzp2 ?zzp3) ?zzuB ?zzuF ?zzuX ?zzuT ?zzuA ?zzuf ?zzuk ?zzuh ?zzud ?zzuu ?zzuM ?_; (case zzp0 => first | exact stfix_nn (by k_asm) (by k_asm) (by assumption) (by k_mem) (by k_mem) | exact stfix_news (by k_asm) (by k_asm) (by assumption) (by k_mem) (by assumption)); (case zzp1 => assumption); (case zzp2 => assumption); (case zzp3 => exact hw_after (by assumption) (by (simp only [forgot, List.length_set]; assumption))); (case zzuB => k_asm); (case zzuF => k_asm); (case zzuX => k_asm); (case zzuT => k_asm); (case zzuA => exact rfl); (case zzuf => exact rfl); (case zzuk => exact rfl); (case zzuh => exact rfl); (case zzud => exact Nat.le_of_ble_eq_true rfl); (case zzuu => exact Nat.le_of_ble_eq_true rfl); (case zzuM => exact fun zza zzha => nomatch zzha); k_whole); (intro zzv' zzh' zztk' zzK' zzF' zzP'); (obtain ⟨zzD', zzvs', zzn', zzws', zze', zzf', zzeD', zzpw', zzlw', zzhw'⟩ := zzP'); subst zze'; (refine (fun zzN' => ?_) (newsFreshes [(zzD', _)] (by assumption) (by assumption) zzK' (List.forall_mem_cons.mpr ⟨⟨zzf', zzeD'⟩, List.forall_mem_nil _⟩))); (obtain ⟨zzN', zzq1'⟩ := zzN'); (simp only [List.cons_append, List.nil_append] at zzN'); (simp only [AllNes, AllNe, and_true] at zzq1'); (try dsimp only))))
  k_with "Z57call ref" => (k_here; (with_reducible show wpAny _ _ (call (Value.ref 679) _) _ _ _); case' zzhy => (k_dflt ( (refine' call_eq (f' := Value.ref 679) (vs' := [Value.ref _, Value.int _ _]) ?zzca ?zzcb ?_; (case zzca => exact rfl); (case zzcb => exact rfl)); (refine' use_sp (points_sp ?zzp0) ?zzuB ?zzuF ?zzuX ?zzuT ?zzuA ?zzuf ?zzuk ?zzuh ?zzud ?zzuu ?zzuM ?_; (case zzp0 => assumption); (case zzuB => k_asm); (case zzuF => k_asm); (case zzuX => k_asm); (case zzuT => k_asm); (case zzuA => exact rfl); (case zzuf => exact rfl); (case zzuk => exact rfl); (case zzuh => exact rfl); (case zzud => exact Nat.le_of_ble_eq_true rfl); (case zzuu => exact Nat.le_of_ble_eq_true rfl); (case zzuM => exact fun zza zzha => nomatch zzha); k_whole); (intro zzv' zzh' zztk' zzK' zzF' zzP'); subst zzP'; (refine (fun zzN' => ?_) (newsKeep (M := []) (by assumption) (fun _ _ => List.not_mem_nil) zzK')); (try dsimp only))))
  trivial
theorem leave2_sp {s : Shared} {st sd fl rl : Addr} {pre : List FA} {x y : FA} {fpre : List AF} {fx fy : AF} {N : Nat} {pl : Int} {tp : Tok} (S : StFix w.params s.heap st sd fl rl (pre ++ [x] ++ [y])) (hpre : Paired (FrameAt w s.heap) pre fpre) (hfx : FrameAt w s.heap x fx) (hfy : FrameAt w s.heap y fy)
    (hR : ∀ z ∈ pre, z.R ≠ x.R) (hyR : y.R ≠ x.R) (hp : pre.length ≤ 10) (hw : ∀ f ∈ fpre ++ [fx], f.ws.length = 11 ∧ f.cells.length ≤ 20) (hwy : fy.ws.length = 11) :
    SpE w p loose mean mg mb 10 693 [.ref st, .int pl tp] [sd, x.R] s (fun v h => v = .ref st ∧ (∀ z ∈ allW (leftFs fpre fx fy), z.pts (((pre.length + 2 : Nat) : Int) - 1) = false) ∧ ∃ D, s.heap.get? D = none ∧ StFix w.params h st sd D rl (pre ++ [x]) ∧ Paired (FrameAt w h) (pre ++ [x]) (leftFs fpre fx fy))
      (fun what q => q = pl ∧ what = "a pointer to a stack that goes" ∧ ∃ z ∈ allW (leftFs fpre fx fy), z.pts (((pre.length + 2 : Nat) : Int) - 1) = true) := by
 refine no_implicit_lambda% ((?qf0 : @Wit ?qp0 ?qe0 → ?qp0) (wit2 ?q00 ?qh0))
 case qf0 => exact fun _ => ?qe0
 case q00 =>
  have hfl1 : fl ≠ x.R := by
    obtain ⟨_, _, n, e3⟩ := S
    obtain ⟨f1, ⟨vs, k, e, p⟩, _⟩ := id hfx
    exact fl_ne e3 (by simp) f1 e p
  obtain ⟨e1, ⟨t0, t1, t2, t3, e2⟩, n, e3⟩ := S
  have hSD : IsStD w.params s.heap sd := (ei6 (e2))
  have hcx := hfx.cells
  obtain ⟨⟨dx, x0, x1, x2, xb, e4, e5⟩, ⟨vsx, nx, e6, prx⟩, -⟩ := hfx
  obtain ⟨⟨dy, y0, y1, y2, yb, e7, e8⟩, ⟨vsy, ny, e9, pry⟩, -⟩ := hfy
  have hwx : fx.ws.length = 11 := (hw fx (by simp)).1
  have hlx := prx.length
  have hly := pry.length
  have hN : ((pre ++ [x] ++ [y]).map fun x => Value.ref x.fr).length = pre.length + 2 := by simp
  have hN' : ((pre ++ [x]).map (fun x => Value.ref x.fr) ++ [Value.ref y.fr]).length = pre.length + 2 := by simp
  have n1 : @Ne Nat sd x.R := ne_get e2 e6 (fun z => absurd (congrArg Obj.cls z) (by simp))
  have o2 : ∀ a, a ≠ sd → a ≠ x.R → a ∉ [sd, x.R] := fun a h1 h2 => by simp [h1, h2]
  have oI : ∀ a o, s.heap.get? a = some o → isImm o = true → a ∉ [sd, x.R] := fun a o e i => o2 a (hSD.ne_imm e i) (list_ne_imm e6 e i)
  intro A₀ base h₀ env outer L m R B F X T hf hke hM hret herr
  k_dflt (refine' enter (H := [sd, x.R]) (news := [(sd, dictOf [ent w.params "frames" t0 (.ref fl), ent w.params "next_number" t1 (.int 9 t3), ent w.params "rooms" t2 (.ref rl)] 3), (x.R, listOf vsx.toArray nx)]) (binds := [(Str.ofString "state", .ref st), (Str.ofString "at", .int pl tp)]) B F X T hf hke (fun a ha => hM a ha) (fun q hq => by rcases List.mem_cons.mp hq with rfl | hq; exact ⟨e2, .head _⟩; rcases List.mem_singleton.mp hq with rfl; exact ⟨e6, .tail _ (.head _)⟩) ?ho ?hcd ?hb ?hl ?_ ?hc ?hr ?c1 ?c2 ?c3)
  case ho => k_is
  case hcd => k_is
  case hb => exact BindsTo.of_eq rfl
  case hl => exact locs rfl
  case hc => decide
  case hr => exact Nat.le_of_ble_eq_true rfl
  case c1 => exact rfl
  case c2 => exact rfl
  case c3 => exact rfl
  intro g L' h₁ tk₁ hkeep hback F' hL' N' hk1 B' X' T'
  clear B F X T

  have kI : KeepI s.heap g := fun a o e i => hkeep _ _ (oI a o e i) e
  have Fy : FrameFix w.params g y fy.back := ⟨dy, y0, y1, y2, yb, kI _ _ e7 rfl, kI _ _ e8 rfl⟩
  have Fx : FrameFix w.params g x fx.back := ⟨dx, x0, x1, x2, xb, kI _ _ e4 rfl, kI _ _ e5 rfl⟩
  have py : Paired (IsRegW w.params g) vsy fy.ws := pmono (fun _ _ q => q.keepI kI) pry
  have px : Paired (IsRegW w.params g) vsx fx.ws := pmono (fun _ _ q => q.keepI kI) prx
  have cx : CellsAt w g x.C fx.cells := hcx.keep kI fun o e => hkeep _ _ (o2 _ (hSD.ne_cells hcx) (cells_ne_list e6 hcx)) e
  have hpg : Paired (FrameB w g x.R) pre fpre := pmono_mem (fun z f hz q => FrameAt.keep (show FrameAt w s.heap z f from q) kI (fun o e => by
    refine hkeep _ _ (o2 _ ?_ (hR z hz)) e
    obtain ⟨vs, k, e', _⟩ := q.regs
    exact ne_get e' e2 fun z => absurd (congrArg Obj.cls z) (by simp)) (fun o e => hkeep _ _ (o2 _ (hSD.ne_cells q.cells) (cells_ne_list e6 q.cells)) e)) hpre
  have hx20 : (pre ++ [x]).length ≤ 20 := by simp; omega
  replace e1 := hkeep _ _ (o2 _ (ne_get e1 e2 fun z => absurd (congrArg Obj.cls z) (by simp)) (ne_get e1 e6 fun z => by cases z)) e1
  replace e9 := hkeep _ _ (o2 _ (ne_get e9 e2 fun z => absurd (congrArg Obj.cls z) (by simp)) hyR) e9
  replace e3 := hkeep _ _ (o2 _ (ne_get e3 e2 fun z => absurd (congrArg Obj.cls z) (by simp)) hfl1) e3
  have e3' : g.get? fl = some (listOf ((pre ++ [x]).map (fun x => Value.ref x.fr) ++ [Value.ref y.fr]).toArray n) := by
    rw [e3, List.map_append (l₂ := [y])]
    rfl
  clear hpre prx pry hcx e2 e4 e5 e6 e7 e8 hSD
  (try dsimp only)
  (try k_fold)
  walk_at "KS0"
  apply Stop.in
  rename_i td _ _ _ _ _ a0 rw0 _ _ _ D1 _ _ _ _ _ _ _ _ _ _ _ h1 _ _ _ vs2 n2 eR2 pR2 hF2 _ h3 tk3 K3 F3 D2 vs3 n3 ws3 f3 eD3 pw3 lw3 hw3 N3 q3
  obtain ⟨tl, N4, off4, hK4⟩ := retail F3 (fun z hz => by
    simp only [rare, List.mem_cons, List.not_mem_nil, or_false] at hz
    rcases hz with rfl | rfl | rfl | rfl | rfl | rfl <;> rfl) N3 (by simp only [List.forall_mem_cons]; exact ⟨rfl, rfl, rfl, rfl, List.forall_mem_nil _⟩)
  have hD1 : D1 ≠ sd ∧ D1 ≠ x.R := ⟨ne_get (News_at N3 (.tail _ (.head _))) (News_at N3 (.tail _ (.tail _ (.head _)))) fun z => absurd (congrArg Obj.cls z) (by simp), by k_ne⟩
  simp only [List.forall_mem_cons] at off4
  obtain ⟨of1, of2, of3, of4, -⟩ := off4
  simp only [List.cons_append, List.nil_append] at N4
  have pw4 : Paired (IsRegW w.params h3) vs3 ws3 := pmono (fun _ _ q => q.keepI (KeepI.of fun _ _ => K3.all)) pw3
  have hps : ∀ i : Nat, i < vs3.length → ∃ a z, vs3[i]? = some (.ref a) ∧ ws3[i]? = some z ∧ RegW w.params h3 a z := fun i hi => by
    obtain ⟨z, e, a, ea, r⟩ := pget pw4 i _ (List.getElem?_eq_getElem hi)
    exact ⟨a, z, by rw [List.getElem?_eq_getElem hi, ea], e, r⟩
  have nD2 : D2 ≠ L' := ne_L' F3 N3 (.head _)
  refine loop_list (l := D2) (ol := listOf vs3.toArray n3) (items := vs3) (fun i m news => (m "state" = some (.ref st) ∧ m "depth" = some (.int (((pre.length + 2 : Nat) : Int) - 1) td) ∧ m "at" = some (.int pl tp)) ∧ (news = (D2, listOf vs3.toArray n3) :: (D1, listOf ((pre ++ [x]).map fun x => Value.ref x.fr).toArray 0) :: (sd, dictOf [ent w.params "frames" t0 (.ref D1), ent w.params "next_number" t1 (.int 9 t3), ent w.params "rooms" t2 (.ref rl)] 3) :: (x.R, listOf vs2.toArray n2) :: tl) ∧ ∀ z ∈ ws3.take i, z.pts (((pre.length + 2 : Nat) : Int) - 1) = false)
    rfl (fun h e => ⟨_, e, rfl, n3, rfl⟩) (fun i m' m'' news' h' hJ F N => by obtain ⟨_, rfl, _⟩ := hJ; exact News_at N (.head _)) nD2 F3 N4 ⟨⟨by walk_at "LOOK", by walk_at "LOOK", by walk_at "LOOK"⟩, rfl, fun z hz => by simp at hz⟩ ?_ ?_
  · intro i v m₁ news₁ I oI h₁ tk₁ hv rq0 hnI F N
    obtain ⟨⟨hm1, hm2, hm3⟩, rfl, hJ⟩ := rq0
    (try dsimp only at F N)
    obtain ⟨a, z, ea, ez, ra⟩ := hps i (List.getElem?_eq_some_iff.mp hv).1
    rw [hv] at ea
    cases ea
    have ra1 : RegW w.params h₁ a z := ra.keepI (hK4 _ (newsSub N fun q hq => .tail _ (.tail _ (.tail _ (.tail _ (.tail _ hq))))) F.keep)
    have hzm : z ∈ allW (leftFs fpre fx fy) := (hw3 z).mp (List.mem_of_getElem? ez)
    walk_at "KS0"
    · (refine raise_leave (s := s) hkeep hback B' (by assumption) (by assumption) (by assumption) (by assumption) (by assumption) (by assumption) hL' rfl rfl rfl (fun h'' th => herr _ _ _ _ _ ?_ th))
      exact ⟨rfl, rfl, z, hzm, by assumption⟩
    · refine (ei4 ⟨rfl, by assumption, by assumption, (by assumption), ⟨by walk_at "LOOK", by walk_at "LOOK", by walk_at "LOOK"⟩, rfl, fun z2 hz2 => ?_⟩)
      rw [List.take_add_one, ez] at hz2
      rcases List.mem_append.mp hz2 with hz2 | hz2
      · exact hJ z2 hz2
      · simp only [Option.toList_some, List.mem_singleton] at hz2
        subst hz2
        assumption
  · intro h' tk m' news' F N rq0
    obtain ⟨⟨hm1, hm2, hm3⟩, rfl, hJ⟩ := rq0
    (try dsimp only at F N)
    walk_at "KS0"
    (try dsimp only)
    have hK := hK4 _ (newsSub N fun q hq => .tail _ (.tail _ (.tail _ (.tail _ hq)))) F.keep
    rw [List.take_of_length_le (by rw [pw4.length]; exact Nat.le_refl _)] at hJ
    exact hret _ _ _ (keep_end hkeep F) ⟨rfl, fun z hz => hJ z ((hw3 z).mpr hz), D1, fresh_of hkeep N (.tail _ (.head _)) (o2 _ hD1.1 hD1.2), ⟨F.keep _ _ e1, ⟨t0, t1, t2, t3, News_at N (.tail _ (.tail _ (.head _)))⟩, ⟨0, News_at N (.tail _ (.head _))⟩⟩, frames_after hpg Fx cx F (News_at N (.tail _ (.tail _ (.tail _ (.head _))))) (pmono (fun _ _ q => (q.keepI (KeepI.of fun _ _ => K3.all)).keepI hK) pR2)⟩
 case qh0 => (try delta id oq1 oq2); exact fun h => h

end
end
section
theorem kg58 : True := trivial

theorem truthyK {w : World} {A : Around} {E : Value → Shared → Prop} {s : Shared} {l : Addr} {rs : List Value} {k : Nat} {Q : Bool → Shared → Prop} (hl : s.heap.IsList l rs.toArray) (hk : rs.length = k) (hk2 : k ≤ 100) (h : Q (decide (0 < k)) { s with toks := s.toks + 1 + 1 }) : wpAny (model Pg w) A (truthy (.ref l)) Q E s := by
  refine wpAny_truthy_list hl (by simp; omega) ?_
  have : (!rs.toArray.isEmpty) = decide (0 < k) := by
    cases rs with
    | nil => subst hk; rfl
    | cons a r => subst hk; simp
  rw [this]
  exact h
theorem end_due0 {s g h : Heap} {L D : Addr} {r : List (Addr × Obj)} {x : W} {k : Nat} {pl : Int} (hk : Keep [] s g) (N : News g L h ((D, tupObj [.none, .none]) :: r)) (e : exitBad x k = none) :
    ∃ T, Value.ref D = .ref T ∧ s.get? T = none ∧ ((exitBad x k = none ∧ h.get? T = some (tupObj [.none, .none])) ∨ ∃ what T2 tw tq, exitBad x k = some what ∧ s.get? T2 = none ∧ h.get? T = some (tupObj [.ref T2, .none]) ∧ h.get? T2 = some (tupObj [.str what tw, .int pl tq])) :=
  ⟨D, rfl, fresh_of hk N (.head _) (by simp), .inl ⟨e, News_at N (.head _)⟩⟩
theorem end_due1 {s g h : Heap} {L D D2 : Addr} {r : List (Addr × Obj)} {x : W} {k : Nat} {pl : Int} {what : Str} {tw tq : Tok} (hk : Keep [] s g) (N : News g L h ((D, tupObj [.ref D2, .none]) :: (D2, tupObj [.str what tw, .int pl tq]) :: r)) (e : exitBad x k = some what) :
    ∃ T, Value.ref D = .ref T ∧ s.get? T = none ∧ ((exitBad x k = none ∧ h.get? T = some (tupObj [.none, .none])) ∨ ∃ what T2 tw tq, exitBad x k = some what ∧ s.get? T2 = none ∧ h.get? T = some (tupObj [.ref T2, .none]) ∧ h.get? T2 = some (tupObj [.str what tw, .int pl tq])) :=
  ⟨D, rfl, fresh_of hk N (.head _) (by simp), .inr ⟨what, D2, tw, tq, e, fresh_of hk N (.tail _ (.head _)) (by simp), News_at N (.head _), News_at N (.tail _ (.head _))⟩⟩
theorem phead {F : Value → W → Prop} : ∀ {vs : List Value} {ws : List W}, Paired F vs ws → 0 < ws.length → ∃ v vr, vs = v :: vr ∧ F v (ws.getD 0 .none) := by
  intro vs ws p h
  cases p with
  | nil => exact absurd h (Nat.lt_irrefl _)
  | cons q _ => exact (ei2 ⟨rfl, q⟩)
section
variable {w : World} {p : Program} {loose : List Str} {mean : ExcName → Option Value} {mg mb : Str → Option Value}

theorem kg59 : True := by
  k_with "Z59truthy ref" => (k_here; case' zzhy => (k_dflt (refine' truthyK ?zzzl ?zzzk ?zzzz ?_; (case zzzl => walk_at "ISLIST"); (case zzzk => assumption); (case zzzz => assumption))))
  k_with "Z59K_k_room" => (exact Nat.le_of_ble_eq_true rfl)
  k_with "Z59K_k_inst" => (case' zzhy => (refine' inst_base ?zzF ?zzh1 ?zzh2; (case zzF => k_asm); (case zzh1 => assumption); (case zzh2 => assumption)))
  k_with "Z59K_k_all" => (exact allLt_ne (by first | assumption | exact And.right (by assumption) | exact And.right (And.right (by assumption)) | exact And.right (And.right (And.right (by assumption)))))
  k_with "Z59K_k_all" => (assumption)
  k_with "Z59K_k_mem" => (assumption)
  k_with "Z59call builtin:len" => (k_here; (with_reducible show wpAny _ _ (call (Value.builtin "len") [Value.ref _]) _ _ _); case' zzhy => (k_dflt (refine' len_symK ?zzk1 ?zzk2 ?zzk3 ?_; (case zzk1 => exact listOf_base (by k_asm) (by assumption)); (case zzk2 => assumption); (case zzk3 => omega); k_whole)))
  k_with "Z59ite" => (k_here; k_openite; first | (refine ite_pos (by first | omega | (simp only [beq_iff_eq, bne_iff_ne, decide_eq_true_eq, ne_eq]; omega)) ?_) | (refine ite_neg (by first | omega | (simp only [beq_iff_eq, bne_iff_ne, decide_eq_true_eq, ne_eq]; omega)) ?_))
  k_with "Z59subscriptTail Name Slice ref ref" => (k_here; (with_reducible show wpAny _ _ (subscriptTail _ (PySem.Expr.Slice _ _ none _) (Value.ref _) (Value.ref _)) _ _ _); case' zzhy => (k_dflt (refine' slice_symK ?zzzF ?zzzN ?zzzl ?zzzp ?zzzq ?zzze ?zzzz ?_ ?zzzs ?zzzt; (case zzzF => k_asm); (case zzzN => k_asm); (case zzzl => walk_at "ISLIST"); (case zzzp => kmk_part); (case zzzq => kmk_part); (case zzze => first | exact pick_last | exact pick_from); (case zzzs => with_unfolding_all rfl); (case zzzt => kmk_pure); (case zzzz => (simp only [List.length_map, List.length_append, List.length_cons, List.length_nil]; omega)); k_whole); intro zzD' zzh' zzF' zzN' zzl1'; k_lt zzl1'))
  k_with "Z59ISLIST" => (first | exact listOf_base (by k_asm) (by assumption) | exact list_news (by k_asm) (by k_mem))
  k_with "Z59subscriptTail" => (k_here; (with_reducible show wpAny _ _ (subscriptTail _ _ (Value.ref _) (Value.int _ _)) _ _ _); case' zzhy => (k_dflt ((refine' item_litK ?zzk1 ?zzk2 ?zzk3 ?zzk4 ?_ ?zzk6; (case zzk1 => walk_at "ISLIST"); (case zzk2 => decide); (case zzk3 => decide); (case zzk4 => rfl); (case zzk6 => with_unfolding_all rfl); k_whole))))
  k_with "Z59subscriptTail" => (k_here; (with_reducible show wpAny _ _ (subscriptTail _ _ (Value.ref _) (Value.int (-1) _)) _ _ _); case' zzhy => (k_dflt ((refine' item_lastK ?zzk1 ?_ ?zzk6; (case zzk1 => walk_at "ISLIST"); (case zzk6 => with_unfolding_all rfl); k_whole))))
  k_with "Z59subscriptTail" => (k_here; (with_reducible show wpAny _ _ (subscriptTail _ _ (Value.ref _) (Value.int _ _)) _ _ _); case' zzhy => (k_dflt (refine' item_tupleT ?zzt ?zza ?zzb ?zzc ?zzd ?_; (case zzt => exact tup_base (by k_asm) (by assumption)); (case zza => decide); (case zzb => decide); (case zzc => rfl); (case zzd => rfl); k_whole)))
  k_with "Z59subscriptTail" => (k_here; (with_reducible show wpAny _ _ (subscriptTail _ _ (Value.ref _) (Value.str _ _)) _ _ _); case' zzhy => (k_dflt (refine' getitem_dictS ?zzzD ?zzzl ?_ ?zzzs; (case zzzD => exact Mine.Heap.DictOf.keepF (by assumption) (Fr.keep (by k_asm))); (case zzzl => rfl); (case zzzs => with_unfolding_all rfl); k_whole)))
  trivial
theorem due1_sp {s : Shared} {ml rm : Addr} {r : MR} {f : AF} {nm nl k : Nat} {rs : List Value} {pl : Int} {tp : Tok} (hr : RowAt w s.heap r f) (em : s.heap.get? ml = some (listOf [Value.ref r.row].toArray nm)) (er : s.heap.get? rm = some (listOf rs.toArray nl)) (hk : rs.length = k) (hk2 : k ≤ 100) (hw : f.ws.length = 11) :
    Sp w p loose mean mg mb 10 740 [.ref ml, .ref rm, .int pl tp] [] s (fun v h => ∃ T, v = .ref T ∧ s.heap.get? T = none ∧ ((exitBad (f.ws.getD 0 .none) k = none ∧ h.get? T = some (tupObj [.none, .none])) ∨ ∃ what T2 tw tq, exitBad (f.ws.getD 0 .none) k = some what ∧ s.heap.get? T2 = none ∧ h.get? T = some (tupObj [.ref T2, .none]) ∧ h.get? T2 = some (tupObj [.str what tw, .int pl tq]))) := by
 refine no_implicit_lambda% ((?qf0 : @Wit ?qp0 ?qe0 → ?qp0) (wit2 ?q00 ?qh0))
 case qf0 => exact fun _ => ?qe0
 case q00 =>
  intro A₀ base h₀ env outer L m R B F X T hf hke hM hret
  k_dflt (refine' enter (H := []) (news := []) (binds := [(Str.ofString "model", .ref ml), (Str.ofString "rooms", .ref rm), (Str.ofString "at", .int pl tp)]) B F X T hf hke (fun a ha => nomatch ha) (fun q hq => nomatch hq) ?ho ?hcd ?hb ?hl ?_ ?hc ?hr ?c1 ?c2 ?c3)
  case ho => k_is
  case hcd => k_is
  case hb => exact BindsTo.of_eq rfl
  case hl => exact locs rfl
  case hc => decide
  case hr => exact Nat.le_of_ble_eq_true rfl
  case c1 => exact rfl
  case c2 => exact rfl
  case c3 => exact rfl
  intro g L' h₁ tk₁ hkeep hback F' hL' N' hk1 B' X' T'
  clear B F X T
  have hg := hr.all hkeep
  replace em := hkeep.all em
  replace er := hkeep.all er
  clear hr
  obtain ⟨⟨tb, hRD⟩, ⟨vsw, nw, e7, pw⟩, -⟩ := hg
  obtain ⟨v0, vr, rfl, hq⟩ := phead pw (by omega)
  have em' : g.get? ml = some (listOf ([] ++ [Value.ref r.row]).toArray nm) := em
  have hl1 : ([Value.ref r.row] : List Value).length = 1 := rfl
  have hl2 : ([] ++ [Value.ref r.row] : List Value).length = 1 := rfl
  generalize f.ws.getD 0 .none = x0 at hq hret ⊢
  obtain ⟨t0, rfl, vs0, e8, hv0⟩ := hq
  cases hv0
  all_goals (
    (try dsimp only)
    (try k_fold)
    k_steps)
  all_goals (refine hret _ _ _ (keep_end hkeep (by assumption)) ?_)
  all_goals first
    | (refine' end_due0 hkeep ?zN ?ze; (case zN => assumption); (case ze => exact exitBad_none rfl (by assumption)))
    | (refine' end_due1 hkeep ?zN ?ze; (case zN => assumption); (case ze => first | exact exitBad_room rfl (by assumption) | exact exitBad_some rfl))
 case qh0 => (try delta id oq1 oq2); exact fun h => h

end
def W.tag : W → Str
  | .num _ => "number"
  | .any => "any"
  | .stack _ _ => "stack"
  | .none => "none"
  | .room _ => "room"
  | .value => "value"
  | .ctx => "context"
theorem item_wordE {prog : Program} {w : World} {A : Around} {E : Value → Shared → Prop} {s : Shared} {t : Addr} {value slice : PySem.Expr} {vs : List Value} {x : W} {u : Tok} {Q : Value → Shared → Prop} (e : s.heap.get? t = some (tupObj vs)) (hv : x.Vals vs) (h : ∀ t', Q (.str x.tag t') s)
    (hs : subscripted slice false (.ref t) (.int 0 u) = operate [.ref t, .int 0 u] (getItem (.ref t) (.int 0 u)) := by with_unfolding_all rfl) :
    wpAny (model prog w) A (subscriptTail value slice (.ref t) (.int 0 u)) Q E s := by
  cases hv <;> exact item_tupleT ⟨_, e, rfl, 0, rfl⟩ (by decide) (by decide) rfl rfl (h _) hs
theorem tag_stack {x : W} : x.tag = "stack" → ∃ f o, x = .stack f o := by
  cases x <;> first
    | exact fun _ => ⟨_, _, rfl⟩
    | exact fun h => absurd h (by simp only [W.tag]; decide)
end
section
theorem kg60 : True := trivial
def Later (g : Heap) (L : Addr) (tl : List (Addr × Obj)) (hF : Heap) : Prop := ∀ h2, News g L h2 tl → (∀ b o, g.get? b = some o → h2.get? b = some o) → ∀ a o, hF.get? a = some o → h2.get? a = some o
theorem Later.at {g h hF : Heap} {L : Addr} {m : Str → Option Value} {news tl : List (Addr × Obj)} (x : Later g L tl hF) (F : Fr g L h m) (N : News g L h news) (s : ∀ q ∈ tl, q ∈ news) : ∀ a o, hF.get? a = some o → h.get? a = some o := x h (newsSub N s) F.keep
theorem later {g h : Heap} {L : Addr} {m : Str → Option Value} {es : List (Addr × Obj)} (F : Fr g L h m) (N : News g L h es) :
    ∃ tl, News g L h (es ++ tl) ∧ (∀ q ∈ es, ∀ p ∈ tl, p.1 ≠ q.1) ∧ Later g L tl (hideAll h (L :: es.map (·.1))) ∧ (∀ b, b ∉ L :: es.map (·.1) → (hideAll h (L :: es.map (·.1))).get? b = h.get? b) ∧ ∀ q : Addr × Obj, h.get? q.1 = some q.2 → g.get? q.1 = none → q.1 ≠ L → q.1 ∉ es.map (·.1) → q ∈ tl := by -- hmem42
  refine ⟨fullBut g L h (es.map (·.1)), newsFull _ N, fun q hq p hp => fullBut_ne (List.mem_map_of_mem hq) p hp, fun h2 N2 k b o e => ?_, fun b hb => ?_, fun q e1 e2 e3 e4 => fullBut_mem.mpr ⟨e1, e2, e3, e4⟩⟩
  · obtain ⟨e1, e2⟩ := hide_some e
    rw [List.mem_cons, not_or] at e2
    cases z : g.get? b with
    | some o' =>
      have := F.keep _ _ z
      rw [e1] at this
      cases this
      exact k _ _ z
    | none => exact (N2 (b, o) (fullBut_mem.mpr ⟨e1, z, e2.1, e2.2⟩)).1
  · cases z : h.get? b with
    | some o => exact hideAll_get _ z hb
    | none =>
      cases y : (hideAll h (L :: es.map (·.1))).get? b with
      | none => rfl
      | some o => have := of_hideAll _ y; rw [z] at this; cases this
theorem list_later {hF h : Heap} {a : Addr} {vs : List Value} {n : Nat} (k : ∀ a o, hF.get? a = some o → h.get? a = some o) (e : hF.get? a = some (listOf (List.toArray vs) n)) : h.IsList a vs.toArray := ⟨_, k _ _ e, rfl, n, rfl⟩
theorem tup_later {hF h : Heap} {t : Addr} {vs : List Value} (k : ∀ a o, hF.get? a = some o → h.get? a = some o) (e : hF.get? t = some (tupObj vs)) : IsTup h t vs.toArray := ⟨_, k _ _ e, rfl, 0, rfl⟩
section
variable {w : World} {A : Around} {E : Value → Shared → Prop} {s : Shared} {g : Heap} {L : Addr} {m : Str → Option Value} {news : List (Addr × Obj)} {d : Addr} {kvs : List (Int × Value)}
theorem getMethod_values {pl : Sem Bool} {Q : Value × List Value → Shared → Prop} (hD : s.heap.DictOf (intKind Pg w) d kvs) (h : Q (.builtin "dict.values", [.ref d]) s) : wpAny (model Pg w) A (getMethod (.ref d) "values" pl) Q E s := by
 refine no_implicit_lambda% ((?qf0 : @Wit ?qp0 ?qe0 → ?qp0) (wit2 ?q00 ?qh0))
 case qf0 => exact fun _ => ?qe0
 case q00 =>
  have hT := hD.typeIs
  obtain ⟨o, es, ep, e1, e2, _⟩ := hD
  exact getMethod_builtin hT PySem.F.plainAttrs_dict PySem.F.slot_dict_values PySem.F.type_dict_values (fun a e => by cases e; exact ⟨_, e1, e2.2.1⟩) h
 case qh0 => (try delta id oq1 oq2); exact fun h => h

theorem call_values {Q : Value → Shared → Prop} (F : Fr g L s.heap m) (N : News g L s.heap news) (lo : (d == sysModules) = false) (hD : s.heap.DictOf (intKind Pg w) d kvs)
    (h : ∀ D h', Fr g L h' m → News g L h' ((D, { cls := .type "dict_values", data := .fields #[.ref d] }) :: news) → (∀ q ∈ news, q.1 < D) → Q (.ref D) { s with heap := h' }) :
    wpAny (model Pg w) A (call (.builtin "dict.values") [.ref d]) Q E s :=
  call_meetsIn PySem.F.slot_dict_values hD.typeIs PySem.F.entry_dict_values (PySem.F.args_dict_values_1 _) (meets_dict_values (intKind Pg w) d lo) ⟨⟨kvs, hD⟩, h _ _ (F.push _) (News.push F N _) fun q hq => Heap.lt_size (N q hq).1⟩
theorem list_values {v : Addr} {Q : Value → Shared → Prop} (F : Fr g L s.heap m) (N : News g L s.heap news) (hh : A.handled = none) (hv : (v, { cls := .type "dict_values", data := .fields #[.ref d] }) ∈ news) (hD : s.heap.DictOf (intKind Pg w) d kvs) (hz : kvs.length ≤ 1000)
    (h : ∀ D c h' tk, Fr g L h' m → News g L h' ((D, listOf (kvs.map (·.2)).toArray c) :: news) → (∀ q ∈ news, q.1 < D) → Q (.ref D) { s with heap := h', toks := tk }) :
    wpAny (model Pg w) A (call (.type "list") [.ref v]) Q E s := by
 refine no_implicit_lambda% ((?qf0 : @Wit ?qp0 ?qe0 → ?qp0) (wit2 ?q00 ?qh0))
 case qf0 => exact fun _ => ?qe0
 case q00 =>
  obtain ⟨ep, hat⟩ := hD.dictAt
  refine kdl_N (kdl_values (knd := intKind Pg w) (kvs := kvs) (ep := ep)) hh F N ⟨⟨_, (N _ hv).1, rfl, rfl⟩, hat⟩ (kdl_size (by omega)) fun D c h' tk vs F' N' l1 hl hv' => ?_
  have e := kdl_vals_eq vs hl hv'
  subst e
  exact h D c h' tk F' N' l1
 case qh0 => (try delta id oq1 oq2); exact fun h => h

end
theorem lsucc {α : Type} {n : Nat} {l : List α} (h : l.length = n + 1) : ∃ a r, l = a :: r ∧ r.length = n := by
  cases l with
  | nil => cases h
  | cons a r => exact ⟨a, r, rfl, Nat.succ.inj h⟩
theorem eleven {α : Type} {l : List α} (h : l.length = 11) : ∃ a0 a1 a2 a3 a4 a5 a6 a7 a8 a9 a10, l = [a0, a1, a2, a3, a4, a5, a6, a7, a8, a9, a10] := by
 refine no_implicit_lambda% ((?qf0 : @Wit ?qp0 ?qe0 → ?qp0) (wit2 ?q00 ?qh0))
 case qf0 => exact fun _ => ?qe0
 case q00 =>
  obtain ⟨a0, l0, e0, h0⟩ := lsucc (n := 10) h
  obtain ⟨a1, l1, e1, h1⟩ := lsucc (n := 9) h0
  obtain ⟨a2, l2, e2, h2⟩ := lsucc (n := 8) h1
  obtain ⟨a3, l3, e3, h3⟩ := lsucc (n := 7) h2
  obtain ⟨a4, l4, e4, h4⟩ := lsucc (n := 6) h3
  obtain ⟨a5, l5, e5, h5⟩ := lsucc (n := 5) h4
  obtain ⟨a6, l6, e6, h6⟩ := lsucc (n := 4) h5
  obtain ⟨a7, l7, e7, h7⟩ := lsucc (n := 3) h6
  obtain ⟨a8, l8, e8, h8⟩ := lsucc (n := 2) h7
  obtain ⟨a9, l9, e9, h9⟩ := lsucc (n := 1) h8
  obtain ⟨a10, l10, e10, h10⟩ := lsucc (n := 0) h9
  have e11 := List.eq_nil_of_length_eq_zero h10
  exact ⟨a0, a1, a2, a3, a4, a5, a6, a7, a8, a9, a10, by rw [e0, e1, e2, e3, e4, e5, e6, e7, e8, e9, e10, e11]⟩
 case qh0 => (try delta id oq1 oq2); exact fun h => h

theorem lastWs_eq {wx wy : List W} (h : wx.length = 11) : lastWs wx wy = [wy.getD 0 .none] ++ [.none, .none, .none, .none, .none] ++ wx.drop 6 := by
  obtain ⟨a0, a1, a2, a3, a4, a5, a6, a7, a8, a9, a10, rfl⟩ := eleven h
  rfl
theorem pdrop {α β : Type} {F : α → β → Prop} : ∀ {l₁ : List α} {l₂ : List β} (k : Nat), Paired F l₁ l₂ → Paired F (l₁.drop k) (l₂.drop k) := by
  intro l₁ l₂ k p
  revert k
  induction p with
  | nil => intro k; cases k <;> exact .nil
  | cons h t ih =>
    intro k
    cases k with
    | zero => exact .cons h t
    | succ k => exact ih k
theorem pvals {h : Heap} : ∀ {kvs : List (Int × Value)} {kxs : List (Int × W)}, Paired (IsSlotW h) kvs kxs → Paired (IsWord h) (kvs.map (·.2)) (kxs.map (·.2)) := by
  intro kvs kxs p
  induction p with
  | nil => exact .nil
  | cons q t ih => exact .cons q.2 ih
theorem due_rows {w : World} {g h : Heap} {L B l1 d D1 R2 D3 D4 D5 l2 Z t0 : Addr} {o1 od o2 o3 o4 o5 o6 : Obj} {r : List (Addr × Obj)} {pre : List MR} {x : MR} {fpre : List AF} {fx fy : AF} {vsx : List Value} {tz tb : Tok} {m : Str → Option Value} (_F : Fr g L h m)
    (N : News g L h ((B, listOf (List.toArray (pre.map (fun r : MR => Value.ref r.row) ++ [Value.ref d])) 0) :: (l1, o1) :: (d, od) :: (D1, o2) :: (R2, listOf (List.toArray ([Value.ref t0] ++ [Value.ref Z, Value.ref Z, Value.ref Z, Value.ref Z, Value.ref Z] ++ vsx.drop 6)) 0) :: (D3, o3) :: (D4, o4) :: (D5, o5) :: (l2, o6) :: (Z, tupObj [.str "none" tz]) :: r))
    (hd : od.IsDictOf (strKind Pg w) [("regs", .ref R2), ("slots", .ref x.SM), ("back", .int fx.back tb)]) (hpg : Paired (RowAt w g) pre fpre) (hSx : SlotsAt w g x.SM fx.cells) (pwx : Paired (IsWord g) vsx fx.ws) (w0 : WordAt g t0 (fy.ws.getD 0 .none)) (hwx : fx.ws.length = 11) :
    ∃ bs : List MR, ∃ es, News g L h ((B, listOf (List.toArray (bs.map (fun r : MR => Value.ref r.row))) 0) :: es) ∧ bs = pre ++ [⟨d, R2, x.SM⟩] ∧ g.get? d = none ∧ g.get? R2 = none ∧ ∀ h2, News g L h2 es → (∀ b o, g.get? b = some o → h2.get? b = some o) → Paired (RowAt w h2) bs (leftFs fpre fx fy) := by
 refine no_implicit_lambda% ((?qf0 : @Wit ?qp0 ?qe0 → ?qp0) (wit2 ?q00 ?qh0))
 case qf0 => exact fun _ => ?qe0
 case q00 =>
  refine ⟨pre ++ [⟨d, R2, x.SM⟩], _, by rw [List.map_append]; exact N, rfl, (N _ (.tail _ (.tail _ (.head _)))).2.2, (N _ (.tail _ (.tail _ (.tail _ (.tail _ (.head _)))))).2.2, fun h2 N2 k => ?_⟩
  have kI := KeepI.of k
  refine papp (pmono (fun _ _ q => q.keep kI (fun o => k _ _) (fun o => k _ _)) hpg) (.cons ⟨⟨tb, Heap.dictOf_iff.mpr ⟨od, (N2 _ (.tail _ (.head _))).1, hd⟩⟩, ⟨_, 0, (N2 _ (.tail _ (.tail _ (.tail _ (.head _))))).1, ?_⟩, hSx.keep kI fun o => k _ _⟩ .nil)
  (try dsimp only)
  rw [lastWs_eq hwx]
  have hz : IsWord h2 (.ref Z) .none := ⟨Z, rfl, _, (N2 _ (.tail _ (.tail _ (.tail _ (.tail _ (.tail _ (.tail _ (.tail _ (.tail _ (.head _)))))))))).1, by constructor⟩
  exact papp (papp (.cons ⟨t0, rfl, w0.keepI kI⟩ .nil) (.cons hz (.cons hz (.cons hz (.cons hz (.cons hz .nil)))))) (pdrop 6 (pmono (fun _ _ q => q.keepI kI) pwx))
 case qh0 => (try delta id oq1 oq2); exact fun h => h
end
section
theorem kg61 : True := trivial
section
variable {prog : Program} {w : World} {p : Program} {loose : List Str} {mean : ExcName → Option Value} {mg mb : Str → Option Value}
  {A₀ : Around} {base h₀ : Heap} {outer : List Env} {L : Addr} {m : Str → Option Value} {env : Env} {s : Shared} {R : Result → Shared → Prop} {n : Nat}
theorem enterC {H : List Addr} {news : List (Addr × Obj)} {name qual : Str} {params : Arguments} {body : List Stmt} {scope : Scope} {dV kV doc pm cdv ct oc : Value} {an od : Option Addr} {osl : Array (Option Value)} {f : Addr} {args : Args} {binds : List (Str × Value)}
    (B : Below A₀ base outer h₀) (F : Fr h₀ L s.heap m) (X : (hd.heap_1 w.params).In h₀) (T : Top p loose mean mg mb h₀) (hf : env.frame = some L) (hke : env.scope.kind = .function)
    (hH : ∀ a ∈ H, h₀.get? a = none ∧ a ≠ L) (hN : ∀ q ∈ news, s.heap.get? q.1 = some q.2 ∧ q.1 ∈ H)
    (ho : (hd.heap_1 w.params).lookup f = some ⟨oc, od, .func (fnX name qual params body scope [] dV kV doc pm an cdv ct), osl⟩) (hcd : codeIn (hd.heap_1 w.params) cdv qual = true)
    (hbind : BindsTo s (fnX name qual params body scope [] dV kV doc pm an cdv ct) args binds)
    (hkind : ∀ n, ∀ x ∈ binds, scope.names.lookup x.1 = some .local ∨ (scope.names.lookup x.1 = some .cell ∧ ((cellsFrom n scope.names []).lookup x.1).isSome = true))
    (hnd : ((cellsFrom 0 scope.names []).map (·.1)).Nodup)
    (h : ∀ g L' h₁ tk cells, Keep H s.heap g → (∀ b o, g.get? b = some o → s.heap.get? b = some o) → (∀ b ∈ H, g.get? b = none) → Fr g L' h₁ (bindL (envOfC qual scope L' f cdv).kindOf binds fun _ => none) → (∀ b, @LE.le Nat _ L' b → s.heap.get? b = none) → News g L' h₁ (cells ++ news) →
      CellsAre (bindC (envOfC qual scope L' f cdv).kindOf binds fun _ => none) (cellsFrom (L' + 1) scope.names []) cells → Keep [] s.heap h₁ → Below (lev n (env :: outer)) base (env :: outer) g → (hd.heap_1 w.params).In g → Top p loose mean mg mb g → (∀ q ∈ news, q.1 < L') →
      wpAny (model prog w) (dA n env outer (envOfC qual scope L' f cdv)) (execs body (envOfC qual scope L' f cdv)) (dQ R) (dE (model prog w) (dA n env outer (envOfC qual scope L' f cdv)) (envOfC qual scope L' f cdv) R)
        { s with heap := h₁, toks := tk })
    (hroom : (lev n (env :: outer)).depth < recursionLimit)
    (hco : scope.isCoroutine = false := by rfl) (hgen : scope.isGenerator = false := by rfl) (hk : scope.kind = .function := by rfl) : codeAny (model prog w) (lev n (env :: outer)) (.call (.ref f) args) R s := by
 refine no_implicit_lambda% ((?qf0 : @Wit ?qp0 ?qe0 → ?qp0) (wit2 ?q00 ?qh0))
 case qf0 => exact fun _ => ?qe0
 case q00 =>
  obtain ⟨FG, BG, st⟩ := ground_hide (A := lev n (env :: outer)) B F hf hke hH rfl
  refine codeAny_call_function (fd := fnX name qual params body scope [] dV kV doc pm an cdv ct) hroom (F.keep _ _ (X _ _ ho)) rfl hco hgen rfl (codeRec_of (X.keeps F.keep) hcd) (hbind _ _ _ _ ?_)
  refine wpAny_newFunctionEnv_cells hk (hkind _) fun env' he s' x => ?_
  subst he
  refine ⟨((T.nolimit).keeps F.keep).keeps x.toInCall.keep, codeAny_func ?_⟩
  obtain ⟨h₁, tk, rfl, _⟩ := x.done
  have hk₁ := x.toInCall.keep
  obtain ⟨cells, NC, Y⟩ := Cl.news (h₀ := s.heap) (Nat.le_refl _) fun n c hm => ⟨x.cell n c (lookup_of_mem_nodup (cellsFrom_names scope.names 0 (s.heap.objs.size + 1) [] [] rfl ▸ hnd) hm), x.above n c hm⟩
  refine h _ s.heap.objs.size h₁ tk cells (fun b o n e => hideAll_get _ e n) (fun b o e => of_hideAll _ e) (fun b hb => hideAll_none _ hb) ⟨x.toInCall.ns, fun b o e => hk₁ b o (of_hideAll _ e), Nat.le_of_eq (hideAll_size _ _)⟩ (fun b hb => Heap.get?_none_of_le hb) (fun q hq => ?_) Y (fun b o _ e => hk₁ b o e) BG (X.keeps st) (T.keeps st) (fun q hq => Heap.lt_size (hN q hq).1)
  rcases List.mem_append.mp hq with hq | hq
  · refine ⟨(NC q hq).1, (NC q hq).2.1, ?_⟩
    cases z : (hideAll s.heap H).get? q.1 with
    | none => rfl
    | some o => have := of_hideAll _ z; rw [(NC q hq).2.2] at this; cases this
  · exact ⟨hk₁ _ _ (hN q hq).1, Nat.ne_of_lt (Heap.lt_size (hN q hq).1), hideAll_none _ (hN q hq).2⟩
 case qh0 => (try delta id oq1 oq2); exact fun h => h

theorem enterLam {H : List Addr} {news : List (Addr × Obj)} {name qual : Str} {params : Arguments} {body : PySem.Expr} {scope : Scope} {cl : List (Str × Addr)} {pm ctv : Value} {c' f : Addr} {binds : List (Str × Value)} {args : Args}
    (B : Below A₀ base outer h₀) (F : Fr h₀ L s.heap m) (X : (hd.heap_1 w.params).In h₀) (T : Top p loose mean mg mb h₀) (hf : env.frame = some L) (hke : env.scope.kind = .function)
    (hH : ∀ a ∈ H, h₀.get? a = none ∧ a ≠ L) (hN : ∀ q ∈ news, s.heap.get? q.1 = some q.2 ∧ q.1 ∈ H)
    (ho : s.heap.get? f = some (kla_obj name qual params body scope cl pm c' ctv)) (hcd : s.heap.CodeRec (.ref c') qual)
    (hbind : bindArgs (kla_fn name qual params body scope cl pm (.ref c') ctv) args = pure binds) (hloc : ∀ y ∈ binds, scope.names.lookup y.1 = some .local)
    (h : ∀ g L' h₁ tk₁, Keep H s.heap g → (∀ b o, g.get? b = some o → s.heap.get? b = some o) → Fr g L' h₁ (fun y => binds.reverse.lookup y) → s.heap.get? L' = none → News g L' h₁ news → Keep [] s.heap h₁ → Below (lev n (env :: outer)) base (env :: outer) g → (hd.heap_1 w.params).In g → Top p loose mean mg mb g →
      wpAny (model prog w) (dA n env outer (eX qual scope f (.ref c') cl L')) (eval body (eX qual scope f (.ref c') cl L'))
        (fun v s' => R (.ok (.ret v)) s') (dE (model prog w) (dA n env outer (eX qual scope f (.ref c') cl L')) (eX qual scope f (.ref c') cl L') R)
        { s with heap := h₁, toks := tk₁ })
    (hroom : (lev n (env :: outer)).depth < recursionLimit) (hco : scope.isCoroutine = false) (hgen : scope.isGenerator = false) (hk : scope.kind = .function) (hcell : ∀ x ∈ scope.names, x.2 ≠ .cell) : codeAny (model prog w) (lev n (env :: outer)) (.call (.ref f) args) R s := by
 refine no_implicit_lambda% ((?qf0 : @Wit ?qp0 ?qe0 → ?qp0) (wit2 ?q00 ?qh0))
 case qf0 => exact fun _ => ?qe0
 case q00 =>
  obtain ⟨FG, BG, st⟩ := ground_hide (A := lev n (env :: outer)) B F hf hke hH rfl
  refine kla_callFunE hroom ho rfl hco hgen rfl hcd ?_
  rw [hbind]
  refine wpAny_pure (wpAny_newFunctionEnv hcell hloc (fun h₁ hns hsb => ⟨((T.nolimit).keeps F.keep).fresh _ hsb, ?_⟩) hk)
  show codeAny _ _ (.expr body (envX qual scope s.heap.objs.size f (.ref c') cl)) _ _
  have hk₁ : ∀ b o, s.heap.get? b = some o → h₁.get? b = some o := fun b o e => hsb.extBut b o (Nat.ne_of_lt (Heap.lt_size e)) (Heap.get?_push_of_some _ e)
  exact kla_codeExpr (h _ s.heap.objs.size h₁ _ (fun b o n e => hideAll_get _ e n) (fun b o e => of_hideAll _ e) ⟨hns, fun b o e => hk₁ b o (of_hideAll _ e), Nat.le_of_eq (hideAll_size _ _)⟩ (Heap.get?_none_of_le (Nat.le_refl _))
    (fun q hq => ⟨hk₁ _ _ (hN q hq).1, Nat.ne_of_lt (Heap.lt_size (hN q hq).1), hideAll_none _ (hN q hq).2⟩) (fun b o _ e => hk₁ b o e) BG (X.keeps st) (T.keeps st))
 case qh0 => (try delta id oq1 oq2); exact fun h => h

end
end
section
theorem kg62 : True := trivial
abbrev noArgs : Arguments := { posonlyargs := [], args := [], vararg := none, kwonlyargs := [], kw_defaults := [], kwarg := none, defaults := [] }
abbrev lamScope (fn : Str) : Scope := { kind := ScopeKind.function, names := [("at", NameKind.free), ("trial", NameKind.free), (fn, NameKind.globalImplicit)], isGenerator := false, isCoroutine := false, more := [] }
theorem lam_cell {fn : Str} : ∀ x ∈ (lamScope fn).names, x.2 ≠ .cell := by
  intro x hx
  simp only [lamScope, List.mem_cons, List.not_mem_nil, or_false] at hx
  rcases hx with rfl | rfl | rfl <;> exact fun z => by cases z
section
variable {M : Model} {A : Around} {E : Value → Shared → Prop} {s : Shared} {L a : Addr} {cn : Str} {cs : Scope} {ccd : Value} {cl : List (Str × Addr)} {x : Str} {pos : Pos} {v : Value} {Q : Value → Shared → Prop} {c : Addr}
theorem nameX_cell (hc : cl.lookup x = some c) (hv : s.heap.IsCell c (some v)) (h : Q v s)
    (hk : cs.kind = .function := by rfl) (hx : (envX cn cs L a ccd cl).kindOf x = some .free := by rfl) (hb : (x == ("__debug__" : Str)) = false := by decide) (hn : (x == ("__classdict__" : Str)) = false := by decide) :
    wpAny M A (eval (.Name x pos) (envX cn cs L a ccd cl)) Q E s := wpAny_Name (wpAny_loadName_free hk hx hc hv h hn) hb
end
section
variable {w : World} {p : Program} {loose : List Str} {mean : ExcName → Option Value} {mg mb : Str → Option Value}

theorem kg63 : True := by
  k_with "Z63K_k_room" => (exact Nat.le_of_ble_eq_true rfl)
  k_with "Z63K_k_inst" => (case' zzhy => (refine' inst_base ?zzF ?zzh1 ?zzh2; (case zzF => k_asm); (case zzh1 => assumption); (case zzh2 => assumption)))
  k_with "Z63eval Name" => (k_here; case' zzhy => (k_dflt (refine' nameX_cell ?zzzc ?zzzv ?_ ?zzzk ?zzzx; (case zzzk => exact rfl); (case zzzx => exact rfl); (case zzzc => exact rfl); (case zzzv => assumption); k_whole)))
  k_with "Z63call ref" => (refine Stop.out ?_)
  trivial
theorem lam_call {s : Shared} {f c' c1 c2 : Addr} {qual : Str} {pm ctv : Value} {p0 p1 p2 p3 p4 : Pos} {k0 : Nat} {st : Addr} {pl : Int} {tp : Tok} {mn : List (Addr × Obj)} {Post : Heap → Value → Heap → Prop} {Err : Str → Int → Prop}
    (ho : s.heap.get? f = some (kla_obj "<lambda>" qual noArgs (PySem.Expr.Call (PySem.Expr.Name "local_call" p0) [PySem.Expr.Name "trial" p2, PySem.Expr.Constant Const.none k0 p3, PySem.Expr.Name "at" p4] [] p1) (lamScope "local_call") [("trial", c2), ("at", c1)] pm c' ctv)) (hcd : s.heap.CodeRec (.ref c') qual)
    (h1 : s.heap.IsCell c1 (some (.int pl tp))) (h2 : s.heap.IsCell c2 (some (.ref st))) (hmn : ∀ q ∈ mn, s.heap.get? q.1 = some q.2)
    (S : ∀ h' tk', Keep [] s.heap h' → SpE w p loose mean mg mb 14 672 [.ref st, .none, .int pl tp] (mn.map (·.1)) { s with heap := h', toks := tk' } (Post h') Err) :
    SpE w p loose mean mg mb 9 f [] (mn.map (·.1)) s (fun v h => ∃ h0, Keep [] s.heap h0 ∧ Post h0 v h) Err := by
 refine no_implicit_lambda% ((?qf0 : @Wit ?qp0 ?qe0 → ?qp0) (wit2 ?q00 ?qh0))
 case qf0 => exact fun _ => ?qe0
 case q00 =>
  intro A₀ base h₀ env outer L m R B F X T hf hke hM hret herr
  refine' enterLam (H := mn.map (·.1)) (news := mn) (binds := []) B F X T hf hke hM (fun q hq => ⟨hmn q hq, List.mem_map_of_mem hq⟩) ho hcd ?hb ?hl ?_ ?hr ?c1 ?c2 ?c3 ?c4
  case hb => exact rfl
  case hl => exact fun _ h => nomatch h
  case hr => exact Nat.le_of_ble_eq_true rfl
  case c1 => exact rfl
  case c2 => exact rfl
  case c3 => exact rfl
  case c4 => exact lam_cell
  intro g L' h₁ tk₁ hkeep hback F' hL' N' hk1 B' X' T'
  clear B F X T
  have hM' : ∀ a ∈ mn.map (·.1), g.get? a = none ∧ a ≠ L' := fun a ha => by
    obtain ⟨q, hq, rfl⟩ := List.mem_map.mp ha
    exact ⟨(N' q hq).2.2, (N' q hq).2.1⟩
  replace h1 := h1.keeps fun _ _ => hk1.all
  replace h2 := h2.keeps fun _ _ => hk1.all
  replace S := S h₁
  (try dsimp only)
  (try k_fold)
  k_steps
  apply Stop.in
  refine' call_eq (f' := Value.ref 672) (vs' := [.ref st, .none, .int pl tp]) ?ca ?cb ?_
  case ca => exact rfl
  case cb => exact rfl
  refine' use_spe (S _ hk1) B' F' X' T' ?uA ?uf ?uk ?uh ?ud ?uu hM' ?uQ ?uE
  case uA => exact rfl
  case uf => exact rfl
  case uk => exact rfl
  case uh => exact rfl
  case ud => exact Nat.le_of_ble_eq_true rfl
  case uu => exact Nat.le_of_ble_eq_true rfl
  case uQ =>
    intro v h3 tk3 K3 F3 P3
    k_steps
    exact hret _ _ _ (keep_end hkeep F3) ⟨h₁, hk1, P3⟩
  case uE =>
    intro e what pl' h3 tk3 er th
    k_steps
    (refine' pass_leave (s := s) (M1 := mn.map (·.1)) hkeep hback B' ?zF hL' rfl rfl ?zM ?zx ?zQ; (case zx => assumption); (case zF => assumption); (case zM => exact hM'); (case zQ => exact fun h'' th => herr _ _ _ _ _ (by assumption) th))
 case qh0 => (try delta id oq1 oq2); exact fun h => h

theorem lam_leave {s : Shared} {f c' c1 c2 : Addr} {qual : Str} {pm ctv : Value} {p0 p1 p2 p3 : Pos} {st : Addr} {pl : Int} {tp : Tok} {mn : List (Addr × Obj)} {Post : Heap → Value → Heap → Prop} {Err : Str → Int → Prop}
    (ho : s.heap.get? f = some (kla_obj "<lambda>" qual noArgs (PySem.Expr.Call (PySem.Expr.Name "leave" p0) [PySem.Expr.Name "trial" p2, PySem.Expr.Name "at" p3] [] p1) (lamScope "leave") [("trial", c2), ("at", c1)] pm c' ctv)) (hcd : s.heap.CodeRec (.ref c') qual)
    (h1 : s.heap.IsCell c1 (some (.int pl tp))) (h2 : s.heap.IsCell c2 (some (.ref st))) (hmn : ∀ q ∈ mn, s.heap.get? q.1 = some q.2)
    (S : ∀ h' tk', Keep [] s.heap h' → SpE w p loose mean mg mb 10 693 [.ref st, .int pl tp] (mn.map (·.1)) { s with heap := h', toks := tk' } (Post h') Err) :
    SpE w p loose mean mg mb 9 f [] (mn.map (·.1)) s (fun v h => ∃ h0, Keep [] s.heap h0 ∧ Post h0 v h) Err := by
 refine no_implicit_lambda% ((?qf0 : @Wit ?qp0 ?qe0 → ?qp0) (wit2 ?q00 ?qh0))
 case qf0 => exact fun _ => ?qe0
 case q00 =>
  intro A₀ base h₀ env outer L m R B F X T hf hke hM hret herr
  refine' enterLam (H := mn.map (·.1)) (news := mn) (binds := []) B F X T hf hke hM (fun q hq => ⟨hmn q hq, List.mem_map_of_mem hq⟩) ho hcd ?hb ?hl ?_ ?hr ?c1 ?c2 ?c3 ?c4
  case hb => exact rfl
  case hl => exact fun _ h => nomatch h
  case hr => exact Nat.le_of_ble_eq_true rfl
  case c1 => exact rfl
  case c2 => exact rfl
  case c3 => exact rfl
  case c4 => exact lam_cell
  intro g L' h₁ tk₁ hkeep hback F' hL' N' hk1 B' X' T'
  clear B F X T
  have hM' : ∀ a ∈ mn.map (·.1), g.get? a = none ∧ a ≠ L' := fun a ha => by
    obtain ⟨q, hq, rfl⟩ := List.mem_map.mp ha
    exact ⟨(N' q hq).2.2, (N' q hq).2.1⟩
  replace h1 := h1.keeps fun _ _ => hk1.all
  replace h2 := h2.keeps fun _ _ => hk1.all
  replace S := S h₁
  (try dsimp only)
  (try k_fold)
  k_steps
  apply Stop.in
  refine' call_eq (f' := Value.ref 693) (vs' := [.ref st, .int pl tp]) ?ca ?cb ?_
  case ca => exact rfl
  case cb => exact rfl
  refine' use_spe (S _ hk1) B' F' X' T' ?uA ?uf ?uk ?uh ?ud ?uu hM' ?uQ ?uE
  case uA => exact rfl
  case uf => exact rfl
  case uk => exact rfl
  case uh => exact rfl
  case ud => exact Nat.le_of_ble_eq_true rfl
  case uu => exact Nat.le_of_ble_eq_true rfl
  case uQ =>
    intro v h3 tk3 K3 F3 P3
    k_steps
    exact hret _ _ _ (keep_end hkeep F3) ⟨h₁, hk1, P3⟩
  case uE =>
    intro e what pl' h3 tk3 er th
    k_steps
    (refine' pass_leave (s := s) (M1 := mn.map (·.1)) hkeep hback B' ?zF hL' rfl rfl ?zM ?zx ?zQ; (case zx => assumption); (case zF => assumption); (case zM => exact hM'); (case zQ => exact fun h'' th => herr _ _ _ _ _ (by assumption) th))
 case qh0 => (try delta id oq1 oq2); exact fun h => h

end
end
section
theorem kg64 : True := trivial
structure IV where
  st : Addr
  sd : Addr
  fl : Addr
  rl : Addr
  ml : Addr
  xs : List FA
  rows : List MR
  fs : List AF
  nm : Nat
  nr : Nat
  rs : List Value
structure Fx where
  l : Addr
  vals : List Value
  ns0 : List Int
  ln : Nat
  rm : Addr
  rs2 : List Value
  nl : Nat
  ns : List Int
structure Apart4 (xs : List FA) (rows : List MR) : Prop where
  nR : (xs.map FA.R).Nodup
  nC : (xs.map FA.C).Nodup
  nM : (rows.map MR.RM).Nodup
  nS : (rows.map MR.SM).Nodup
  rr : ∀ x ∈ xs, ∀ r ∈ rows, x.R ≠ r.RM
  cs : ∀ x ∈ xs, ∀ r ∈ rows, x.C ≠ r.SM
def muts (xs : List FA) (rows : List MR) : List Addr := (xs.map FA.R ++ xs.map FA.C) ++ (rows.map MR.RM ++ rows.map MR.SM)
structure Inv (w : World) (h : Heap) (X : Fx) (I : IV) (c : Nat) : Prop where
  S : StFix w.params h I.st I.sd I.fl I.rl I.xs
  fr : Paired (FrameAt w h) I.xs I.fs
  ro : Paired (RowAt w h) I.rows I.fs
  em : h.get? I.ml = some (listOf (I.rows.map fun r => Value.ref r.row).toArray I.nm)
  er : h.get? I.rl = some (listOf I.rs.toArray I.nr)
  er2 : h.get? X.rm = some (listOf X.rs2.toArray X.nl)
  el : h.get? X.l = some (listOf X.vals.toArray X.ln)
  i0 : IntsAre X.vals X.ns0
  i1 : IntsAre I.rs X.ns
  i2 : IntsAre X.rs2 X.ns
  few0 : X.ns0.length ≤ 40
  few : X.ns.length ≤ 2
  ws : ∀ f ∈ I.fs, f.ws.length = 11 ∧ f.cells.length ≤ c
  n1 : 1 ≤ I.fs.length
  n8 : I.fs.length ≤ 8
  nd : Apart4 I.xs I.rows

def IsL (h : Heap) (a : Addr) : Prop := ∃ o, h.get? a = some o ∧ o.cls = .type "list"
def IsD (h : Heap) (a : Addr) : Prop := ∃ o, h.get? a = some o ∧ o.cls = .type "dict"
theorem ne_LD {h : Heap} {a b : Addr} (x : IsL h a) (y : IsD h b) : a ≠ b := by
 refine no_implicit_lambda% ((?qf0 : @Wit ?qp0 ?qe0 → ?qp0) (wit2 ?q00 ?qh0))
 case qf0 => exact fun _ => ?qe0
 case q00 =>
  rintro rfl
  obtain ⟨o, e, c⟩ := x
  obtain ⟨o', e', c'⟩ := y
  rw [e] at e'
  cases e'
  rw [c] at c'
  injection c' with z
  exact absurd z (by decide)
 case qh0 => (try delta id oq1 oq2); exact fun h => h

theorem isL {h : Heap} {a : Addr} {vs : Array Value} {n : Nat} (e : h.get? a = some (listOf vs n)) : IsL h a := ⟨_, e, rfl⟩
theorem isD_of {w : World} {h : Heap} {d : Addr} {kvs : List (Int × Value)} (x : h.DictOf (intKind Pg w) d kvs) : IsD h d := by
  obtain ⟨o, es, ep, ho, hc, _⟩ := x
  exact ⟨o, ho, hc.1⟩
theorem RegsAt.isL {P : Params} {h : Heap} {R : Addr} {ws : List W} (x : RegsAt P h R ws) : IsL h R := by
  obtain ⟨vs, n, e, _⟩ := x
  exact Mine.isL e
theorem WordsAt.isL {h : Heap} {R : Addr} {ws : List W} (x : WordsAt h R ws) : IsL h R := by
  obtain ⟨vs, n, e, _⟩ := x
  exact Mine.isL e
theorem CellsAt.isD {w : World} {h : Heap} {C : Addr} {k : List (Int × W)} (x : CellsAt w h C k) : IsD h C := by
  obtain ⟨_, kvs, e, _⟩ := x
  exact isD_of e
theorem SlotsAt.isD {w : World} {h : Heap} {C : Addr} {k : List (Int × W)} (x : SlotsAt w h C k) : IsD h C := by
  obtain ⟨_, kvs, e, _⟩ := x
  exact isD_of e
theorem list_inj {h : Heap} {a : Addr} {us vs : List Value} {n k : Nat} (e1 : h.get? a = some (listOf us.toArray n)) (e2 : h.get? a = some (listOf vs.toArray k)) : us = vs := by
  rw [e1] at e2
  have := Option.some.inj e2
  injection this with _ _ q _
  injection q with q _
  simpa using q
theorem ne_sd {w : World} {h : Heap} {sd C : Addr} {P : Params} {x : Str} {t : Tok} {v : Value} {r : List DictEntry} {n : Nat} {kvs : List (Int × Value)} (e : h.get? sd = some (dictOf (ent P x t v :: r) n)) (D : h.DictOf (intKind Pg w) C kvs) : sd ≠ C := by
 refine no_implicit_lambda% ((?qf0 : @Wit ?qp0 ?qe0 → ?qp0) (wit2 ?q00 ?qh0))
 case qf0 => exact fun _ => ?qe0
 case q00 =>
  rintro rfl
  obtain ⟨o, es, ep, ho, hc, hd, hk, _⟩ := D
  rw [e] at ho
  cases ho
  injection hd with q _
  obtain ⟨k, hk, _⟩ := hk (ent P x t v) (by rw [← q]; simp)
  obtain ⟨u, hu⟩ := Value.isInt_shape (show Value.isInt k (Value.str x t) = true from hk)
  cases hu
 case qh0 => (try delta id oq1 oq2); exact fun h => h

theorem ints_head {vals : List Value} {ns : List Int} (i : IntsAre vals ns) : ∀ a, vals[0]? ≠ some (Value.ref a) := by
  cases i <;> simp
theorem ints_len {vals : List Value} {ns : List Int} (i : IntsAre vals ns) : vals.length = ns.length := by
  induction i with
  | nil => rfl
  | cons n t _ ih => simp [ih]
theorem regs_ne {h : Heap} {a R : Addr} {us vs : List Value} {n k : Nat} (e1 : h.get? a = some (listOf us.toArray n)) (e2 : h.get? R = some (listOf vs.toArray k)) (l : vs.length = 11) (hv : ∃ b, vs[0]? = some (Value.ref b)) (h1 : us.length ≤ 8 ∨ ∃ ns, IntsAre us ns) : a ≠ R := by
 refine no_implicit_lambda% ((?qf0 : @Wit ?qp0 ?qe0 → ?qp0) (wit2 ?q00 ?qh0))
 case qf0 => exact fun _ => ?qe0
 case q00 =>
  rintro rfl
  have := list_inj e1 e2
  subst this
  rcases h1 with h1 | ⟨ns, h1⟩
  · omega
  · obtain ⟨b, hb⟩ := hv
    exact ints_head h1 _ hb
 case qh0 => (try delta id oq1 oq2); exact fun h => h

theorem nodup_at {α : Type} {φ : α → Addr} {l : List α} (n : (l.map φ).Nodup) {i j : Nat} {z x : α} (hi : l[i]? = some z) (hj : l[j]? = some x) (h : i ≠ j) : φ z ≠ φ x := by
  intro e
  refine h ((List.getElem?_inj (l := l.map φ) (i := i) (j := j) ?_ n).mp ?_)
  · rw [List.length_map]; exact (List.getElem?_eq_some_iff.mp hi).1
  · rw [List.getElem?_map, List.getElem?_map, hi, hj]
    simp [e]
theorem pmono_at {α β : Type} {F G : α → β → Prop} : ∀ {l₁ : List α} {l₂ : List β}, Paired F l₁ l₂ → (∀ (i : Nat) z f, l₁[i]? = some z → F z f → G z f) → Paired G l₁ l₂ := by
  intro l₁ l₂ p
  induction p with
  | nil => intro _; exact .nil
  | cons hx t ih => intro k; exact .cons (k 0 _ _ rfl hx) (ih fun i z f hi q => k (i + 1) z f hi q)
theorem pset_at {α β : Type} {F G : α → β → Prop} {a : α} {b : β} : ∀ {l₁ : List α} {l₂ : List β} (j : Nat), Paired F l₁ l₂ → l₁[j]? = some a → (∀ i z f, i ≠ j → l₁[i]? = some z → F z f → G z f) → G a b → Paired G l₁ (l₂.set j b) := by
  intro l₁ l₂ j p
  revert j
  induction p with
  | nil => intro j e; simp at e
  | cons hx t ih =>
    intro j e k h
    cases j with
    | zero =>
      cases (show some _ = some a from e)
      exact .cons h (pmono_at t fun i z f hi q => k (i + 1) z f (Nat.succ_ne_zero i) hi q)
    | succ j => exact .cons (k 0 _ _ (Nat.succ_ne_zero j).symm rfl hx) (ih j e (fun i z f hn hi q => k (i + 1) z f (fun y => hn (Nat.succ.inj y)) hi q) h)
theorem Inv.all {w : World} {h h' : Heap} {X : Fx} {I : IV} {c : Nat} (V : Inv w h X I c) (k : Keep [] h h') : Inv w h' X I c :=
  ⟨V.S.all fun b o _ e => k.all e, pmono (fun _ _ q => q.all k) V.fr, pmono (fun _ _ q => q.all k) V.ro, k.all V.em, k.all V.er, k.all V.er2, k.all V.el, V.i0, V.i1, V.i2, V.few0, V.few, V.ws, V.n1, V.n8, V.nd⟩
theorem Inv.mono {w : World} {h : Heap} {X : Fx} {I : IV} {c c' : Nat} (V : Inv w h X I c) (k : c ≤ c') : Inv w h X I c' :=
  { V with ws := fun f hf => ⟨(V.ws f hf).1, Nat.le_trans (V.ws f hf).2 k⟩ }
section
variable {w : World} {h h' : Heap} {X : Fx} {I : IV} {c : Nat} {j : Nat} {x : FA} {r : MR} {f f' : AF}
theorem Inv.lens (V : Inv w h X I c) : I.xs.length = I.fs.length ∧ I.rows.length = I.fs.length := ⟨V.fr.length, V.ro.length⟩
theorem Inv.regs (V : Inv w h X I c) (hx : x ∈ I.xs) : ∃ vs n ws, h.get? x.R = some (listOf vs.toArray n) ∧ Paired (IsRegW w.params h) vs ws ∧ ws.length = 11 ∧ vs.length = 11 ∧ ∃ b, vs[0]? = some (Value.ref b) := by
 refine no_implicit_lambda% ((?qf0 : @Wit ?qp0 ?qe0 → ?qp0) (wit2 ?q00 ?qh0))
 case qf0 => exact fun _ => ?qe0
 case q00 =>
  obtain ⟨i, hi⟩ := List.mem_iff_getElem?.mp hx
  obtain ⟨f, hf, q⟩ := pget V.fr i x hi
  obtain ⟨vs, n, e, p⟩ := q.regs
  have hl := (V.ws f (List.mem_of_getElem? hf)).1
  have hv : vs.length = 11 := p.length.trans hl
  refine ⟨vs, n, f.ws, e, p, hl, hv, ?_⟩
  obtain ⟨b, _, a, ea, _⟩ := pget p 0 vs[0] (List.getElem?_eq_getElem (by omega))
  exact ⟨a, by rw [List.getElem?_eq_getElem (by omega), ea]⟩
 case qh0 => (try delta id oq1 oq2); exact fun h => h

theorem Inv.words (V : Inv w h X I c) (hx : r ∈ I.rows) : ∃ vs n ws, h.get? r.RM = some (listOf vs.toArray n) ∧ Paired (IsWord h) vs ws ∧ ws.length = 11 ∧ vs.length = 11 ∧ ∃ b, vs[0]? = some (Value.ref b) := by
 refine no_implicit_lambda% ((?qf0 : @Wit ?qp0 ?qe0 → ?qp0) (wit2 ?q00 ?qh0))
 case qf0 => exact fun _ => ?qe0
 case q00 =>
  obtain ⟨i, hi⟩ := List.mem_iff_getElem?.mp hx
  obtain ⟨f, hf, q⟩ := pget V.ro i r hi
  obtain ⟨vs, n, e, p⟩ := q.words
  have hl := (V.ws f (List.mem_of_getElem? hf)).1
  have hv : vs.length = 11 := p.length.trans hl
  refine ⟨vs, n, f.ws, e, p, hl, hv, ?_⟩
  obtain ⟨b, _, a, ea, _⟩ := pget p 0 vs[0] (List.getElem?_eq_getElem (by omega))
  exact ⟨a, by rw [List.getElem?_eq_getElem (by omega), ea]⟩
 case qh0 => (try delta id oq1 oq2); exact fun h => h

theorem Inv.cells (V : Inv w h X I c) (hx : x ∈ I.xs) : IsD h x.C := by
 refine no_implicit_lambda% ((?qf0 : @Wit ?qp0 ?qe0 → ?qp0) (wit2 ?q00 ?qh0))
 case qf0 => exact fun _ => ?qe0
 case q00 =>
  obtain ⟨i, hi⟩ := List.mem_iff_getElem?.mp hx
  obtain ⟨f, hf, q⟩ := pget V.fr i x hi
  exact q.cells.isD
 case qh0 => (try delta id oq1 oq2); exact fun h => h

theorem Inv.slots (V : Inv w h X I c) (hx : r ∈ I.rows) : IsD h r.SM := by
 refine no_implicit_lambda% ((?qf0 : @Wit ?qp0 ?qe0 → ?qp0) (wit2 ?q00 ?qh0))
 case qf0 => exact fun _ => ?qe0
 case q00 =>
  obtain ⟨i, hi⟩ := List.mem_iff_getElem?.mp hx
  obtain ⟨f, hf, q⟩ := pget V.ro i r hi
  exact q.slots.isD
 case qh0 => (try delta id oq1 oq2); exact fun h => h

theorem Inv.mutable (V : Inv w h X I c) : ∀ b ∈ muts I.xs I.rows, IsL h b ∨ IsD h b := by
 refine no_implicit_lambda% ((?qf0 : @Wit ?qp0 ?qe0 → ?qp0) (wit2 ?q00 ?qh0))
 case qf0 => exact fun _ => ?qe0
 case q00 =>
  intro b hb
  unfold muts at hb
  rcases List.mem_append.mp hb with hb | hb <;> rcases List.mem_append.mp hb with hb | hb <;> obtain ⟨z, hz, rfl⟩ := List.mem_map.mp hb
  · obtain ⟨vs, n, ws, e, _⟩ := V.regs hz; exact .inl (isL e)
  · exact .inr (V.cells hz)
  · obtain ⟨vs, n, ws, e, _⟩ := V.words hz; exact .inl (isL e)
  · exact .inr (V.slots hz)
 case qh0 => (try delta id oq1 oq2); exact fun h => h

theorem Inv.short (V : Inv w h X I c) : I.fl ∉ muts I.xs I.rows ∧ I.rl ∉ muts I.xs I.rows ∧ I.ml ∉ muts I.xs I.rows ∧ X.rm ∉ muts I.xs I.rows ∧ X.l ∉ muts I.xs I.rows ∧ I.sd ∉ muts I.xs I.rows ∧ I.st ∉ muts I.xs I.rows := by
 refine no_implicit_lambda% ((?qf0 : @Wit ?qp0 ?qe0 → ?qp0) (wit2 ?q00 ?qh0))
 case qf0 => exact fun _ => ?qe0
 case q00 =>
  have key : ∀ b us n, h.get? b = some (listOf (List.toArray us) n) → (us.length ≤ 8 ∨ ∃ ns, IntsAre us ns) → b ∉ muts I.xs I.rows := by
    intro b us n e hq hb
    unfold muts at hb
    rcases List.mem_append.mp hb with hb | hb <;> rcases List.mem_append.mp hb with hb | hb <;> obtain ⟨z, hz, z2⟩ := List.mem_map.mp hb
    · obtain ⟨vs, k, ws, e2, _, _, l, q⟩ := V.regs hz; exact regs_ne e e2 l q hq z2.symm
    · exact ne_LD (isL e) (V.cells hz) z2.symm
    · obtain ⟨vs, k, ws, e2, _, _, l, q⟩ := V.words hz; exact regs_ne e e2 l q hq z2.symm
    · exact ne_LD (isL e) (V.slots hz) z2.symm
  obtain ⟨e1, ⟨t0, t1, t2, t3, e2⟩, n, e3⟩ := V.S
  refine ⟨key _ _ _ e3 (.inl ?_), key _ _ _ V.er (.inr ⟨_, V.i1⟩), key _ _ _ V.em (.inl ?_), key _ _ _ V.er2 (.inr ⟨_, V.i2⟩), key _ _ _ V.el (.inr ⟨_, V.i0⟩), fun hb => ?_, fun hb => ?_⟩
  · rw [List.length_map, V.lens.1]; exact V.n8
  · rw [List.length_map, V.lens.2]; exact V.n8
  · unfold muts at hb
    have hD : IsD h I.sd := ⟨_, e2, rfl⟩
    rcases List.mem_append.mp hb with hb | hb <;> rcases List.mem_append.mp hb with hb | hb <;> obtain ⟨z, hz, z2⟩ := List.mem_map.mp hb
    · obtain ⟨vs, k, ws, e4, _⟩ := V.regs hz; exact ne_LD (isL e4) hD z2
    · obtain ⟨i, hi⟩ := List.mem_iff_getElem?.mp hz
      obtain ⟨f, hf, q⟩ := pget V.fr i z hi
      obtain ⟨_, kvs, D, _⟩ := q.cells
      exact ne_sd e2 D z2.symm
    · obtain ⟨vs, k, ws, e4, _⟩ := V.words hz; exact ne_LD (isL e4) hD z2
    · obtain ⟨i, hi⟩ := List.mem_iff_getElem?.mp hz
      obtain ⟨f, hf, q⟩ := pget V.ro i z hi
      obtain ⟨_, kvs, D, _⟩ := q.slots
      exact ne_sd e2 D z2.symm
  · rcases V.mutable _ hb with ⟨o, e, cl⟩ | ⟨o, e, cl⟩ <;> (rw [e1] at e; cases e; cases cl)
 case qh0 => (try delta id oq1 oq2); exact fun h => h

theorem mutR (hx : x ∈ I.xs) : x.R ∈ muts I.xs I.rows := List.mem_append.mpr (.inl (List.mem_append.mpr (.inl (List.mem_map_of_mem hx))))
theorem mutC (hx : x ∈ I.xs) : x.C ∈ muts I.xs I.rows := List.mem_append.mpr (.inl (List.mem_append.mpr (.inr (List.mem_map_of_mem hx))))
theorem mutM (hx : r ∈ I.rows) : r.RM ∈ muts I.xs I.rows := List.mem_append.mpr (.inr (List.mem_append.mpr (.inl (List.mem_map_of_mem hx))))
theorem mutS (hx : r ∈ I.rows) : r.SM ∈ muts I.xs I.rows := List.mem_append.mpr (.inr (List.mem_append.mpr (.inr (List.mem_map_of_mem hx))))
theorem Inv.imm (V : Inv w h X I c) {M : List Addr} (hM : ∀ b ∈ M, b ∈ muts I.xs I.rows) (K : Keep M h h') : KeepI h h' := K.keepI fun a ha o e => by
  have := hM a ha
  unfold muts at this
  rcases List.mem_append.mp this with hb | hb <;> rcases List.mem_append.mp hb with hb | hb <;> obtain ⟨z, hz, rfl⟩ := List.mem_map.mp hb
  · obtain ⟨vs, n, ws, e2, _⟩ := V.regs hz; rw [e] at e2; cases e2; rfl
  · obtain ⟨i, hi⟩ := List.mem_iff_getElem?.mp hz
    obtain ⟨f, hf, q⟩ := pget V.fr i z hi
    obtain ⟨_, kvs, D, _⟩ := q.cells
    exact imm_dict D _ e
  · obtain ⟨vs, n, ws, e2, _⟩ := V.words hz; rw [e] at e2; cases e2; rfl
  · obtain ⟨i, hi⟩ := List.mem_iff_getElem?.mp hz
    obtain ⟨f, hf, q⟩ := pget V.ro i z hi
    obtain ⟨_, kvs, D, _⟩ := q.slots
    exact imm_dict D _ e
theorem Inv.step {M : List Addr} {c' : Nat} (V : Inv w h X I c) (hx : I.xs[j]? = some x) (hr : I.rows[j]? = some r) (hM : M = [x.R, r.RM] ∨ M = [x.C, r.SM]) (K : Keep M h h') (f1 : FrameAt w h' x f') (r1 : RowAt w h' r f') (hl : f'.ws.length = 11 ∧ f'.cells.length ≤ c') (cc : c ≤ c') :
    Inv w h' X { I with fs := I.fs.set j f' } c' := by
 refine no_implicit_lambda% ((?qf0 : @Wit ?qp0 ?qe0 → ?qp0) (wit2 ?q00 ?qh0))
 case qf0 => exact fun _ => ?qe0
 case q00 =>
  have mx := List.mem_of_getElem? hx
  have mr := List.mem_of_getElem? hr
  have hMm : ∀ b ∈ M, b ∈ muts I.xs I.rows := by
    intro b hb
    rcases hM with rfl | rfl <;> (simp only [List.mem_cons, List.not_mem_nil, or_false] at hb; rcases hb with rfl | rfl)
    · exact mutR mx
    · exact mutM mr
    · exact mutC mx
    · exact mutS mr
  have kI := V.imm hMm K
  obtain ⟨s1, s2, s3, s4, s5, s6, s7⟩ := V.short
  have kp : ∀ b, b ∉ muts I.xs I.rows → ∀ o, h.get? b = some o → h'.get? b = some o := fun b hb o e => K b o (fun z => hb (hMm b z)) e
  have LR : ∀ z ∈ I.xs, IsL h z.R := fun z hz => by obtain ⟨vs, n, ws, e2, _⟩ := V.regs hz; exact isL e2
  have LM : ∀ z ∈ I.rows, IsL h z.RM := fun z hz => by obtain ⟨vs, n, ws, e2, _⟩ := V.words hz; exact isL e2
  refine { V with S := V.S.all fun b o hb e => ?_, fr := pset_at j V.fr hx (fun i z f hij hi q => ?_) f1, ro := pset_at j V.ro hr (fun i z f hij hi q => ?_) r1, em := kp _ s3 _ V.em, er := kp _ s2 _ V.er, er2 := kp _ s4 _ V.er2, el := kp _ s5 _ V.el, ws := fun f hf => ?_, n1 := by simpa using V.n1, n8 := by simpa using V.n8 }
  · rcases hb with rfl | rfl | rfl
    · exact kp _ s7 _ e
    · exact kp _ s6 _ e
    · exact kp _ s1 _ e
  · have hz := List.mem_of_getElem? hi
    refine q.keep kI (fun o => K _ _ ?_) (fun o => K _ _ ?_)
    · rcases hM with rfl | rfl <;> simp only [List.mem_cons, List.not_mem_nil, or_false, not_or]
      · exact ⟨nodup_at V.nd.nR hi hx hij, V.nd.rr _ hz _ mr⟩
      · exact ⟨ne_LD (LR _ hz) (V.cells mx), ne_LD (LR _ hz) (V.slots mr)⟩
    · rcases hM with rfl | rfl <;> simp only [List.mem_cons, List.not_mem_nil, or_false, not_or]
      · exact ⟨(ne_LD (LR _ mx) (V.cells hz)).symm, (ne_LD (LM _ mr) (V.cells hz)).symm⟩
      · exact ⟨nodup_at V.nd.nC hi hx hij, V.nd.cs _ hz _ mr⟩
  · have hz := List.mem_of_getElem? hi
    refine q.keep kI (fun o => K _ _ ?_) (fun o => K _ _ ?_)
    · rcases hM with rfl | rfl <;> simp only [List.mem_cons, List.not_mem_nil, or_false, not_or]
      · exact ⟨(V.nd.rr _ mx _ hz).symm, nodup_at V.nd.nM hi hr hij⟩
      · exact ⟨ne_LD (LM _ hz) (V.cells mx), ne_LD (LM _ hz) (V.slots mr)⟩
    · rcases hM with rfl | rfl <;> simp only [List.mem_cons, List.not_mem_nil, or_false, not_or]
      · exact ⟨(ne_LD (LR _ mx) (V.slots hz)).symm, (ne_LD (LM _ mr) (V.slots hz)).symm⟩
      · exact ⟨(V.nd.cs _ mx _ hz).symm, nodup_at V.nd.nS hi hr hij⟩
  · rcases List.mem_or_eq_of_mem_set hf with hf | rfl
    · exact ⟨(V.ws f hf).1, Nat.le_trans (V.ws f hf).2 cc⟩
    · exact hl
 case qh0 => (try delta id oq1 oq2); exact fun h => h

end
theorem hide_keep {M Z : List Addr} {h h' : Heap} (k : Keep M h h') : Keep M (hideAll h Z) (hideAll h' Z) := fun b o n e => by
  obtain ⟨e1, e2⟩ := hide_some e
  exact hideAll_get _ (k b o n e1) e2
theorem hide_less {Z Z' : List Addr} {h : Heap} (s : ∀ a ∈ Z', a ∈ Z) : Keep [] (hideAll h Z) (hideAll h Z') := fun b o _ e => by
  obtain ⟨e1, e2⟩ := hide_some e
  exact hideAll_get _ e1 fun z => e2 (s b z)
theorem hide_all {Z : List Addr} {h : Heap} : Keep [] (hideAll h Z) h := fun _ _ _ e => of_hideAll _ e
theorem hide_more {Z Z' : List Addr} {s h : Heap} (k : Keep [] s h) (f : ∀ a ∈ Z', a ∈ Z ∨ s.get? a = none) : Keep [] (hideAll s Z) (hideAll h Z') := fun b o _ e => by
  obtain ⟨e1, e2⟩ := hide_some e
  refine hideAll_get _ (k.all e1) fun z => ?_
  rcases f b z with z | z
  · exact e2 z
  · rw [e1] at z; cases z
theorem among_app {pos : Pos} {r : List Value} : ∀ {l : List Value}, TriplesOk l → codeAmong pos (l ++ r) = (codeAmong pos l).or (codeAmong pos r) := by
  intro l
  fun_induction TriplesOk l with
  | case1 => intro _; simp [codeAmong]
  | case2 a t b u x rest ih =>
    intro h
    simp only [List.cons_append, codeAmong]
    split
    · rfl
    · exact ih h
  | case3 l h1 h2 => exact fun h => h.elim
def CodesOk (h : Heap) (qual : Str) (ks : List Pos) (ps : Array Value) : Prop := TriplesOk ps.toList ∧ ∀ k ∈ ks, codeAmong k ps.toList = none ∨ ∃ c', codeAmong k ps.toList = some (.ref c') ∧ h.CodeRec (.ref c') qual
theorem CodesOk.keeps {h h' : Heap} {qual : Str} {ks : List Pos} {ps : Array Value} (x : CodesOk h qual ks ps) (k : ∀ c', h.CodeRec (.ref c') qual → h'.CodeRec (.ref c') qual) : CodesOk h' qual ks ps :=
  ⟨x.1, fun q hq => (x.2 q hq).imp id fun ⟨c', e, r⟩ => ⟨c', e, k _ r⟩⟩
theorem CodesOk.snoc {h : Heap} {qual : Str} {ks : List Pos} {ps : Array Value} {k0 : Pos} {c' : Addr} (x : CodesOk h qual ks ps) (r : h.CodeRec (.ref c') qual) : CodesOk h qual ks (ps ++ #[rawInt k0.line, rawInt k0.col, .ref c']) := by
  have e : (ps ++ #[rawInt k0.line, rawInt k0.col, .ref c']).toList = ps.toList ++ [rawInt k0.line, rawInt k0.col, .ref c'] := by simp
  refine ⟨by rw [e]; exact TriplesOk_snoc _ _ _ _ x.1, fun k hk => ?_⟩
  rw [e, among_app x.1]
  rcases x.2 k hk with z | ⟨c2, z, q⟩
  · rw [z, Option.none_or]
    unfold codeAmong
    simp only [rawInt]
    split
    · exact .inr ⟨c', rfl, r⟩
    · exact .inl (by simp [codeAmong])
  · rw [z]
    exact .inr ⟨c2, rfl, q⟩
theorem Inv.noFields {w : World} {h : Heap} {X : Fx} {I : IV} {c : Nat} (V : Inv w h X I c) : ∀ b ∈ muts I.xs I.rows, ∀ o, h.get? b = some o → ∀ vs, o.data ≠ .fields vs := by
 refine no_implicit_lambda% ((?qf0 : @Wit ?qp0 ?qe0 → ?qp0) (wit2 ?q00 ?qh0))
 case qf0 => exact fun _ => ?qe0
 case q00 =>
  intro b hb o e vs
  unfold muts at hb
  rcases List.mem_append.mp hb with hb | hb <;> rcases List.mem_append.mp hb with hb | hb <;> obtain ⟨z, hz, rfl⟩ := List.mem_map.mp hb
  · obtain ⟨vs, n, ws, e2, _⟩ := V.regs hz; rw [e] at e2; cases e2; intro q; cases q
  · obtain ⟨i, hi⟩ := List.mem_iff_getElem?.mp hz
    obtain ⟨f, hf, q⟩ := pget V.fr i z hi
    obtain ⟨_, kvs, ⟨o2, es, ep, ho, hc, hd, _⟩, _⟩ := q.cells
    rw [e] at ho; cases ho; rw [hd]; intro q; cases q
  · obtain ⟨vs, n, ws, e2, _⟩ := V.words hz; rw [e] at e2; cases e2; intro q; cases q
  · obtain ⟨i, hi⟩ := List.mem_iff_getElem?.mp hz
    obtain ⟨f, hf, q⟩ := pget V.ro i z hi
    obtain ⟨_, kvs, ⟨o2, es, ep, ho, hc, hd, _⟩, _⟩ := q.slots
    rw [e] at ho; cases ho; rw [hd]; intro q; cases q
 case qh0 => (try delta id oq1 oq2); exact fun h => h

theorem Inv.codes {w : World} {h h' : Heap} {X : Fx} {I : IV} {c : Nat} {M : List Addr} {qual : Str} {ks : List Pos} {ps : Array Value} (V : Inv w h X I c) (hM : ∀ b ∈ M, b ∈ muts I.xs I.rows ∨ h.get? b = none) (K : Keep M h h') (x : CodesOk h qual ks ps) : CodesOk h' qual ks ps := x.keeps fun c' z => by
  obtain ⟨c, o, vs, t, e1, e2, e3, e4⟩ := z
  refine ⟨c, o, vs, t, e1, K _ _ (fun hb => ?_) e2, e3, e4⟩
  rcases hM _ hb with hb | hb
  · exact V.noFields _ hb _ e2 _ e3
  · rw [hb] at e2; cases e2
theorem psnoc_inv {α β : Type} {F : α → β → Prop} {b : β} : ∀ {l₂ : List β} {l₁ : List α}, Paired F l₁ (l₂ ++ [b]) → ∃ pre a, l₁ = pre ++ [a] ∧ Paired F pre l₂ ∧ F a b := by
 refine no_implicit_lambda% ((?qf0 : @Wit ?qp0 ?qe0 → ?qp0) (wit2 ?q00 ?qh0))
 case qf0 => exact fun _ => ?qe0
 case q00 =>
  intro l₂
  induction l₂ with
  | nil =>
    intro l₁ p
    replace p : Paired F l₁ [b] := p
    cases p with
    | cons h t => cases t; exact ⟨[], _, rfl, .nil, h⟩
  | cons y l₂ ih =>
    intro l₁ p
    replace p : Paired F l₁ (y :: (l₂ ++ [b])) := p
    cases p with
    | cons h t =>
      obtain ⟨pre, a, rfl, p, q⟩ := ih t
      exact ⟨_ :: pre, a, rfl, .cons h p, q⟩
 case qh0 => (try delta id oq1 oq2); exact fun h => h

theorem Inv.last {w : World} {h : Heap} {X : Fx} {I : IV} {c : Nat} (V : Inv w h X I c) : ∃ pre x fpre f rpre r, I.xs = pre ++ [x] ∧ I.fs = fpre ++ [f] ∧ I.rows = rpre ++ [r] ∧ Paired (FrameAt w h) pre fpre ∧ FrameAt w h x f ∧ Paired (RowAt w h) rpre fpre ∧ RowAt w h r f ∧ pre.length + 1 = I.fs.length ∧ rpre.length + 1 = I.fs.length ∧ fpre.length + 1 = I.fs.length := by
 refine no_implicit_lambda% ((?qf0 : @Wit ?qp0 ?qe0 → ?qp0) (wit2 ?q00 ?qh0))
 case qf0 => exact fun _ => ?qe0
 case q00 =>
  have n1 := V.n1
  have hf : I.fs ≠ [] := fun z => by rw [z] at n1; simp at n1
  obtain ⟨fpre, f, hfs⟩ : ∃ fpre f, I.fs = fpre ++ [f] := (ei2 ((List.dropLast_concat_getLast hf).symm))
  have p := V.fr
  have q := V.ro
  rw [hfs] at p q
  obtain ⟨pre, x, e1, p1, p2⟩ := psnoc_inv p
  obtain ⟨rpre, r, e2, q1, q2⟩ := psnoc_inv q
  have l1 := p1.length
  have l2 := q1.length
  exact ⟨pre, x, fpre, f, rpre, r, e1, hfs, e2, p1, p2, q1, q2, by rw [hfs]; simp [l1], by rw [hfs]; simp [l2], by rw [hfs]; simp⟩
 case qh0 => (try delta id oq1 oq2); exact fun h => h

theorem hideI {Z : List Addr} {h : Heap} (z : ∀ b ∈ Z, ∀ o, h.get? b = some o → isImm o = false) : KeepI h (hideAll h Z) := fun b o e i => hideAll_get _ e fun hb => by
  rw [z b hb o e] at i
  cases i
end
section
theorem kg65 : True := trivial
section
variable {w : World} {p : Program} {loose : List Str} {mean : ExcName → Option Value} {mg mb : Str → Option Value}
  {A A₀ : Around} {base g : Heap} {outer : List Env} {L : Addr} {m : Str → Option Value} {env : Env} {s : Shared} {n : Nat} {M : List Addr}
theorem use_sph {f : Addr} {vs : List Value} {Post : Heap → Value → Heap → Prop} {Q E : Value → Shared → Prop} (S : SpH w p loose mean mg mb n f vs M s Post)
    (B : Below A₀ base outer g) (F : Fr g L s.heap m) (X : (hd.heap_1 w.params).In g) (T : Top p loose mean mg mb g) (Xb : (hd.heap_1 w.params).In base) (Tb : Top p loose mean mg mb base)
    (hA : A.frames = some (env :: outer)) (hf : env.frame = some L) (hke : env.scope.kind = .function) (hh : A.handled = none) (hd : A.depth ≤ 301 + 20 * n) (hu : A.units ≤ 4 + 100 * n)
    (hM : ∀ a ∈ M, g.get? a = none ∧ a ≠ L)
    (hQ : ∀ v h' tk' g2, Keep (M ++ L :: frs outer) s.heap h' → (∀ b ∈ frs outer, ∀ o, s.heap.get? b = some o → ∃ sl, h'.get? b = some { o with slots := sl }) → Rebased w p loose mean mg mb A₀ base g h' outer L m g2 → Post g v h' → Q v { s with heap := h', toks := tk' }) :
    wpAny (model Pg w) A (call (.ref f) vs) Q E s := by
 refine no_implicit_lambda% ((?qf0 : @Wit ?qp0 ?qe0 → ?qp0) (wit2 ?q00 ?qh0))
 case qf0 => exact fun _ => ?qe0
 case q00 =>
  have hfe : frs (env :: outer) = L :: frs outer := by
    show List.filterMap (·.frame) (env :: outer) = _
    rw [List.filterMap_cons, hf]
  refine wpAny_call (code_lev (A' := lev n (env :: outer)) (S A₀ base g env outer L m _ B F X T Xb Tb hf hke hM fun v h' tk' k up q => ?_) hh hd hA.symm rfl hu)
  rw [hfe] at k up
  have gL : g.get? L = none := Heap.get?_none_of_le F.above
  have ns : h'.Ns L m := by
    obtain ⟨o, es, ep, ho, r⟩ := F.ns
    obtain ⟨sl, e⟩ := up L (.head _) o ho
    exact ⟨_, es, ep, e, r⟩
  obtain ⟨g2, RB⟩ := rebase (w := w) (p := p) (loose := loose) (mean := mean) (mg := mg) (mb := mb) (h6 := h') (L := L) (m := m) B F.above Xb Tb ns (fun b o hb e => k _ _ (fun z => by
    rcases List.mem_append.mp z with z | z
    · rw [(hM b z).1] at e; cases e
    · rcases List.mem_cons.mp z with rfl | z
      · rw [gL] at e; cases e
      · exact hb z) (F.keep _ _ e)) (fun b hb o e => up b (.tail _ hb) o (F.keep _ _ e))
  exact hQ v h' tk' g2 k (fun b hb o e => up b (.tail _ hb) o e) RB q
 case qh0 => (try delta id oq1 oq2); exact fun h => h

end
section
variable {w : World} {p : Program} {loose : List Str} {mean : ExcName → Option Value} {mg mb : Str → Option Value} {A : Around} {E : Value → Shared → Prop} {s : Shared} {h₀ : Heap} {L a c P : Addr} {m : Str → Option Value} {cn : Str} {cs : Scope} {ccd : Value} {cl : List (Str × Addr)} {news : List (Addr × Obj)}
  {params : Arguments} {body : PySem.Expr} {scope : Scope} {ps : Array Value} {pos : Pos} {clos : List (Str × Addr)} {pen : Addr} {oP : Obj} {rest : List (Addr × Obj)}
theorem mk_lam {Q : Value → Shared → Prop} {hK : Heap} {ks : List Pos} {tl : List (Addr × Obj)} (F : Fr h₀ L s.heap m) (N : News h₀ L s.heap ((P, tabObj ps) :: rest)) (T : Top p loose mean mg mb h₀) (C : CodeHd h₀ c P) (hcd : ccd = .ref c) (hoff : ∀ q ∈ rest, q.1 ≠ P)
    (hc : CodesOk hK (cn ++ ".<locals>." ++ "<lambda>") ks ps) (hk : pos ∈ ks) (lat : Later h₀ L tl hK) (hs : ∀ q ∈ tl, q ∈ rest) (hKP : hK.get? P = none)
    (hcl : closureFor scope (envX cn cs L a ccd cl) = pure clos) (hdef : defaultsOf params (envX cn cs L a ccd cl) = ([], []))
    (h : ∀ f c' pm ctv ps' news' h' tk, Fr h₀ L h' m → News h₀ L h' ((f, kla_obj "<lambda>" (cn ++ ".<locals>." ++ "<lambda>") params body scope clos pm c' ctv) :: news') → (∀ q ∈ rest, q ∈ news') → (P, tabObj ps') ∈ news' → (∀ q ∈ rest, q.1 < f) → P < f →
      h'.CodeRec (.ref c') (cn ++ ".<locals>." ++ "<lambda>") → CodesOk (hideAll h' [P]) (cn ++ ".<locals>." ++ "<lambda>") ks ps' → Q (.ref f) { s with heap := h', toks := tk }) :
    wpAny (model Pg w) A (eval (.Lambda params body scope pos) (envX cn cs L a ccd cl)) Q E s := by
 refine no_implicit_lambda% ((?qf0 : @Wit ?qp0 ?qe0 → ?qp0) (wit2 ?q00 ?qh0))
 case qf0 => exact fun _ => ?qe0
 case q00 =>
  have up : ∀ h' m', Fr h₀ L h' m' → News h₀ L h' rest → ∀ b o, hK.get? b = some o → (hideAll h' [P]).get? b = some o := fun h' m' F' N' b o e =>
    hideAll_get _ (lat.at F' N' hs _ _ e) fun z => by rw [List.mem_singleton.mp z, hKP] at e; cases e
  refine kla_eval hdef ?_
  rcases hc.2 _ hk with z | ⟨c', z, r⟩
  · refine kla_nest F N T C hcd (UpdF.head hoff) hc.1 z hcl fun f c' oc vs t ctv h' tk F' N' d1 d2 l1 l2 => ?_
    have hr : h'.CodeRec (.ref c') (cn ++ ".<locals>." ++ "<lambda>") := ⟨c', oc, vs, t, rfl, (N' _ (.tail _ (.head _))).1, d1, d2⟩
    have nP : c' ≠ P := Ne.symm (Nat.ne_of_lt (l1 _ (.head _)))
    have hr2 : (hideAll h' [P]).CodeRec (.ref c') (cn ++ ".<locals>." ++ "<lambda>") := ⟨c', oc, vs, t, rfl, hideAll_get _ (N' _ (.tail _ (.head _))).1 (by simpa using nP), d1, d2⟩
    have N2 : News h₀ L h' rest := fun q hq => N' q (.tail _ (.tail _ (.tail _ hq)))
    refine h f c' _ ctv _ _ h' tk F' N' (fun q hq => .tail _ (.tail _ hq)) (.tail _ (.head _)) (fun q hq => Nat.lt_trans (l1 q (.tail _ hq)) l2) (Nat.lt_trans (l1 _ (.head _)) l2) hr ((hc.keeps fun c2 x => ?_).snoc hr2)
    obtain ⟨c3, o, us, t3, x1, x2, x3, x4⟩ := x
    exact ⟨c3, o, us, t3, x1, up h' _ F' N2 _ _ x2, x3, x4⟩
  · refine kla_hit F N T C hcd (.head _) hc.1 z hcl fun f ctv h' tk F' N' l1 => ?_
    have N2 : News h₀ L h' rest := fun q hq => N' q (.tail _ (.tail _ hq))
    have up2 : ∀ c2, hK.CodeRec (.ref c2) (cn ++ ".<locals>." ++ "<lambda>") → (hideAll h' [P]).CodeRec (.ref c2) (cn ++ ".<locals>." ++ "<lambda>") := fun c2 x => by
      obtain ⟨c3, o, us, t3, x1, x2, x3, x4⟩ := x
      exact ⟨c3, o, us, t3, x1, up h' _ F' N2 _ _ x2, x3, x4⟩
    refine h f c' _ ctv ps _ h' tk F' N' (fun q hq => .tail _ hq) (.head _) (fun q hq => l1 q (.tail _ hq)) (l1 _ (.head _)) ?_ (hc.keeps up2)
    obtain ⟨c3, o, us, t3, x1, x2, x3, x4⟩ := up2 _ r
    exact ⟨c3, o, us, t3, x1, of_hideAll _ x2, x3, x4⟩
 case qh0 => (try delta id oq1 oq2); exact fun h => h

end
end
section
theorem kg66 : True := trivial
def firstWs : List W := [.none, .ctx, .none, .none, .none, .none, .none, .none, .none, .none, .stack 0 0]
theorem end_first {w : World} {s g h : Heap} {L x d rl fl dy c : Addr} {m : Str → Option Value} {y : FA} {vy : List Value} {ny nr nf : Nat} {t0 t1 t2 u : Tok} {oF oC : Obj} {tl : List (Addr × Obj)} (hk : Keep [] s g) (F : Fr g L h m)
    (N : News g L h ((x, instObj 581 d) :: (d, dictOf [ent w.params "frames" t0 (.ref fl), ent w.params "next_number" t1 (.int 1 u), ent w.params "rooms" t2 (.ref rl)] 3) :: (rl, listOf #[] nr) :: (fl, listOf #[.ref y.fr] nf) :: (y.R, listOf (vy.set (Int.toNat 1) (.ref c)).toArray ny) :: tl))
    (hφ : ∀ h2, News g L h2 tl → (FrameFixD w.params h2 y dy (-1) ∧ Paired (IsRegW w.params h2) vy ((List.replicate 11 W.none).set 10 (W.stack 0 0)) ∧ CellsAt w h2 y.C []) ∧ RegAt w.params h2 c ⟨"context", 0, 0, -1, 0, 0, 0⟩) (i1 : (y.fr, oF) ∈ tl) (i3 : (y.C, oC) ∈ tl) :
    ∃ (st sd fl rl : Addr) (x' : FA) (t0 t1 t2 u : Tok), Value.ref x = .ref st ∧ s.get? st = none ∧ s.get? sd = none ∧ s.get? fl = none ∧ s.get? x'.R = none ∧ s.get? x'.C = none ∧ h.get? st = some (instObj 581 sd) ∧ h.get? sd = some (dictOf [ent w.params "frames" t0 (.ref fl), ent w.params "next_number" t1 (.int 1 u), ent w.params "rooms" t2 (.ref rl)] 3) ∧ (∃ n, h.get? fl = some (listOf #[.ref x'.fr] n)) ∧ FrameAt w h x' ⟨firstWs, [], -1⟩ := by
 refine no_implicit_lambda% ((?qf0 : @Wit ?qp0 ?qe0 → ?qp0) (wit2 ?q00 ?qh0))
 case qf0 => exact fun _ => ?qe0
 case q00 =>
  obtain ⟨⟨p1, p2, p3⟩, p4⟩ := hφ h fun q hq => N q (.tail _ (.tail _ (.tail _ (.tail _ (.tail _ hq)))))
  refine ⟨x, d, fl, rl, y, t0, t1, t2, u, rfl, fresh_of hk N (.head _) (by simp), fresh_of hk N (.tail _ (.head _)) (by simp), fresh_of hk N (.tail _ (.tail _ (.tail _ (.head _)))) (by simp), fresh_of hk N (.tail _ (.tail _ (.tail _ (.tail _ (.head _))))) (by simp), fresh_of hk N (.tail _ (.tail _ (.tail _ (.tail _ (.tail _ i3))))) (by simp), (N _ (.head _)).1, (N _ (.tail _ (.head _))).1, ⟨_, (N _ (.tail _ (.tail _ (.tail _ (.head _))))).1⟩, ⟨dy, p1⟩, ⟨_, ny, (N _ (.tail _ (.tail _ (.tail _ (.tail _ (.head _)))))).1, ?_⟩, p3⟩
  exact pset (⟨c, rfl, _, p4, by constructor⟩ : IsRegW w.params h (.ref c) .ctx) 1 p2
 case qh0 => (try delta id oq1 oq2); exact fun h => h

section
variable {w : World} {p : Program} {loose : List Str} {mean : ExcName → Option Value} {mg mb : Str → Option Value}
theorem kg67 : True := by
  k_with "Z67K_k_room" => (exact Nat.le_of_ble_eq_true rfl)
  k_with "Z67K_k_inst" => (case' zzhy => (refine' inst_base ?zzF ?zzh1 ?zzh2; (case zzF => k_asm); (case zzh1 => assumption); (case zzh2 => assumption)))
  k_with "Z67subscriptTail" => (k_here; (with_reducible show wpAny _ _ (subscriptTail _ _ (Value.ref _) (Value.int _ _)) _ _ _); case' zzhy => (k_dflt ((refine' item_symK ?zzk1 ?zzk2 ?zzk3 ?zzk4 ?_ ?zzk6; (case zzk1 => exact listOf_base (by k_asm) (by assumption)); (case zzk2 => omega); (case zzk3 => omega); (case zzk4 => omega); (case zzk6 => with_unfolding_all rfl); k_whole); intro zzvK zzhvK)))
  k_with "Z67subscriptTail" => (k_here; (with_reducible show wpAny _ _ (subscriptTail _ _ (Value.ref _) (Value.int (-1) _)) _ _ _); case' zzhy => (k_dflt ((refine' item_lastK ?zzk1 ?_ ?zzk6; (case zzk1 => exact listOf_base (by k_asm) (by assumption)); (case zzk6 => with_unfolding_all rfl); k_whole))))
  k_with "Z67setItem ref int" => (k_here; (with_reducible show wpAny _ _ (setItem (Value.ref _) (Value.int _ _) _) _ _ _); case' zzhy => (k_dflt ((refine' ki_set ?zzk1 ?zzk2 ?zzk3 ?zzk4 ?zzk5 ?zzk6 ?_; (case zzk1 => k_asm); (case zzk2 => k_asm); (case zzk6 => k_upd); (case zzk3 => omega); (case zzk4 => omega); (case zzk5 => exact ki_setL_some (by simp; omega))); intro zzh' zzF' zzN'; (try dsimp only [List.nil_append, List.cons_append] at zzN'))))
  k_with "Z67K_k_all" => (exact allLt_ne (by first | assumption | exact And.right (by assumption) | exact And.right (And.right (by assumption)) | exact And.right (And.right (And.right (by assumption)))))
  k_with "Z67K_k_all" => (assumption)
  k_with "Z67K_k_mem" => (assumption)
  k_with "Z67K_k_inst" => (case' zzhy => (refine' inst_mix ?zzF ?zzN ?zzh1 ?zzh2; (case zzF => k_asm); (case zzN => k_asm); (case zzh1 => assumption); (case zzh2 => k_mem)))
  k_with "Z67call ref" => (k_here; (with_reducible show wpAny _ _ (call (Value.ref 590) _) _ _ _); case' zzhy => (k_dflt ( (refine' call_eq (f' := Value.ref 590) (vs' := [Value.int _ _, Value.int _ _]) ?zzca ?zzcb ?_; (case zzca => exact rfl); (case zzcb => exact rfl)); (refine' use_sp (newframe_sp ) ?zzuB ?zzuF ?zzuX ?zzuT ?zzuA ?zzuf ?zzuk ?zzuh ?zzud ?zzuu ?zzuM ?_; (case zzuA => exact rfl); (case zzuf => exact rfl); (case zzuk => exact rfl); (case zzuF => k_asm); (case zzuB => k_asm); (case zzuX => k_asm); (case zzuT => k_asm);  (case zzuh => exact rfl); (case zzud => exact Nat.le_of_ble_eq_true rfl); (case zzuu => exact Nat.le_of_ble_eq_true rfl); (case zzuM => exact fun zza zzha => nomatch zzha); k_whole); (intro zzv' zzh' zztk' zzK' zzF' zzP'); (obtain ⟨zzy', zzdy', zze', zzf1, zzf2, zzf3, zzf4, zzhne', zzvy', zzny', zzg3, zzmade'⟩ := zzP'); subst zze'; (obtain ⟨⟨zzw0, zzw1, zzw2, zzw3, zzg1, zzg2⟩, zzpy', zzcy'⟩ := MadeBut.here zzmade'); (have zzn1' := ne_get' zzg1 zzg3 (by simp)); (have zzn2' := ne_get' zzg2 zzg3 (by simp)); (have zzly' := (Paired.length zzpy').trans (by simp : List.length ((List.replicate 11 W.none).set 10 _) = 11)); (obtain ⟨zztl', zzN', zzo1', zzo2', zzq1', zzin', zzhφ'⟩ := after_new (by assumption) (by assumption) zzK' zzf3 zzg3 zzmade'); (simp only [List.cons_append, List.nil_append] at zzN'); (obtain ⟨zzloC, zzkvC, ⟨zzoC, zzesC, zzepC, zzeC, zzrC⟩, zzpC⟩ := zzcy'); (have zzi3' := zzin' _ _ zzf4 (Ne.symm zzhne') zzeC); (have zzi1' := zzin' _ _ zzf1 zzn1' zzg1); (have zzi2' := zzin' _ _ zzf2 zzn2' zzg2); clear zzin' zzo2' zzq1'; (try dsimp only at zzN'); (try dsimp only))))
  k_with "Z67call ref" => (k_here; (with_reducible show wpAny _ _ (call (Value.ref 371) _) _ _ _); case' zzhy => (k_dflt (refine' call_eq (f' := Value.ref 371) (vs' := []) ?zzca ?zzcb ?_; (case zzca => exact rfl); (case zzcb => exact rfl)); refine Stop.out ?_))
  trivial
theorem first_sp {s : Shared} : Sp w p loose mean mg mb 16 597 [] [] s (fun v h => ∃ (st sd fl rl : Addr) (x : FA) (t0 t1 t2 u : Tok), v = .ref st ∧ s.heap.get? st = none ∧ s.heap.get? sd = none ∧ s.heap.get? fl = none ∧ s.heap.get? x.R = none ∧ s.heap.get? x.C = none ∧ h.get? st = some (instObj 581 sd) ∧ h.get? sd = some (dictOf [ent w.params "frames" t0 (.ref fl), ent w.params "next_number" t1 (.int 1 u), ent w.params "rooms" t2 (.ref rl)] 3) ∧ (∃ n, h.get? fl = some (listOf #[.ref x.fr] n)) ∧ FrameAt w h x ⟨firstWs, [], -1⟩) := by
 refine no_implicit_lambda% ((?qf0 : @Wit ?qp0 ?qe0 → ?qp0) (wit2 ?q00 ?qh0))
 case qf0 => exact fun _ => ?qe0
 case q00 =>
  intro A₀ base h₀ env outer L m R B F X T hf hke hM hret
  k_dflt (refine' enter (H := []) (news := []) (binds := []) B F X T hf hke (fun a ha => nomatch ha) (fun q hq => nomatch hq) ?ho ?hcd ?hb ?hl ?_ ?hc ?hr ?c1 ?c2 ?c3)
  case ho => k_is
  case hcd => k_is
  case hb => exact BindsTo.of_eq rfl
  case hl => exact locs rfl
  case hc => decide
  case hr => exact Nat.le_of_ble_eq_true rfl
  case c1 => exact rfl
  case c2 => exact rfl
  case c3 => exact rfl
  intro g L' h₁ tk₁ hkeep hback F' hL' N' hk1 B' X' T'
  clear B F X T
  (try dsimp only)
  (try k_fold)
  k_steps
  apply Stop.in
  rename_i h2 tk2 K2 y dy f1 f2 f3 f4 hne vy ny g3 made w0 w1 w2 w3 g1 g2 py n1 n2 ly tl o1 hφ loC kvC pC oC esC epC eC rC i3 i1 i2 h3 F3 N3
  refine' use_sp (context_sp) B' F3 X' T' ?uA ?uf ?uk ?uh ?ud ?uu (fun _ ha => nomatch ha) ?_
  case uA => exact rfl
  case uf => exact rfl
  case uk => exact rfl
  case uh => exact rfl
  case ud => exact Nat.le_of_ble_eq_true rfl
  case uu => exact Nat.le_of_ble_eq_true rfl
  intro v4 h4 tk4 K4 F4 P4
  obtain ⟨c4, rfl, fr4, r4⟩ := P4
  obtain ⟨tl4, N4, off4, sub4, hφ4⟩ := es_end (es := [(y.R, listOf vy.toArray ny)]) (tl := tl) N3 F3 (List.forall_mem_cons.mpr ⟨o1, List.forall_mem_nil _⟩) K4 hφ r4
  have o4 : ∀ p ∈ tl4, p.1 ≠ y.R := off4 _ (.head _)
  replace i1 := sub4 _ i1
  replace i2 := sub4 _ i2
  replace i3 := sub4 _ i3
  clear off4 sub4 hφ N3 F3 made K2 K4 r4 o1 g3 g1 g2 py eC
  simp only [List.cons_append, List.nil_append] at N4
  k_steps
  exact hret _ _ _ (keep_end hkeep (by assumption)) (end_first hkeep (by assumption) (by assumption) hφ4 i1 i3)
 case qh0 => (try delta id oq1 oq2); exact fun h => h

end
end
section
theorem kg68 : True := trivial

theorem pick_from6 {vs : List Value} : kms_pick vs (some 6) none = vs.drop 6 := pick_from (k := 6)
theorem list_newsS {g h : Heap} {L a : Addr} {its : List Value} {n : Nat} {news : List (Addr × Obj)} (N : News g L h news) (m : (a, listOf (List.toArray its) n) ∈ news) : h.IsList a its.toArray := ⟨_, (N _ m).1, rfl, n, rfl⟩
theorem lastWs_len {wx wy : List W} (h : wx.length = 11) : (lastWs wx wy).length = 11 := by
  rw [lastWs_eq h]
  simp [h]
section
variable {w : World} {p : Program} {loose : List Str} {mean : ExcName → Option Value} {mg mb : Str → Option Value}

theorem kg69 : True := by
  k_with "Z69K_k_room" => (exact Nat.le_of_ble_eq_true rfl)
  k_with "Z69K_k_inst" => (case' zzhy => (refine' inst_base ?zzF ?zzh1 ?zzh2; (case zzF => k_asm); (case zzh1 => assumption); (case zzh2 => assumption)))
  k_with "Z69K_k_all" => (exact allLt_ne (by first | assumption | exact And.right (by assumption) | exact And.right (And.right (by assumption)) | exact And.right (And.right (And.right (by assumption)))))
  k_with "Z69K_k_all" => (assumption)
  k_with "Z69K_k_mem" => (assumption)
  k_with "Z69call builtin:len" => (k_here; (with_reducible show wpAny _ _ (call (Value.builtin "len") [Value.ref _]) _ _ _); case' zzhy => (k_dflt (refine' len_symK ?zzk1 ?zzk2 ?zzk3 ?_; (case zzk1 => exact listOf_base (by k_asm) (by assumption)); (case zzk2 => assumption); (case zzk3 => omega); k_whole)))
  k_with "Z69ite" => (k_here; k_openite; first | (refine ite_pos (by first | omega | (simp only [beq_iff_eq, bne_iff_ne, decide_eq_true_eq, ne_eq]; omega)) ?_) | (refine ite_neg (by first | omega | (simp only [beq_iff_eq, bne_iff_ne, decide_eq_true_eq, ne_eq]; omega)) ?_))
  k_with "Z69subscriptTail Name Slice ref ref" => (k_here; (with_reducible show wpAny _ _ (subscriptTail _ (PySem.Expr.Slice _ _ none _) (Value.ref _) (Value.ref _)) _ _ _); case' zzhy => (k_dflt (refine' slice_symK ?zzzF ?zzzN ?zzzl ?zzzp ?zzzq ?zzze ?zzzz ?_ ?zzzs ?zzzt; (case zzzF => k_asm); (case zzzN => k_asm); (case zzzl => walk_at "ISLIST"); (case zzzp => kmk_part); (case zzzq => kmk_part); (case zzze => first | exact pick_last | exact pick_from6 | exact pick_from); (case zzzs => with_unfolding_all rfl); (case zzzt => kmk_pure); (case zzzz => first | omega | (simp only [List.length_map, List.length_append, List.length_cons, List.length_nil]; omega)); k_whole); intro zzD' zzh' zzF' zzN' zzl1'; k_lt zzl1'))
  k_with "Z69ISLIST" => (first | exact listOf_base (by k_asm) (by assumption) | exact list_news (by k_asm) (by k_mem))
  k_with "Z69binaryOp Add ref ref" => (k_here; (with_reducible show wpAny _ _ (binaryOp Operator.Add (Value.ref _) (Value.ref _)) _ _ _); case' zzhy => (k_dflt ((refine' add_symK ?zzk1 ?zzk2 ?zzk3 ?zzk4 ?zzk5 ?_; (case zzk1 => k_asm); (case zzk2 => k_asm); (case zzk3 => walk_at "ISLIST"); (case zzk4 => walk_at "ISLIST"); (case zzk5 => first | omega | (simp only [List.length_append, List.length_cons, List.length_nil, List.length_drop, List.length_map]; omega)); k_whole); intro zzD' zzh' zzF' zzN' zzl1; k_lt zzl1)))
  k_with "Z69subscriptTail" => (k_here; (with_reducible show wpAny _ _ (subscriptTail _ _ (Value.ref _) (Value.int _ _)) _ _ _); case' zzhy => (k_dflt ((refine' item_litK ?zzk1 ?zzk2 ?zzk3 ?zzk4 ?_ ?zzk6; (case zzk1 => walk_at "ISLIST"); (case zzk2 => decide); (case zzk3 => decide); (case zzk4 => rfl); (case zzk6 => with_unfolding_all rfl); k_whole))))
  k_with "Z69subscriptTail" => (k_here; (with_reducible show wpAny _ _ (subscriptTail _ _ (Value.ref _) (Value.int (-1) _)) _ _ _); case' zzhy => (k_dflt ((refine' item_lastK ?zzk1 ?_ ?zzk6; (case zzk1 => walk_at "ISLIST"); (case zzk6 => with_unfolding_all rfl); k_whole))))
  k_with "Z69subscriptTail" => (k_here; (with_reducible show wpAny _ _ (subscriptTail _ _ (Value.ref _) (Value.int _ _)) _ _ _); case' zzhy => (k_dflt (refine' item_tupleT ?zzt ?zza ?zzb ?zzc ?zzd ?_; (case zzt => exact tup_base (by k_asm) (by assumption)); (case zza => decide); (case zzb => decide); (case zzc => rfl); (case zzd => rfl); k_whole)))
  k_with "Z69subscriptTail" => (k_here; (with_reducible show wpAny _ _ (subscriptTail _ _ (Value.ref _) (Value.str _ _)) _ _ _); case' zzhy => (k_dflt (refine' getitem_dictS ?zzzD ?zzzl ?_ ?zzzs; (case zzzD => exact Mine.Heap.DictOf.keepF (by assumption) (Fr.keep (by k_asm))); (case zzzl => rfl); (case zzzs => with_unfolding_all rfl); k_whole); (try dsimp only)))
  k_with "Z69exec For Name Call cons nil" => (k_here; case' zzhy => ((rename Fr _ _ _ _ => zzlF'); (with_unfolding_all refine' For_invVF zzlF' ?zzk1 ?zzk2 ?_; (case zzk1 => exact rfl); (case zzk2 => exact rfl); k_whole)))
  k_with "Z69exec For Name Name cons nil" => (k_here; case' zzhy => ((rename Fr _ _ _ _ => zzlF'); (with_unfolding_all refine' For_invVF zzlF' ?zzk1 ?zzk2 ?_; (case zzk1 => exact rfl); (case zzk2 => exact rfl); k_whole)))
  k_with "Z69exec For Name Attribute cons nil" => (k_here; case' zzhy => ((rename Fr _ _ _ _ => zzlF'); (with_unfolding_all refine' For_invVF zzlF' ?zzk1 ?zzk2 ?_; (case zzk1 => exact rfl); (case zzk2 => exact rfl); k_whole)))
  k_with "Z69exec For Name Subscript cons nil" => (k_here; case' zzhy => ((rename Fr _ _ _ _ => zzlF'); (with_unfolding_all refine' For_invVF zzlF' ?zzk1 ?zzk2 ?_; (case zzk1 => exact rfl); (case zzk2 => exact rfl); k_whole)))
  k_with "Z69exec For Name BinOp cons nil" => (k_here; case' zzhy => ((rename Fr _ _ _ _ => zzlF'); (with_unfolding_all refine' For_invVF zzlF' ?zzk1 ?zzk2 ?_; (case zzk1 => exact rfl); (case zzk2 => exact rfl); k_whole)))
  k_with "Z69pyIter ref" => (refine Stop.out ?_)
  k_with "Z69call type:range" => (k_here; case' zzhy => (k_dflt (first | ((with_reducible show wpAny _ _ (call _ [Value.int _ _]) _ _ _); refine' range1_rows ?zzzF ?zzzN ?_; (case zzzF => k_asm); (case zzzN => k_asm); k_whole) | ((with_reducible show wpAny _ _ (call _ [Value.int _ _, Value.int _ _]) _ _ _); refine' range2_rows ?zzzF ?zzzN ?_; (case zzzF => k_asm); (case zzzN => k_asm); k_whole)); intro zzh' zztk' zzt1' zzu1' zzv1' zzR' zzF' zzN' zzk'))
  k_with "Z69LOOK" => ((try dsimp only); first | assumption | exact if_pos rfl | (refine (if_neg (by decide)).trans ?_; walk_at "LOOK") | exact rfl)
  k_with "Z69eval Name" => (k_here; case' zzhy => (k_dflt (refine' nameX_L ?zzzF ?zzzv ?_ ?zzza ?zzzb ?zzzc; (case zzza => exact rfl); (case zzzb => exact rfl); (case zzzc => decide); (case zzzF => k_asm); (case zzzv => walk_at "LOOK"); k_whole)))
  k_with "Z69SUBT" => (case' zzhy => (intro zzq hq; repeat (first | exact hq | apply List.Mem.tail)))
  k_with "Z69subscriptTail" => (k_here; (with_reducible show wpAny _ _ (subscriptTail _ _ (Value.ref _) (Value.str _ _)) _ _ _); case' zzhy => (k_dflt (refine' getitem_dictS ?zzzD ?zzzl ?_ ?zzzs; (case zzzD => exact Mine.Heap.DictOf.keepF (by assumption) (Later.at (by assumption) (by k_asm) (by k_asm) (by walk_at "SUBT"))); (case zzzl => rfl); (case zzzs => with_unfolding_all rfl); k_whole); (try dsimp only)))
  k_with "Z69subscriptTail" => (k_here; (with_reducible show wpAny _ _ (subscriptTail _ _ (Value.ref _) (Value.int _ _)) _ _ _); case' zzhy => (k_dflt (refine' item_tupleT ?zzt ?zza ?zzb ?zzc ?zzd ?_; (case zzt => exact tup_later (Later.at (by assumption) (by k_asm) (by k_asm) (by walk_at "SUBT")) (by assumption)); (case zza => decide); (case zzb => decide); (case zzc => rfl); (case zzd => rfl); k_whole)))
  k_with "Z69getMethod ref" => (k_here; (with_reducible show wpAny _ _ (getMethod (Value.ref _) (PySem.Str.ofString "values") _) _ _ _); case' zzhy => (k_dflt (refine' getMethod_values ?zzzD ?_; (case zzzD => exact dictOf_keep (by assumption) (fun _ => (Later.at (by assumption) (by k_asm) (by k_asm) (by walk_at "SUBT")) _ _)); k_whole)))
  k_with "Z69call builtin:dict.values" => (k_here; case' zzhy => (k_dflt (refine' call_values ?zzzF ?zzzN ?zzzl ?zzzD ?_; (case zzzF => k_asm); (case zzzN => k_asm); (case zzzl => assumption); (case zzzD => exact dictOf_keep (by assumption) (fun _ => (Later.at (by assumption) (by k_asm) (by k_asm) (by walk_at "SUBT")) _ _)); k_whole); intro zzD' zzh' zzF' zzN' zzl1'; k_lt zzl1'))
  k_with "Z69call type:list" => (k_here; (with_reducible show wpAny _ _ (call (Value.type _) [Value.ref _]) _ _ _); case' zzhy => (k_dflt (refine' list_values ?zzzF ?zzzN ?zzzh ?zzzv ?zzzD ?zzzz ?_; (case zzzF => k_asm); (case zzzN => k_asm); (case zzzh => exact rfl); (case zzzv => k_mem); (case zzzD => exact dictOf_keep (by assumption) (fun _ => (Later.at (by assumption) (by k_asm) (by k_asm) (by walk_at "SUBT")) _ _)); (case zzzz => omega); k_whole); intro zzD' zzc' zzh' zztk' zzF' zzN' zzl1'; k_lt zzl1'))
  k_with "Z69ISLIST" => (first | exact listOf_base (by k_asm) (by assumption) | exact list_news (by k_asm) (by k_mem) | exact list_later (Later.at (by assumption) (by k_asm) (by k_asm) (by walk_at "SUBT")) (by assumption))
  k_with "Z69subscriptTail" => (k_here; (with_reducible show wpAny _ _ (subscriptTail _ _ (Value.ref _) (Value.int 0 _)) _ _ _); case' zzhy => (k_dflt (refine' item_wordE ?zzze ?zzzv ?_ ?zzzs; (case zzze => exact (Later.at (by assumption) (by k_asm) (by k_asm) (by walk_at "SUBT")) _ _ (by assumption)); (case zzzv => assumption); (case zzzs => with_unfolding_all rfl); k_whole); intro zztW'))
  trivial
theorem due2_sp {s : Shared} {ml rm : Addr} {pre : List MR} {x y : MR} {fpre : List AF} {fx fy : AF} {nm : Nat} {pl : Int} {tp : Tok} (hpre : Paired (RowAt w s.heap) pre fpre) (hx : RowAt w s.heap x fx) (hy : RowAt w s.heap y fy)
    (em : s.heap.get? ml = some (listOf ((pre.map (fun r => Value.ref r.row) ++ [Value.ref x.row]) ++ [Value.ref y.row]).toArray nm)) (hp : pre.length ≤ 10) (hw : ∀ f ∈ fpre ++ [fx], f.ws.length = 11 ∧ f.cells.length ≤ 20) (hwy : fy.ws.length = 11) :
    Sp w p loose mean mg mb 10 740 [.ref ml, .ref rm, .int pl tp] [] s (fun v h => ∃ T, v = .ref T ∧ s.heap.get? T = none ∧
      ((∃ ml2 n bs r2, h.get? T = some (tupObj [.none, .ref ml2]) ∧ s.heap.get? ml2 = none ∧ h.get? ml2 = some (listOf (List.toArray (bs.map fun r : MR => Value.ref r.row)) n) ∧ bs = pre ++ [r2] ∧ r2.SM = x.SM ∧ s.heap.get? r2.row = none ∧ s.heap.get? r2.RM = none ∧ Paired (RowAt w h) bs (leftFs fpre fx fy) ∧ ∀ z ∈ allW (leftFs fpre fx fy), z.pts (((pre.length + 2 : Nat) : Int) - 1) = false) ∨
        ∃ T2 tw tq, h.get? T = some (tupObj [.ref T2, .none]) ∧ s.heap.get? T2 = none ∧ h.get? T2 = some (tupObj [.str "a pointer to a stack that goes" tw, .int pl tq]) ∧ ∃ z ∈ allW (leftFs fpre fx fy), z.pts (((pre.length + 2 : Nat) : Int) - 1) = true)) := by
 refine no_implicit_lambda% ((?qf0 : @Wit ?qp0 ?qe0 → ?qp0) (wit2 ?q00 ?qh0))
 case qf0 => exact fun _ => ?qe0
 case q00 =>
  intro A₀ base h₀ env outer L m R B F X T hf hke hM hret
  k_dflt (refine' enter (H := []) (news := []) (binds := [(Str.ofString "model", .ref ml), (Str.ofString "rooms", .ref rm), (Str.ofString "at", .int pl tp)]) B F X T hf hke (fun a ha => nomatch ha) (fun q hq => nomatch hq) ?ho ?hcd ?hb ?hl ?_ ?hc ?hr ?c1 ?c2 ?c3)
  case ho => k_is
  case hcd => k_is
  case hb => exact BindsTo.of_eq rfl
  case hl => exact locs rfl
  case hc => decide
  case hr => exact Nat.le_of_ble_eq_true rfl
  case c1 => exact rfl
  case c2 => exact rfl
  case c3 => exact rfl
  intro g L' h₁ tk₁ hkeep hback F' hL' N' hk1 B' X' T'
  clear B F X T
  have hpg : Paired (RowAt w g) pre fpre := pmono (fun _ _ q => q.all hkeep) hpre
  have hxg := hx.all hkeep
  have hyg := hy.all hkeep
  replace em := hkeep.all em
  clear hpre hx hy
  obtain ⟨⟨tbx, hRDx⟩, ⟨vsx, nx, e6, pwx⟩, hSx⟩ := id hxg
  obtain ⟨⟨tby, hRDy⟩, ⟨vsy, ny, e9, pwy⟩, -⟩ := hyg
  obtain ⟨v0, vr, rfl, ty0, rfl, wy0⟩ := phead pwy (by omega)
  have hwx : fx.ws.length = 11 := (hw fx (by simp)).1
  have hlx : vsx.length = 11 := pwx.length.trans hwx
  have hN : ((pre.map (fun r => Value.ref r.row) ++ [Value.ref x.row]) ++ [Value.ref y.row] : List Value).length = pre.length + 2 := by simp
  (try dsimp only)
  (try k_fold)
  walk_at "KS0"
  apply Stop.in
  rename_i FF NN
  obtain ⟨bs, es, N5, hbs, fd, fR2, hφ⟩ := due_rows FF NN (by assumption) hpg hSx pwx wy0 hwx
  have hbl : bs.length = pre.length + 1 := by rw [hbs]; simp
  refine loop_list (items := bs.map fun r => Value.ref r.row) (fun i m news => (∃ tg, m "goes" = some (.int (((pre.length + 2 : Nat) : Int) - 1) tg)) ∧ m "behind" = some (.ref _) ∧ m "at" = some (.int pl tp) ∧ news = (_, listOf (List.toArray (bs.map fun r => Value.ref r.row)) 0) :: es ∧ ∀ z ∈ allW ((leftFs fpre fx fy).take i), z.pts (((pre.length + 2 : Nat) : Int) - 1) = false)
    rfl (fun h e => ⟨_, e, rfl, 0, rfl⟩) (fun i m' m'' news' h' hJ F N => by obtain ⟨_, _, _, rfl, _⟩ := hJ; exact News_at N (.head _)) (ne_L' FF N5 (.head _)) FF N5 ⟨⟨_, by walk_at "LOOK"⟩, by walk_at "LOOK", by walk_at "LOOK", rfl, fun z hz => by simp [allW] at hz⟩ ?_ ?_
  · intro i v m₁ news₁ I oI h₁ tk₁ hv rq0 hnI F N
    obtain ⟨⟨tg, hm1⟩, hm2, hm3, rfl, hJ⟩ := rq0
    (try dsimp only at F N)
    obtain ⟨tl2, N2, off2, lat, hid, hmem⟩ := later F (es := [(I, oI)]) (newsSub N fun q hq => by rcases List.mem_singleton.mp hq with rfl; exact .head _)
    simp only [List.cons_append, List.nil_append] at N2
    have hoff : ∀ p ∈ tl2, p.1 ≠ I := off2 _ (.head _)
    have gL : g.get? L' = none := Heap.get?_none_of_le F.above
    have gI : g.get? I = none := (N _ (.head _)).2.2
    have hin : ∀ q ∈ ((_, listOf (List.toArray (bs.map fun r => Value.ref r.row)) 0) :: es : List (Addr × Obj)), q ∈ tl2 := fun q hq => hmem q (N q (.tail _ hq)).1 (N q (.tail _ hq)).2.2 (N q (.tail _ hq)).2.1 (by simpa using hnI q hq)
    have kF : ∀ b o, g.get? b = some o → (hideAll h₁ [L', I]).get? b = some o := fun b o e => hideAll_get _ (F.keep _ _ e) (by
      simp only [List.mem_cons, List.not_mem_nil, or_false, not_or]
      exact ⟨fun z => (by rw [z, gL] at e; cases e), fun z => (by rw [z, gI] at e; cases e)⟩)
    have NF : News g L' (hideAll h₁ [L', I]) es := fun q hq => ⟨hideAll_get _ (N q (.tail _ (.tail _ hq))).1 (by
      simp only [List.mem_cons, List.not_mem_nil, or_false, not_or]
      exact ⟨(N q (.tail _ (.tail _ hq))).2.1, hnI q (.tail _ hq)⟩), (N q (.tail _ (.tail _ hq))).2⟩
    have rowsF := hφ _ NF kF
    obtain ⟨r, hr1, rfl⟩ : ∃ r, bs[i]? = some r ∧ v = .ref r.row := by
      rw [List.getElem?_map] at hv
      cases q : bs[i]? with
      | none => rw [q] at hv; cases hv
      | some x => rw [q] at hv; exact ⟨x, rfl, (Option.some.inj hv).symm⟩
    obtain ⟨f, hf1, hfa⟩ := pget rowsF i _ hr1
    change Later g L' tl2 (hideAll h₁ [L', I]) at lat
    generalize hideAll h₁ [L', I] = hF at hfa lat
    have hfw : f.ws.length = 11 ∧ f.cells.length ≤ 20 := hw_after hw (lastWs_len hwx) f (List.mem_of_getElem? hf1)
    obtain ⟨⟨tb, hRD⟩, ⟨vsw, nw, e7, pw⟩, ⟨loS, kvsS, hDS, pS⟩⟩ := hfa
    have hvl : vsw.length = 11 := pw.length.trans hfw.1
    have hsl : kvsS.length ≤ 20 := by rw [pS.length]; exact hfw.2
    have pwa : Paired (IsWord hF) (vsw ++ kvsS.map (·.2)) f.allW := papp pw (pvals pS)
    walk_at "KS0"
    apply Stop.in
    rename_i D3 h3 F3 N3 l3
    have nD3 : @Ne Nat I D3 := Nat.ne_of_lt l3.2.2.1
    have N3' : News g L' h3 ((D3, listOf (List.toArray (vsw ++ kvsS.map (·.2))) 0) :: (I, oI) :: tl2) := newsSub N3 fun q hq => by
      rcases List.mem_cons.mp hq with rfl | hq
      · exact .head _
      · exact .tail _ (.tail _ (.tail _ hq))
    refine loop_list (l := D3) (ol := listOf (List.toArray (vsw ++ kvsS.map (·.2))) 0) (items := vsw ++ kvsS.map (·.2)) (fun j m news => m "goes" = some (.int (((pre.length + 2 : Nat) : Int) - 1) tg) ∧ m "behind" = some (.ref _) ∧ m "at" = some (.int pl tp) ∧ news = (D3, listOf (List.toArray (vsw ++ kvsS.map (·.2))) 0) :: (I, oI) :: tl2 ∧ ∀ z ∈ f.allW.take j, z.pts (((pre.length + 2 : Nat) : Int) - 1) = false)
      rfl (fun h e => ⟨_, e, rfl, 0, rfl⟩) (fun i m' m'' news' h' hJ F N => by obtain ⟨_, _, _, rfl, _⟩ := hJ; exact News_at N (.head _)) (ne_L' F3 N3 (.head _)) F3 N3' ⟨by walk_at "LOOK", by walk_at "LOOK", by walk_at "LOOK", rfl, fun z hz => by simp at hz⟩ ?_ ?_
    · intro j v m4 news4 I4 oI4 h4 tk4 hv4 rq0 hnI4 F N
      obtain ⟨hn1, hn2, hn3, rfl, hJ4⟩ := rq0
      (try dsimp only at F N)
      obtain ⟨z, hz, t, rfl, vs0, et, hv0⟩ := pget pwa j v hv4
      have hzm : z ∈ allW (leftFs fpre fx fy) := List.mem_flatMap.mpr ⟨f, List.mem_of_getElem? hf1, List.mem_of_getElem? hz⟩
      have hJ5 : z.pts (((pre.length + 2 : Nat) : Int) - 1) = false → ∀ z ∈ f.allW.take (j + 1), z.pts (((pre.length + 2 : Nat) : Int) - 1) = false := fun e z2 hz2 => by
        rw [List.take_add_one, hz] at hz2
        rcases List.mem_append.mp hz2 with hz2 | hz2
        · exact hJ4 z2 hz2
        · simp only [Option.toList_some, List.mem_singleton] at hz2
          subst hz2
          exact e
      by_cases hst : z.tag = "stack"
      · obtain ⟨f0, o0, rfl⟩ := tag_stack hst
        clear hst
        cases hv0
        (try dsimp only)
        walk_at "KS0"
        all_goals first
          | exact (ei4 ⟨rfl, by assumption, by assumption, by assumption, by walk_at "LOOK", by walk_at "LOOK", by walk_at "LOOK", rfl, hJ5 (decide_eq_false (by assumption))⟩)
          | skip
        rename_i z5 _ T2 h6 _ _ T3 h7 F7 N7 _
        exact hret _ _ _ (keep_end hkeep F7) ⟨_, rfl, fresh_of hkeep N7 (.head _) (by simp), .inr ⟨_, _, _, News_at N7 (.head _), fresh_of hkeep N7 (.tail _ (.head _)) (by simp), News_at N7 (.tail _ (.head _)), _, hzm, decide_eq_true (by assumption)⟩⟩
      · have hzp : z.pts (((pre.length + 2 : Nat) : Int) - 1) = false := by
          cases z <;> first | rfl | exact absurd rfl hst
        (try dsimp only)
        walk_at "KS0"
        exact (ei4 ⟨rfl, by assumption, by assumption, by assumption, by walk_at "LOOK", by walk_at "LOOK", by walk_at "LOOK", rfl, hJ5 hzp⟩)
    · intro h' tk m' news' F N rq0
      obtain ⟨hn1, hn2, hn3, rfl, hJ4⟩ := rq0
      (try dsimp only at F N)
      walk_at "KS0"
      refine (ei4 ⟨rfl, by assumption, newsSub N (fun q hq => ?_), by assumption, ⟨tg, by walk_at "LOOK"⟩, by walk_at "LOOK", by walk_at "LOOK", rfl, fun z hz => ?_⟩)
      · rcases List.mem_cons.mp hq with rfl | hq
        · exact .tail _ (.head _)
        · exact .tail _ (.tail _ (hin q hq))
      · rw [List.take_of_length_le (by rw [pwa.length]; exact Nat.le_refl _)] at hJ4
        rcases (allW_succ hf1).mp hz with hz | hz | hz
        · exact hJ z hz
        · exact hJ4 z (List.mem_append.mpr (.inl hz))
        · exact hJ4 z (List.mem_append.mpr (.inr hz))
  · intro h' tk m' news' F N rq0
    obtain ⟨⟨tg, hm1⟩, hm2, hm3, rfl, hJ⟩ := rq0
    (try dsimp only at F N)
    walk_at "KS0"
    rename_i T h7 F7 N7 _
    rw [List.length_map] at hJ
    have hpl : (leftFs fpre fx fy).length = bs.length := by rw [hbl]; unfold leftFs; simp [hpg.length]
    rw [List.take_of_length_le (by omega)] at hJ
    exact hret _ _ _ (keep_end hkeep F7) ⟨_, rfl, fresh_of hkeep N7 (.head _) (by simp), .inl ⟨_, _, bs, _, News_at N7 (.head _), fresh_of hkeep N7 (.tail _ (.head _)) (by simp), News_at N7 (.tail _ (.head _)), hbs, rfl, fresh_bk fd (fun _ _ => hkeep.all), fresh_bk fR2 (fun _ _ => hkeep.all), hφ h7 (newsSub N7 fun q hq => .tail _ (.tail _ hq)) F7.keep, hJ⟩⟩
 case qh0 => (try delta id oq1 oq2); exact fun h => h

end
end
section
theorem kg70 : True := trivial
theorem slot_fd {k : Int} : (-(-8 * k - 8) - 1 : Int).fdiv 8 = k := by
  rw [Int.fdiv_eq_ediv_of_nonneg _ (by decide)]
  omega
theorem neq_mul {k : Int} : (-8 * k - 8) + 8 * (k + 1) = 0 := by omega
section
variable {w : World} {p : Program} {loose : List Str} {mean : ExcName → Option Value} {mg mb : Str → Option Value}

theorem kg71 : True := by
  k_with "Z71K_k_room" => (exact Nat.le_of_ble_eq_true rfl)
  k_with "Z71K_k_inst" => (case' zzhy => (refine' inst_base ?zzF ?zzh1 ?zzh2; (case zzF => k_asm); (case zzh1 => assumption); (case zzh2 => assumption)))
  k_with "Z71K_k_all" => (exact allLt_ne (by first | assumption | exact And.right (by assumption) | exact And.right (And.right (by assumption)) | exact And.right (And.right (And.right (by assumption)))))
  k_with "Z71K_k_all" => (assumption)
  k_with "Z71K_k_mem" => (assumption)
  k_with "Z71ite" => (k_here; k_openite; first | (refine ite_pos (by first | omega | (simp only [beq_iff_eq, bne_iff_ne, decide_eq_true_eq, ne_eq]; omega)) ?_) | (refine ite_neg (by first | omega | (simp only [beq_iff_eq, bne_iff_ne, decide_eq_true_eq, ne_eq]; omega)) ?_))
  trivial
theorem slotof_sp {s : Shared} {k : Int} {t : Tok} (h0 : 0 ≤ k) (h1 : k ≤ 2) : Sp w p loose mean mg mb 28 604 [.int (-8 * k - 8) t] [] s (fun v h => ∃ u, v = .int k u) := by
 refine no_implicit_lambda% ((?qf0 : @Wit ?qp0 ?qe0 → ?qp0) (wit2 ?q00 ?qh0))
 case qf0 => exact fun _ => ?qe0
 case q00 =>
  intro A₀ base h₀ env outer L m R B F X T hf hke hM hret
  k_dflt (refine' enter (H := []) (news := []) (binds := [(Str.ofString "off", .int (-8 * k - 8) t)]) B F X T hf hke (fun a ha => nomatch ha) (fun q hq => nomatch hq) ?ho ?hcd ?hb ?hl ?_ ?hc ?hr ?c1 ?c2 ?c3)
  case ho => k_is
  case hcd => k_is
  case hb => exact BindsTo.of_eq rfl
  case hl => exact locs rfl
  case hc => decide
  case hr => exact Nat.le_of_ble_eq_true rfl
  case c1 => exact rfl
  case c2 => exact rfl
  case c3 => exact rfl
  intro g L' h₁ tk₁ hkeep hback F' hL' N' hk1 B' X' T'
  clear B F X T
  (try dsimp only)
  (try k_fold)
  k_steps
  (try dsimp only)
  refine hret _ _ _ (keep_end hkeep (by assumption)) (endI slot_fd)
 case qh0 => (try delta id oq1 oq2); exact fun h => h

theorem kx5 : True := by
  k_with "Z71call ref" => (k_here; (with_reducible show wpAny _ _ (call (Value.ref 604) _) _ _ _); case' zzhy => (k_dflt ( (refine' call_eq (f' := Value.ref 604) (vs' := [Value.int _ _]) ?zzca ?zzcb ?_; (case zzca => exact rfl); (case zzcb => exact rfl)); (refine' use_sp (slotof_sp ?zzp0 ?zzp1) ?zzuB ?zzuF ?zzuX ?zzuT ?zzuA ?zzuf ?zzuk ?zzuh ?zzud ?zzuu ?zzuM ?_; (case zzp0 => assumption); (case zzp1 => assumption); (case zzuB => k_asm); (case zzuF => k_asm); (case zzuX => k_asm); (case zzuT => k_asm); (case zzuA => exact rfl); (case zzuf => exact rfl); (case zzuk => exact rfl); (case zzuh => exact rfl); (case zzud => exact Nat.le_of_ble_eq_true rfl); (case zzuu => exact Nat.le_of_ble_eq_true rfl); (case zzuM => exact fun zza zzha => nomatch zzha); k_whole); (intro zzv' zzh' zztk' zzK' zzF' zzP'); (obtain ⟨zzu', zze'⟩ := zzP'); subst zze'; (refine (fun zzN' => ?_) (newsKeep (M := []) (by assumption) (fun _ _ => List.not_mem_nil) zzK')); (try dsimp only))))
  trivial
theorem place_sp {s : Shared} {k : Int} {t : Tok} (h0 : 0 ≤ k) (h1 : k ≤ 2) : Sp w p loose mean mg mb 26 611 [.int (-8 * k - 8) t] [] s (fun v h => ∃ u, v = .int 0 u) := by
 refine no_implicit_lambda% ((?qf0 : @Wit ?qp0 ?qe0 → ?qp0) (wit2 ?q00 ?qh0))
 case qf0 => exact fun _ => ?qe0
 case q00 =>
  intro A₀ base h₀ env outer L m R B F X T hf hke hM hret
  k_dflt (refine' enter (H := []) (news := []) (binds := [(Str.ofString "off", .int (-8 * k - 8) t)]) B F X T hf hke (fun a ha => nomatch ha) (fun q hq => nomatch hq) ?ho ?hcd ?hb ?hl ?_ ?hc ?hr ?c1 ?c2 ?c3)
  case ho => k_is
  case hcd => k_is
  case hb => exact BindsTo.of_eq rfl
  case hl => exact locs rfl
  case hc => decide
  case hr => exact Nat.le_of_ble_eq_true rfl
  case c1 => exact rfl
  case c2 => exact rfl
  case c3 => exact rfl
  intro g L' h₁ tk₁ hkeep hback F' hL' N' hk1 B' X' T'
  clear B F X T
  (try dsimp only)
  (try k_fold)
  k_steps
  (try dsimp only)
  refine hret _ _ _ (keep_end hkeep (by assumption)) (endI neq_mul)
 case qh0 => (try delta id oq1 oq2); exact fun h => h

theorem kx6 : True := by
  k_with "Z71call ref" => (k_here; (with_reducible show wpAny _ _ (call (Value.ref 611) _) _ _ _); case' zzhy => (k_dflt ( (refine' call_eq (f' := Value.ref 611) (vs' := [Value.int _ _]) ?zzca ?zzcb ?_; (case zzca => exact rfl); (case zzcb => exact rfl)); (refine' use_sp (place_sp ?zzp0 ?zzp1) ?zzuB ?zzuF ?zzuX ?zzuT ?zzuA ?zzuf ?zzuk ?zzuh ?zzud ?zzuu ?zzuM ?_; (case zzp0 => assumption); (case zzp1 => assumption); (case zzuB => k_asm); (case zzuF => k_asm); (case zzuX => k_asm); (case zzuT => k_asm); (case zzuA => exact rfl); (case zzuf => exact rfl); (case zzuk => exact rfl); (case zzuh => exact rfl); (case zzud => exact Nat.le_of_ble_eq_true rfl); (case zzuu => exact Nat.le_of_ble_eq_true rfl); (case zzuM => exact fun zza zzha => nomatch zzha); k_whole); (intro zzv' zzh' zztk' zzK' zzF' zzP'); (obtain ⟨zzu', zze'⟩ := zzP'); subst zze'; (refine (fun zzN' => ?_) (newsKeep (M := []) (by assumption) (fun _ _ => List.not_mem_nil) zzK')); (try dsimp only))))
  trivial
theorem whole_sp {s : Shared} {k : Int} {t t8 : Tok} (h0 : 0 ≤ k) (h1 : k ≤ 2) : Sp w p loose mean mg mb 24 632 [.int (-8 * k - 8) t, .int 8 t8] [] s (fun v h => v = .bool true) := by
 refine no_implicit_lambda% ((?qf0 : @Wit ?qp0 ?qe0 → ?qp0) (wit2 ?q00 ?qh0))
 case qf0 => exact fun _ => ?qe0
 case q00 =>
  intro A₀ base h₀ env outer L m R B F X T hf hke hM hret
  k_dflt (refine' enter (H := []) (news := []) (binds := [(Str.ofString "off", .int (-8 * k - 8) t), (Str.ofString "width", .int 8 t8)]) B F X T hf hke (fun a ha => nomatch ha) (fun q hq => nomatch hq) ?ho ?hcd ?hb ?hl ?_ ?hc ?hr ?c1 ?c2 ?c3)
  case ho => k_is
  case hcd => k_is
  case hb => exact BindsTo.of_eq rfl
  case hl => exact locs rfl
  case hc => decide
  case hr => exact Nat.le_of_ble_eq_true rfl
  case c1 => exact rfl
  case c2 => exact rfl
  case c3 => exact rfl
  intro g L' h₁ tk₁ hkeep hback F' hL' N' hk1 B' X' T'
  clear B F X T
  (try dsimp only)
  (try k_fold)
  k_steps
  all_goals (try dsimp only)
  all_goals refine hret _ _ _ (keep_end hkeep (by assumption)) rfl
 case qh0 => (try delta id oq1 oq2); exact fun h => h

theorem within_sp {s : Shared} {k : Int} {t t8 : Tok} (h0 : 0 ≤ k) (h1 : k ≤ 2) : Sp w p loose mean mg mb 24 625 [.int (-8 * k - 8) t, .int 8 t8] [] s (fun v h => v = .none) := by
 refine no_implicit_lambda% ((?qf0 : @Wit ?qp0 ?qe0 → ?qp0) (wit2 ?q00 ?qh0))
 case qf0 => exact fun _ => ?qe0
 case q00 =>
  intro A₀ base h₀ env outer L m R B F X T hf hke hM hret
  k_dflt (refine' enter (H := []) (news := []) (binds := [(Str.ofString "off", .int (-8 * k - 8) t), (Str.ofString "width", .int 8 t8)]) B F X T hf hke (fun a ha => nomatch ha) (fun q hq => nomatch hq) ?ho ?hcd ?hb ?hl ?_ ?hc ?hr ?c1 ?c2 ?c3)
  case ho => k_is
  case hcd => k_is
  case hb => exact BindsTo.of_eq rfl
  case hl => exact locs rfl
  case hc => decide
  case hr => exact Nat.le_of_ble_eq_true rfl
  case c1 => exact rfl
  case c2 => exact rfl
  case c3 => exact rfl
  intro g L' h₁ tk₁ hkeep hback F' hL' N' hk1 B' X' T'
  clear B F X T
  (try dsimp only)
  (try k_fold)
  k_steps
  all_goals (try dsimp only)
  all_goals first | (refine hret _ _ _ (keep_end hkeep (by assumption)) rfl)
 case qh0 => (try delta id oq1 oq2); exact fun h => h

end
end
section
theorem kg72 : True := trivial

def storedW (kxs : List (Int × W)) (k : Int) (x : W) : List (Int × W) := if kxs.any (fun kx => kx.1 = k) then kxs.map (fun kx => if kx.1 = k then (kx.1, x) else kx) else kxs ++ [(k, x)]
theorem any_keys {P : Params} {h : Heap} {k : Int} : ∀ {kvs : List (Int × Value)} {kxs : List (Int × W)}, Paired (IsCellW P h) kvs kxs → (kvs.any fun kv => kv.1 = k) = (kxs.any fun kx => kx.1 = k) := by
  intro kvs kxs p
  induction p with
  | nil => rfl
  | cons q t ih => rw [List.any_cons, List.any_cons, ih, q.1]
theorem map_keys {P : Params} {h : Heap} {k : Int} {c : Addr} {x : W} (hc : CellW P h c x) : ∀ {kvs : List (Int × Value)} {kxs : List (Int × W)}, Paired (IsCellW P h) kvs kxs → Paired (IsCellW P h) (kvs.map (fun kv => if kv.1 = k then (kv.1, .ref c) else kv)) (kxs.map (fun kx => if kx.1 = k then (kx.1, x) else kx))
  | _, _, .nil => .nil
  | _, _, .cons (a := a) (b := b) q t => by
    refine .cons ?_ (map_keys hc t)
    dsimp only
    rw [← q.1]
    by_cases z : a.1 = k
    · rw [if_pos z, if_pos z]
      exact ⟨rfl, c, rfl, hc⟩
    · rw [if_neg z, if_neg z]
      exact q
theorem paired_stored {P : Params} {h : Heap} {kvs : List (Int × Value)} {kxs : List (Int × W)} {k : Int} {c : Addr} {x : W} (p : Paired (IsCellW P h) kvs kxs) (hc : CellW P h c x) : Paired (IsCellW P h) (stored kvs k (.ref c)) (storedW kxs k x) := by
  unfold stored storedW
  rw [any_keys p]
  by_cases z : (kxs.any fun kx => kx.1 = k) = true
  · rw [if_pos z, if_pos z]
    exact map_keys hc p
  · rw [if_neg z, if_neg z]
    exact p.snoc ⟨rfl, c, rfl, hc⟩
theorem cellw_news {P : Params} {g h : Heap} {L c d a : Addr} {m : Str → Option Value} {news : List (Addr × Obj)} {x : W} {t0 t1 tk : Tok} (F : Fr g L h m) (N : News g L h news) (m1 : (c, instObj 440 d) ∈ news) (m2 : (d, dictOf [ent P "kinds" t0 (.str "ssssssss" tk), ent P "reg" t1 (.ref a)] 2) ∈ news) (r : RegW P g a x) : CellW P h c x :=
  ⟨d, t0, t1, tk, a, (N _ m1).1, (N _ m2).1, r.keepI (KeepI.of F.keep)⟩
theorem imm_dictO {w : World} {o : Obj} {kvs : List (Int × Value)} (x : o.IsDictOf (intKind Pg w) kvs) : isImm o = false := by
 refine no_implicit_lambda% ((?qf0 : @Wit ?qp0 ?qe0 → ?qp0) (wit2 ?q00 ?qh0))
 case qf0 => exact fun _ => ?qe0
 case q00 =>
  have : ({ objs := #[o] } : Heap).get? 0 = some o ∨ True := .inr trivial
  obtain ⟨es, ep, hc, hd, hk, _⟩ := x
  obtain ⟨c, dd, dt, sl⟩ := o
  obtain ⟨c1, c2, c3⟩ := hc
  (try dsimp only at c1 c2 c3 hd)
  subst c1 c2 c3 hd
  refine imm_keys fun e he x _ => ?_
  obtain ⟨k, hk, _⟩ := hk e (Array.mem_toList_iff.mp he)
  obtain ⟨t, ht⟩ := Value.isInt_shape (show Value.isInt k e.key = true from hk)
  rw [ht]
  rfl
 case qh0 => (try delta id oq1 oq2); exact fun h => h

section
variable {w : World} {p : Program} {loose : List Str} {mean : ExcName → Option Value} {mg mb : Str → Option Value}

theorem kg73 : True := by
  k_with "Z73K_k_room" => (exact Nat.le_of_ble_eq_true rfl)
  k_with "Z73K_k_inst" => (case' zzhy => (refine' inst_base ?zzF ?zzh1 ?zzh2; (case zzF => k_asm); (case zzh1 => assumption); (case zzh2 => assumption)))
  k_with "Z73K_k_all" => (exact allLt_ne (by first | assumption | exact And.right (by assumption) | exact And.right (And.right (by assumption)) | exact And.right (And.right (And.right (by assumption)))))
  k_with "Z73K_k_all" => (assumption)
  k_with "Z73K_k_mem" => (assumption)
  k_with "Z73ite" => (k_here; k_openite; first | (refine ite_pos (by first | omega | (simp only [beq_iff_eq, bne_iff_ne, decide_eq_true_eq, ne_eq]; omega)) ?_) | (refine ite_neg (by first | omega | (simp only [beq_iff_eq, bne_iff_ne, decide_eq_true_eq, ne_eq]; omega)) ?_))
  k_with "Z73setItem ref int" => (k_here; (with_reducible show wpAny _ _ (setItem (Value.ref _) (Value.int _ _) _) _ _ _); case' zzhy => (k_dflt ((refine' kda_set (knd := intKind Pg _) ?zzk1 ?zzk2 ?zzk3 ?zzk4 ?zzk5 ?zzk6 ?_; (case zzk1 => k_asm); (case zzk2 => k_asm); (case zzk3 => k_updF); (case zzk4 => assumption); (case zzk5 => exact intKind_is _ _ _ _); (case zzk6 => (rw [sizeLine_eq]; omega))); intro zzh' zzo' zzF' zzN' zzd'; (try dsimp only [List.nil_append, List.cons_append] at zzN'))))
  trivial
theorem putcell_sp {s : Shared} {x : FA} {b k : Int} {t : Tok} {c : Addr} {wx : W} {kvs : List (Int × Value)} (hfr : FrameFix w.params s.heap x b) (hD : s.heap.DictOf (intKind Pg w) x.C kvs) (hc : CellW w.params s.heap c wx) (hk : kvs.length ≤ 1000) :
    Sp w p loose mean mg mb 22 493 [.ref x.fr, .int k t, .ref c] [x.C] s (fun v h => v = .none ∧ CellW w.params h c wx ∧ h.DictOf (intKind Pg w) x.C (stored kvs k (.ref c))) := by
 refine no_implicit_lambda% ((?qf0 : @Wit ?qp0 ?qe0 → ?qp0) (wit2 ?q00 ?qh0))
 case qf0 => exact fun _ => ?qe0
 case q00 =>
  obtain ⟨oC, eC, dC⟩ := Heap.dictOf_iff.mp hD
  have iC := imm_dictO dC
  intro A₀ base h₀ env outer L m R B F X T hf hke hM hret
  k_dflt (refine' enter (H := [x.C]) (news := [(x.C, oC)]) (binds := [(Str.ofString "self", .ref x.fr), (Str.ofString "slot", .int k t), (Str.ofString "cell", .ref c)]) B F X T hf hke (fun a ha => hM a ha) (fun q hq => by rcases List.mem_singleton.mp hq with rfl; exact ⟨eC, .head _⟩) ?ho ?hcd ?hb ?hl ?_ ?hc ?hr ?c1 ?c2 ?c3)
  case ho => k_is
  case hcd => k_is
  case hb => exact BindsTo.of_eq rfl
  case hl => exact locs rfl
  case hc => decide
  case hr => exact Nat.le_of_ble_eq_true rfl
  case c1 => exact rfl
  case c2 => exact rfl
  case c3 => exact rfl
  intro g L' h₁ tk₁ hkeep hback F' hL' N' hk1 B' X' T'
  clear B F X T
  have kI : KeepI s.heap g := hkeep.keepI fun a ha o ho => by
    rcases List.mem_singleton.mp ha with rfl
    rw [eC] at ho
    cases ho
    exact iC
  have hcg : CellW w.params g c wx := hc.keepI kI
  have hfg : FrameFix w.params g x b := hfr.keepI kI
  obtain ⟨d, q0, q1, q2, qb, e4, e5⟩ := id hfg
  obtain ⟨dc, y0, y1, yk, ra, e7, e8, hra⟩ := id hcg
  (try dsimp only)
  (try k_fold)
  k_steps
  rename_i oN hF hN hdN
  exact hret _ _ _ (keep_end hkeep (by assumption)) ⟨rfl, hcg.keepI (KeepI.of hF.keep), Heap.dictOf_iff.mpr ⟨_, News_at hN (.head _), hdN⟩⟩
 case qh0 => (try delta id oq1 oq2); exact fun h => h

theorem kx7 : True := by
  k_with "Z73call ref" => (k_here; (with_reducible show wpAny _ _ (call (Value.ref 604) _) _ _ _); case' zzhy => (k_dflt ( (refine' call_eq (f' := Value.ref 604) (vs' := [Value.int _ _]) ?zzca ?zzcb ?_; (case zzca => exact rfl); (case zzcb => exact rfl)); (refine' use_sp (slotof_sp ?zzp0 ?zzp1) ?zzuB ?zzuF ?zzuX ?zzuT ?zzuA ?zzuf ?zzuk ?zzuh ?zzud ?zzuu ?zzuM ?_; (case zzuA => exact rfl); (case zzuf => exact rfl); (case zzuk => exact rfl); (case zzuF => k_asm); (case zzuB => k_asm); (case zzuX => k_asm); (case zzuT => k_asm); (case zzp0 => assumption); (case zzp1 => assumption); (case zzuh => exact rfl); (case zzud => exact Nat.le_of_ble_eq_true rfl); (case zzuu => exact Nat.le_of_ble_eq_true rfl); (case zzuM => exact fun zza zzha => nomatch zzha); k_whole); (intro zzv' zzh' zztk' zzK' zzF' zzP'); (obtain ⟨zzu', zze'⟩ := zzP'); subst zze'; (refine (fun zzN' => ?_) (newsKeep (M := []) (by assumption) (fun _ _ => List.not_mem_nil) zzK')); (try dsimp only))))
  k_with "Z73call ref" => (k_here; (with_reducible show wpAny _ _ (call (Value.ref 632) _) _ _ _); case' zzhy => (k_dflt ( (refine' call_eq (f' := Value.ref 632) (vs' := [Value.int _ _, Value.int 8 _]) ?zzca ?zzcb ?_; (case zzca => exact rfl); (case zzcb => exact rfl)); (refine' use_sp (whole_sp ?zzp0 ?zzp1) ?zzuB ?zzuF ?zzuX ?zzuT ?zzuA ?zzuf ?zzuk ?zzuh ?zzud ?zzuu ?zzuM ?_; (case zzuA => exact rfl); (case zzuf => exact rfl); (case zzuk => exact rfl); (case zzuF => k_asm); (case zzuB => k_asm); (case zzuX => k_asm); (case zzuT => k_asm); (case zzp0 => assumption); (case zzp1 => assumption); (case zzuh => exact rfl); (case zzud => exact Nat.le_of_ble_eq_true rfl); (case zzuu => exact Nat.le_of_ble_eq_true rfl); (case zzuM => exact fun zza zzha => nomatch zzha); k_whole); (intro zzv' zzh' zztk' zzK' zzF' zzP'); subst zzP'; (refine (fun zzN' => ?_) (newsKeep (M := []) (by assumption) (fun _ _ => List.not_mem_nil) zzK')); (try dsimp only))))
  k_with "Z73call ref" => (k_here; (with_reducible show wpAny _ _ (call (Value.ref 625) _) _ _ _); case' zzhy => (k_dflt ( (refine' call_eq (f' := Value.ref 625) (vs' := [Value.int _ _, Value.int 8 _]) ?zzca ?zzcb ?_; (case zzca => exact rfl); (case zzcb => exact rfl)); (refine' use_sp (within_sp ?zzp0 ?zzp1) ?zzuB ?zzuF ?zzuX ?zzuT ?zzuA ?zzuf ?zzuk ?zzuh ?zzud ?zzuu ?zzuM ?_; (case zzuA => exact rfl); (case zzuf => exact rfl); (case zzuk => exact rfl); (case zzuF => k_asm); (case zzuB => k_asm); (case zzuX => k_asm); (case zzuT => k_asm); (case zzp0 => assumption); (case zzp1 => assumption); (case zzuh => exact rfl); (case zzud => exact Nat.le_of_ble_eq_true rfl); (case zzuu => exact Nat.le_of_ble_eq_true rfl); (case zzuM => exact fun zza zzha => nomatch zzha); k_whole); (intro zzv' zzh' zztk' zzK' zzF' zzP'); subst zzP'; (refine (fun zzN' => ?_) (newsKeep (M := []) (by assumption) (fun _ _ => List.not_mem_nil) zzK')); (try dsimp only))))
  k_with "Z73call ref" => (k_here; (with_reducible show wpAny _ _ (call (Value.ref 493) _) _ _ _); case' zzhy => (k_dflt ( (refine' call_eq (f' := Value.ref 493) (vs' := [Value.ref _, Value.int _ _, Value.ref _]) ?zzca ?zzcb ?_; (case zzca => exact rfl); (case zzcb => exact rfl)); (refine' use_sp (putcell_sp ?zzp0 ?zzp1 ?zzp2 ?zzp3) ?zzuB ?zzuF ?zzuX ?zzuT ?zzuA ?zzuf ?zzuk ?zzuh ?zzud ?zzuu ?zzuM ?_; (case zzuA => exact rfl); (case zzuf => exact rfl); (case zzuk => exact rfl); (case zzuF => k_asm); (case zzuB => k_asm); (case zzuX => k_asm); (case zzuT => k_asm); (case zzp0 => exact fix_base (by k_asm) (by assumption)); (case zzp1 => exact kda_dict (by k_asm) (by k_mem) (by assumption)); (case zzp2 => exact cellw_news (by k_asm) (by k_asm) (by k_mem) (by k_mem) (by assumption)); (case zzp3 => omega); (case zzuh => exact rfl); (case zzud => exact Nat.le_of_ble_eq_true rfl); (case zzuu => exact Nat.le_of_ble_eq_true rfl); (case zzuM => exact newsHid (by k_asm) (by k_mem)); k_whole); (intro zzv' zzh' zztk' zzK' zzF' zzP'); (obtain ⟨zze', zzcw', zzdd'⟩ := zzP'); subst zze'; (obtain ⟨zzoC', zzeC', zzdC'⟩ := Heap.dictOf_iff.mp zzdd'); (refine' (fun zzN' => ?_) (newsUpd ?zzuN ?zzuU zzK' zzeC'); (case zzuN => k_asm); (case zzuU => k_upd); (try dsimp only at zzN')); (try dsimp only))))
  k_with "Z73subscriptTail" => (k_here; (with_reducible show wpAny _ _ (subscriptTail _ _ (Value.ref _) (Value.int _ _)) _ _ _); case' zzhy => (k_dflt ((refine' item_litK ?zzk1 ?zzk2 ?zzk3 ?zzk4 ?_ ?zzk6; (case zzk1 => exact listOf_base (by k_asm) (by assumption)); (case zzk2 => assumption); (case zzk3 => omega); (case zzk4 => assumption); (case zzk6 => with_unfolding_all rfl); k_whole))))
  trivial
theorem swrite_sp {s : Shared} {st sd fl rl : Addr} {xs : List FA} {x : FA} {b k j : Int} {tj t t8 : Tok} {a : Addr} {wx : W} {kxs : List (Int × W)} (S : StFix w.params s.heap st sd fl rl xs) (hj0 : 0 ≤ j) (hj1 : j < 100) (hat : (xs.map fun x => Value.ref x.fr)[j.toNat]? = some (.ref x.fr))
    (hfr : FrameFix w.params s.heap x b) (hcs : CellsAt w s.heap x.C kxs) (ra : RegW w.params s.heap a wx) (hk0 : 0 ≤ k) (hk1 : k ≤ 2) (hkl : kxs.length ≤ 100) :
    Sp w p loose mean mg mb 14 651 [.ref st, .int j tj, .int (-8 * k - 8) t, .int 8 t8, .ref a] [x.C] s (fun v h => v = .none ∧ CellsAt w h x.C (storedW kxs k wx)) := by
 refine no_implicit_lambda% ((?qf0 : @Wit ?qp0 ?qe0 → ?qp0) (wit2 ?q00 ?qh0))
 case qf0 => exact fun _ => ?qe0
 case q00 =>
  obtain ⟨lo, kvs, hD, pc⟩ := id hcs
  obtain ⟨oC, eC, dC⟩ := Heap.dictOf_iff.mp hD
  have iC := imm_dictO dC
  have hkl2 : kvs.length ≤ 100 := by rw [pc.length]; exact hkl
  intro A₀ base h₀ env outer L m R B F X T hf hke hM hret
  k_dflt (refine' enter (H := [x.C]) (news := [(x.C, oC)]) (binds := [(Str.ofString "state", .ref st), (Str.ofString "frame", .int j tj), (Str.ofString "off", .int (-8 * k - 8) t), (Str.ofString "width", .int 8 t8), (Str.ofString "reg", .ref a)]) B F X T hf hke (fun a ha => hM a ha) (fun q hq => by rcases List.mem_singleton.mp hq with rfl; exact ⟨eC, .head _⟩) ?ho ?hcd ?hb ?hl ?_ ?hc ?hr ?c1 ?c2 ?c3)
  case ho => k_is
  case hcd => k_is
  case hb => exact BindsTo.of_eq rfl
  case hl => exact locs rfl
  case hc => decide
  case hr => exact Nat.le_of_ble_eq_true rfl
  case c1 => exact rfl
  case c2 => exact rfl
  case c3 => exact rfl
  intro g L' h₁ tk₁ hkeep hback F' hL' N' hk1 B' X' T'
  clear B F X T
  have kI : KeepI s.heap g := hkeep.keepI fun a ha o ho => by
    rcases List.mem_singleton.mp ha with rfl
    rw [eC] at ho
    cases ho
    exact iC
  have hfg : FrameFix w.params g x b := hfr.keepI kI
  have hag : RegW w.params g a wx := ra.keepI kI
  have pcg : Paired (IsCellW w.params g) kvs kxs := pmono (fun _ _ q => q.keepI kI) pc
  have Sg : StFix w.params g st sd fl rl xs := S.all fun b' o hb e => hkeep _ _ (by
    rw [List.mem_singleton]
    rcases hb with rfl | rfl | rfl
    · exact fun z => by
        obtain ⟨e1, _, _⟩ := S
        rw [← z, e1] at eC
        cases eC
        cases iC
    · obtain ⟨_, ⟨t0, t1, t2, t3, e2⟩, _⟩ := S
      have hSD : IsStD w.params s.heap b' := (ei6 (e2))
      exact fun z => hSD.ne_cells hcs z.symm
    · obtain ⟨_, _, n, e3⟩ := S
      exact fun z => cells_ne_list e3 hcs z.symm) e
  obtain ⟨e1, ⟨t0, t1, t2, t3, e2⟩, n, e3⟩ := id Sg
  obtain ⟨d, q0, q1, q2, qb, e4, e5⟩ := id hfg
  clear S hcs hfr ra pc
  (try dsimp only)
  (try k_fold)
  k_steps
  (try dsimp only)
  rename_i hh2 tk2 K2 F2 cw2 dd2 oC2 eC2 dC2 N2
  exact hret _ _ _ (keep_end hkeep F2) ⟨rfl, lo, _, dd2, paired_stored (pmono (fun _ _ q => q.keepI (KeepI.of F2.keep)) pcg) cw2⟩
 case qh0 => (try delta id oq1 oq2); exact fun h => h

end
end
section
theorem kg74 : True := trivial

section
variable {w : World} {A : Around} {E : Value → Shared → Prop} {s : Shared} {g : Heap} {L : Addr} {m : Str → Option Value} {news : List (Addr × Obj)}
theorem list_copySym {l : Addr} {vs : List Value} {Q : Value → Shared → Prop} (F : Fr g L s.heap m) (N : News g L s.heap news) (hl : s.heap.IsList l vs.toArray) (hz : vs.length ≤ 10000)
    (h : ∀ D c h', Fr g L h' m → News g L h' ((D, listOf vs.toArray c) :: news) → (∀ q ∈ news, q.1 < D) → Q (.ref D) { s with heap := h' }) :
    wpAny (model Pg w) A (call (.type "list") [.ref l]) Q E s := list_copyK F N hl h (by rw [sizeLine_eq, List.size_toArray]; omega)
theorem dict_symK {o : Addr} {kvs : List (Int × Value)} {Q : Value → Shared → Prop} (F : Fr g L s.heap m) (N : News g L s.heap news) (hbig : g.NoLimit) (lo : (o == sysModules) = false) (hD : s.heap.DictOf (intKind Pg w) o kvs) (hz : kvs.length ≤ 10000)
    (h : ∀ d ob h', Fr g L h' m → News g L h' ((d, ob) :: news) → (∀ p ∈ news, p.1 < d) → (d == sysModules) = false → ob.IsDictOf (intKind Pg w) kvs → Q (.ref d) { s with heap := h' }) :
    wpAny (model Pg w) A (call (.type "dict") [.ref o]) Q E s := by
 refine no_implicit_lambda% ((?qf0 : @Wit ?qp0 ?qe0 → ?qp0) (wit2 ?q00 ?qh0))
 case qf0 => exact fun _ => ?qe0
 case q00 =>
  refine kt_call_dict lo hD (by rw [sizeLine_eq]; omega) fun h' hd hs => ?_
  obtain ⟨ob, ho, hd'⟩ := Heap.dictOf_iff.mp hd
  have lt : ∀ p ∈ news, p.1 < s.heap.objs.size := fun p hp => Heap.lt_size (N p hp).1
  refine h s.heap.objs.size ob h' (F.filled hs) (fun q hq => ?_) lt (F.notModules (modules_low hbig)) hd'
  rcases List.mem_cons.mp hq with rfl | hq
  · refine ⟨ho, ?_, ?_⟩
    · obtain ⟨oL, _, _, hL, _⟩ := F.ns
      exact Nat.ne_of_gt (Heap.lt_size hL)
    · cases z : g.get? s.heap.objs.size with
      | none => rfl
      | some o' => exact absurd (Heap.lt_size (F.keep _ _ z)) (Nat.lt_irrefl _)
  · exact ⟨(hs.2 _ (Nat.ne_of_lt (lt q hq))).trans (Heap.get?_push_of_some _ (N q hq).1), (N q hq).2⟩
 case qh0 => (try delta id oq1 oq2); exact fun h => h

end
theorem end_fcopy {w : World} {s g h : Heap} {L x d C D : Addr} {oC : Obj} {vs : List Value} {kvs : List (Int × Value)} {n : Nat} {b : Int} {u t0 t1 t2 : Tok} {news2 : List (Addr × Obj)} (hk : Keep [] s g)
    (N : News g L h ((x, instObj 501 d) :: (d, dictOf [ent w.params "regs" t0 (.ref D), ent w.params "cells" t1 (.ref C), ent w.params "back" t2 (.int b u)] 3) :: (C, oC) :: (D, listOf vs.toArray n) :: news2))
    (hC : Obj.IsDictOf (intKind Pg w) oC kvs) (hCm : (C == sysModules) = false) (hDC : @Ne Nat D C) :
    ∃ y : FA, Value.ref x = .ref y.fr ∧ s.get? y.fr = none ∧ s.get? y.R = none ∧ s.get? y.C = none ∧ y.R ≠ y.C ∧ (y.C == sysModules) = false ∧ Made s h (fun h2 => FrameFix w.params h2 y b ∧ (∃ n, h2.get? y.R = some (listOf vs.toArray n)) ∧ h2.DictOf (intKind Pg w) y.C kvs) := by
 refine no_implicit_lambda% ((?qf0 : @Wit ?qp0 ?qe0 → ?qp0) (wit2 ?q00 ?qh0))
 case qf0 => exact fun _ => ?qe0
 case q00 =>
  have m1 := N _ (.head _)
  have m2 := N _ (.tail _ (.head _))
  have m3 := N _ (.tail _ (.tail _ (.head _)))
  have m4 := N _ (.tail _ (.tail _ (.tail _ (.head _))))
  have fr : ∀ q o, (q, o) ∈ ((x, instObj 501 d) :: (d, dictOf [ent w.params "regs" t0 (.ref D), ent w.params "cells" t1 (.ref C), ent w.params "back" t2 (.int b u)] 3) :: (C, oC) :: (D, listOf vs.toArray n) :: news2) → s.get? q = none := fun q o hq => fresh_of hk N hq (by simp)
  have f1 := fr _ _ (.head _)
  have f2 := fr _ _ (.tail _ (.head _))
  have f3 := fr _ _ (.tail _ (.tail _ (.head _)))
  have f4 := fr _ _ (.tail _ (.tail _ (.tail _ (.head _))))
  refine ⟨⟨x, D, C⟩, rfl, f1, f4, f3, hDC, hCm, fun h2 k2 => ⟨⟨d, t0, t1, t2, u, k2 _ _ f1 m1.1, k2 _ _ f2 m2.1⟩, ⟨n, k2 _ _ f4 m4.1⟩, ?_⟩⟩
  obtain ⟨es, ep, r⟩ := hC
  exact ⟨oC, es, ep, k2 _ _ f3 m3.1, r⟩
 case qh0 => (try delta id oq1 oq2); exact fun h => h

section
variable {w : World} {p : Program} {loose : List Str} {mean : ExcName → Option Value} {mg mb : Str → Option Value}

theorem kg75 : True := by
  k_with "Z75K_k_room" => (exact Nat.le_of_ble_eq_true rfl)
  k_with "Z75K_k_inst" => (case' zzhy => (refine' inst_base ?zzF ?zzh1 ?zzh2; (case zzF => k_asm); (case zzh1 => assumption); (case zzh2 => assumption)))
  k_with "Z75K_k_all" => (exact allLt_ne (by first | assumption | exact And.right (by assumption) | exact And.right (And.right (by assumption)) | exact And.right (And.right (And.right (by assumption)))))
  k_with "Z75K_k_all" => (assumption)
  k_with "Z75K_k_mem" => (assumption)
  k_with "Z75subscriptTail Name Slice ref ref" => (k_here; (with_reducible show wpAny _ _ (subscriptTail _ (PySem.Expr.Slice _ _ none _) (Value.ref _) (Value.ref _)) _ _ _); case' zzhy => (k_dflt (refine' slice_symK ?zzzF ?zzzN ?zzzl ?zzzp ?zzzq ?zzze ?zzzz ?_ ?zzzs ?zzzt; (case zzzF => k_asm); (case zzzN => k_asm); (case zzzl => walk_at "ISLIST"); (case zzzp => kmk_part); (case zzzq => kmk_part); (case zzze => first | exact pick_last | exact pick_from); (case zzzs => with_unfolding_all rfl); (case zzzt => kmk_pure); (case zzzz => (simp only [List.length_map, List.length_append, List.length_cons, List.length_nil]; omega)); k_whole); intro zzD' zzh' zzF' zzN' zzl1'; k_lt zzl1'))
  k_with "Z75ISLIST" => (first | exact listOf_base (by k_asm) (by assumption) | exact list_news (by k_asm) (by k_mem))
  k_with "Z75call type:list" => (k_here; (with_reducible show wpAny _ _ (call (Value.type _) [Value.ref _]) _ _ _); case' zzhy => (k_dflt (refine' list_copySym ?zzzF ?zzzN ?zzzl ?zzzz ?_; (case zzzF => k_asm); (case zzzN => k_asm); (case zzzl => walk_at "ISLIST"); (case zzzz => omega); k_whole); intro zzD' zzc' zzh' zzF' zzN' zzl1'; k_lt zzl1'))
  k_with "Z75call type:dict" => (k_here; (with_reducible show wpAny _ _ (call (Value.type "dict") [Value.ref _]) _ _ _); case' zzhy => (k_dflt (refine' dict_symK ?zzzF ?zzzN ?zzzb ?zzzl ?zzzD ?zzzz ?_; (case zzzF => k_asm); (case zzzN => k_asm); (case zzzb => exact Top.nolimit (by k_asm)); (case zzzD => exact dictOf_keep (by assumption) (Fr.keep (by k_asm) _)); (case zzzl => assumption); (case zzzz => omega); k_whole); intro zzd' zzo' zzh' zzF' zzN' zzl1' zzlo' zzhd'; k_lt zzl1'))
  trivial
theorem fcopy_sp {s : Shared} {x : FA} {b : Int} {vs : List Value} {n' : Nat} {kvs : List (Int × Value)} (hfr : FrameFix w.params s.heap x b) (e6 : s.heap.get? x.R = some (listOf vs.toArray n')) (lo : (x.C == sysModules) = false) (hD : s.heap.DictOf (intKind Pg w) x.C kvs) (hv : vs.length ≤ 100) (hk : kvs.length ≤ 100) :
    Sp w p loose mean mg mb 22 479 [.ref x.fr] [] s (fun v h => ∃ y : FA, v = .ref y.fr ∧ s.heap.get? y.fr = none ∧ s.heap.get? y.R = none ∧ s.heap.get? y.C = none ∧ y.R ≠ y.C ∧ (y.C == sysModules) = false ∧ Made s.heap h (fun h2 => FrameFix w.params h2 y b ∧ (∃ n, h2.get? y.R = some (listOf vs.toArray n)) ∧ h2.DictOf (intKind Pg w) y.C kvs)) := by
 refine no_implicit_lambda% ((?qf0 : @Wit ?qp0 ?qe0 → ?qp0) (wit2 ?q00 ?qh0))
 case qf0 => exact fun _ => ?qe0
 case q00 =>
  intro A₀ base h₀ env outer L m R B F X T hf hke hM hret
  k_dflt (refine' enter (H := []) (news := []) (binds := [(Str.ofString "self", .ref x.fr)]) B F X T hf hke (fun a ha => nomatch ha) (fun q hq => nomatch hq) ?ho ?hcd ?hb ?hl ?_ ?hc ?hr ?c1 ?c2 ?c3)
  case ho => k_is
  case hcd => k_is
  case hb => exact BindsTo.of_eq rfl
  case hl => exact locs rfl
  case hc => decide
  case hr => exact Nat.le_of_ble_eq_true rfl
  case c1 => exact rfl
  case c2 => exact rfl
  case c3 => exact rfl
  intro g L' h₁ tk₁ hkeep hback F' hL' N' hk1 B' X' T'
  clear B F X T
  obtain ⟨d, t0, t1, t2, tb, e1, e2⟩ := hfr
  replace e1 := hkeep.all e1
  replace e2 := hkeep.all e2
  replace e6 := hkeep.all e6
  replace hD := dictOf_keep hD (fun o => hkeep.all (o := o))
  (try dsimp only)
  (try k_fold)
  k_steps
  refine hret _ _ _ (keep_end hkeep (by assumption)) ?_
  refine' end_fcopy hkeep ?zN ?zC ?zm ?zl
  case zN => assumption
  case zC => assumption
  case zm => assumption
  case zl => k_ne
 case qh0 => (try delta id oq1 oq2); exact fun h => h

end
end
section
theorem kg76 : True := trivial

structure Apart (s : Heap) (ys : List FA) : Prop where
  fR : ∀ y ∈ ys, s.get? y.R = none
  fC : ∀ y ∈ ys, s.get? y.C = none
  nR : (ys.map FA.R).Nodup
  nC : (ys.map FA.C).Nodup
theorem Apart.nil {s : Heap} : Apart s [] := ⟨(fun _ h => nomatch h), (fun _ h => nomatch h), List.nodup_nil, List.nodup_nil⟩
theorem Apart.snoc {w : World} {s h : Heap} {ys : List FA} {fs : List AF} {y : FA} (a : Apart s ys) (p : Paired (FrameAt w h) ys fs) (k : ∀ b o, s.get? b = some o → h.get? b = some o) (f2 : h.get? y.R = none) (f3 : h.get? y.C = none) : Apart s (ys ++ [y]) := by
 refine no_implicit_lambda% ((?qf0 : @Wit ?qp0 ?qe0 → ?qp0) (wit2 ?q00 ?qh0))
 case qf0 => exact fun _ => ?qe0
 case q00 =>
  refine ⟨?_, ?_, ?_, ?_⟩
  · intro z hz
    rcases List.mem_append.mp hz with hz | hz
    · exact a.fR z hz
    · rcases List.mem_singleton.mp hz with rfl
      exact fresh_bk f2 k
  · intro z hz
    rcases List.mem_append.mp hz with hz | hz
    · exact a.fC z hz
    · rcases List.mem_singleton.mp hz with rfl
      exact fresh_bk f3 k
  · rw [List.map_append, List.nodup_append]
    refine ⟨a.nR, by simp, fun q hq r hr => ?_⟩
    obtain ⟨z, hz, rfl⟩ := List.mem_map.mp hq
    simp only [List.map_cons, List.map_nil, List.mem_singleton] at hr
    subst hr
    obtain ⟨i, hi, ei⟩ := List.mem_iff_getElem.mp hz
    obtain ⟨f, _, hf⟩ := pget p i z (by rw [List.getElem?_eq_getElem hi, ei])
    obtain ⟨vs, n, e, _⟩ := hf.regs
    intro q
    rw [q, f2] at e
    cases e
  · rw [List.map_append, List.nodup_append]
    refine ⟨a.nC, by simp, fun q hq r hr => ?_⟩
    obtain ⟨z, hz, rfl⟩ := List.mem_map.mp hq
    simp only [List.map_cons, List.map_nil, List.mem_singleton] at hr
    subst hr
    obtain ⟨i, hi, ei⟩ := List.mem_iff_getElem.mp hz
    obtain ⟨f, _, hf⟩ := pget p i z (by rw [List.getElem?_eq_getElem hi, ei])
    obtain ⟨_, kvs, ⟨o, es, ep, e, _⟩, _⟩ := hf.cells
    intro q
    rw [q, f3] at e
    cases e
 case qh0 => (try delta id oq1 oq2); exact fun h => h

theorem Apart.back {s g : Heap} {ys : List FA} (a : Apart g ys) (k : ∀ b o, s.get? b = some o → g.get? b = some o) : Apart s ys := ⟨fun y h => fresh_bk (a.fR y h) k, fun y h => fresh_bk (a.fC y h) k, a.nR, a.nC⟩
theorem end_scopy {w : World} {s g h : Heap} {L x d r D : Addr} {m : Str → Option Value} {rs : List Value} {zs : List FA} {fs : List AF} {n : Nat} {u t0 t1 t2 : Tok} {news2 : List (Addr × Obj)} (hk : Keep [] s g) (F : Fr g L h m)
    (N : News g L h ((x, instObj 581 d) :: (d, dictOf [ent w.params "frames" t0 (.ref D), ent w.params "next_number" t1 (.int 9 u), ent w.params "rooms" t2 (.ref r)] 3) :: (r, listOf rs.toArray n) :: (D, LCg.lst (zs.map fun x => Value.ref x.fr)) :: news2))
    (ap : Apart g zs) (hI : ∀ h2, News g L h2 news2 → (∀ b o, g.get? b = some o → h2.get? b = some o) → Paired (FrameAt w h2) zs fs) :
    ∃ st2 sd2 fl2 rl2 ys n2, Value.ref x = .ref st2 ∧ s.get? st2 = none ∧ s.get? sd2 = none ∧ s.get? fl2 = none ∧ s.get? rl2 = none ∧ StFix w.params h st2 sd2 fl2 rl2 ys ∧ h.get? rl2 = some (listOf rs.toArray n2) ∧ Paired (FrameAt w h) ys fs ∧ Apart s ys := by
  have m1 := N _ (.head _)
  have m2 := N _ (.tail _ (.head _))
  have m3 := N _ (.tail _ (.tail _ (.head _)))
  have m4 := N _ (.tail _ (.tail _ (.tail _ (.head _))))
  have fr : ∀ q o, (q, o) ∈ ((x, instObj 581 d) :: (d, dictOf [ent w.params "frames" t0 (.ref D), ent w.params "next_number" t1 (.int 9 u), ent w.params "rooms" t2 (.ref r)] 3) :: (r, listOf rs.toArray n) :: (D, LCg.lst (zs.map fun x => Value.ref x.fr)) :: news2) → s.get? q = none := fun q o hq => fresh_of hk N hq (by simp)
  exact ⟨x, d, D, r, zs, n, rfl, fr _ _ (.head _), fr _ _ (.tail _ (.head _)), fr _ _ (.tail _ (.tail _ (.tail _ (.head _)))), fr _ _ (.tail _ (.tail _ (.head _))), ⟨m1.1, ⟨t0, t1, t2, u, m2.1⟩, ⟨_, m4.1⟩⟩, m3.1, hI h (newsSub N fun q hq => .tail _ (.tail _ (.tail _ (.tail _ hq)))) F.keep, ap.back fun _ _ => hk.all⟩
section
variable {w : World} {p : Program} {loose : List Str} {mean : ExcName → Option Value} {mg mb : Str → Option Value}
theorem kg77 : True := by
  k_with "Z77K_k_room" => (exact Nat.le_of_ble_eq_true rfl)
  k_with "Z77K_k_inst" => (case' zzhy => (refine' inst_base ?zzF ?zzh1 ?zzh2; (case zzF => k_asm); (case zzh1 => assumption); (case zzh2 => assumption)))
  k_with "Z77K_k_all" => (exact allLt_ne (by first | assumption | exact And.right (by assumption) | exact And.right (And.right (by assumption)) | exact And.right (And.right (And.right (by assumption)))))
  k_with "Z77K_k_all" => (assumption)
  k_with "Z77K_k_mem" => (assumption)
  k_with "Z77call type:list" => (k_here; (with_reducible show wpAny _ _ (call (Value.type _) [Value.ref _]) _ _ _); case' zzhy => (k_dflt (refine' list_copySym ?zzzF ?zzzN ?zzzl ?zzzz ?_; (case zzzF => k_asm); (case zzzN => k_asm); (case zzzl => walk_at "ISLIST"); (case zzzz => omega); k_whole); intro zzD' zzc' zzh' zzF' zzN' zzl1'; k_lt zzl1'))
  k_with "Z77subscriptTail Name Slice ref ref" => (k_here; (with_reducible show wpAny _ _ (subscriptTail _ (PySem.Expr.Slice _ _ none _) (Value.ref _) (Value.ref _)) _ _ _); case' zzhy => (k_dflt (refine' slice_symK ?zzzF ?zzzN ?zzzl ?zzzp ?zzzq ?zzze ?zzzz ?_ ?zzzs ?zzzt; (case zzzF => k_asm); (case zzzN => k_asm); (case zzzl => walk_at "ISLIST"); (case zzzp => kmk_part); (case zzzq => kmk_part); (case zzze => first | exact pick_last | exact pick_from); (case zzzs => with_unfolding_all rfl); (case zzzt => kmk_pure); (case zzzz => (simp only [List.length_map, List.length_append, List.length_cons, List.length_nil]; omega)); k_whole); intro zzD' zzh' zzF' zzN' zzl1'; k_lt zzl1'))
  k_with "Z77ISLIST" => (first | exact listOf_base (by k_asm) (by assumption) | exact list_news (by k_asm) (by k_mem))
  k_with "Z77CompEnd" => (refine Stop.out ?_)
  k_with "Z77eval ListComp" => (k_here; k_dflt (refine LCg.ListComp_U (F₀ := by k_asm) (by rfl) (by decide) (by rfl) (by decide) (by rfl) ?_))
  k_with "Z77exec Assign cons ListComp" => (k_here; k_dflt (refine LCg.Assign_ListComp_U (F₀ := by k_asm) (by rfl) (by with_unfolding_all rfl) (by rfl) (by decide) (by rfl) (by decide) (by rfl) (by rfl) (by rfl) ?_))
  k_with "Z77CompSrc" => (refine Stop.out ?_)
  k_with "Z77call ref" => (k_here; (with_reducible show wpAny _ _ (call (Value.ref 479) _) _ _ _); case' zzhy => (k_dflt ( (refine' call_eq (f' := Value.ref 479) (vs' := [Value.ref _]) ?zzca ?zzcb ?_; (case zzca => exact rfl); (case zzcb => exact rfl)); (refine' use_sp (fcopy_sp ?zzp0 ?zzp1 ?zzp2 ?zzp3 ?zzp4 ?zzp5) ?zzuB ?zzuF ?zzuX ?zzuT ?zzuA ?zzuf ?zzuk ?zzuh ?zzud ?zzuu ?zzuM ?_; (case zzp0 => exact fix_base (by k_asm) (by assumption)); (case zzp1 => exact Fr.keep (by k_asm) _ _ (by assumption)); (case zzp2 => assumption); (case zzp3 => exact dictOf_keep (by assumption) (Fr.keep (by k_asm) _)); (case zzp4 => omega); (case zzp5 => omega); (case zzuB => k_asm); (case zzuF => k_asm); (case zzuX => k_asm); (case zzuT => k_asm); (case zzuA => exact rfl); (case zzuf => exact rfl); (case zzuk => exact rfl); (case zzuh => exact rfl); (case zzud => exact Nat.le_of_ble_eq_true rfl); (case zzuu => exact Nat.le_of_ble_eq_true rfl); (case zzuM => exact fun zza zzha => nomatch zzha); k_whole); (intro zzv' zzh' zztk' zzK' zzF' zzP'); (obtain ⟨zzy', zze', zzf1', zzf2', zzf3', zzne', zzlo', zzmd'⟩ := zzP'); subst zze'; (try dsimp only))))
  trivial
theorem scopy_sp {s : Shared} {st sd fl rl : Addr} {xs : List FA} {fs : List AF} {rs : List Value} {nr : Nat} (S : StFix w.params s.heap st sd fl rl xs) (hfs : Paired (FrameAt w s.heap) xs fs) (er : s.heap.get? rl = some (listOf rs.toArray nr)) (hx : xs.length ≤ 20) (hw : ∀ f ∈ fs, f.ws.length = 11 ∧ f.cells.length ≤ 20) (hrs : rs.length ≤ 20) :
    Sp w p loose mean mg mb 12 524 [.ref st] [] s (fun v h => ∃ st2 sd2 fl2 rl2 ys n2, v = .ref st2 ∧ s.heap.get? st2 = none ∧ s.heap.get? sd2 = none ∧ s.heap.get? fl2 = none ∧ s.heap.get? rl2 = none ∧ StFix w.params h st2 sd2 fl2 rl2 ys ∧ h.get? rl2 = some (listOf rs.toArray n2) ∧ Paired (FrameAt w h) ys fs ∧ Apart s.heap ys) := by
 refine no_implicit_lambda% ((?qf0 : @Wit ?qp0 ?qe0 → ?qp0) (wit2 ?q00 ?qh0))
 case qf0 => exact fun _ => ?qe0
 case q00 =>
  intro A₀ base h₀ env outer L m R B F X T hf hke hM hret
  k_dflt (refine' enter (H := []) (news := []) (binds := [(Str.ofString "self", .ref st)]) B F X T hf hke (fun a ha => nomatch ha) (fun q hq => nomatch hq) ?ho ?hcd ?hb ?hl ?_ ?hc ?hr ?c1 ?c2 ?c3)
  case ho => k_is
  case hcd => k_is
  case hb => exact BindsTo.of_eq rfl
  case hl => exact locs rfl
  case hc => decide
  case hr => exact Nat.le_of_ble_eq_true rfl
  case c1 => exact rfl
  case c2 => exact rfl
  case c3 => exact rfl
  intro g L' h₁ tk₁ hkeep hback F' hL' N' hk1 B' X' T'
  clear B F X T
  have Sg : StFix w.params g st sd fl rl xs := S.all fun b o _ e => hkeep.all e
  have hg : Paired (FrameAt w g) xs fs := pmono (fun _ _ q => q.all hkeep) hfs
  have hgl := hg.length
  obtain ⟨e1, ⟨t0, t1, t2, t3, e2⟩, n, e3⟩ := id Sg
  replace er := hkeep.all er
  clear S hfs
  (try dsimp only)
  (try k_fold)
  k_steps
  apply Stop.in
  have hflL : g.IsList fl (xs.map fun x => Value.ref x.fr).toArray := ⟨_, e3, rfl, n, rfl⟩
  refine LCg.CompSrc.base (its := (xs.map fun x => Value.ref x.fr).toArray) (by rfl) (by k_asm) (by k_asm) hflL (by rw [sizeLine_eq]; simp; omega) ?_
  intro gH
  refine compRest_ind (fun i ys news => ∃ zs : List FA, ys = zs.map (fun x => Value.ref x.fr) ∧ Apart g zs ∧ ∀ h2, News g L' h2 news → (∀ b o, g.get? b = some o → h2.get? b = some o) → Paired (FrameAt w h2) zs (fs.take i)) ?_ ?_ _ 0 [] _ (Nat.zero_add _) ⟨[], rfl, .nil, fun _ _ _ => .nil⟩
  · intro i ys news v I oI C oC D m₂ h tk E' hi rq0 hP hC hx' F N off ne
    obtain ⟨zs, rfl, ap, hI⟩ := rq0
    obtain ⟨x, hx1, rfl⟩ : ∃ x, xs[i]? = some x ∧ v = .ref x.fr := by
      rw [List.getElem?_toArray, List.getElem?_map] at hP
      cases q : xs[i]? with
      | none => rw [q] at hP; cases hP
      | some x => rw [q] at hP; exact ⟨x, rfl, (Option.some.inj hP).symm⟩
    obtain ⟨f, hf1, hfa⟩ := pget hg i _ hx1
    obtain ⟨hw1, hw2⟩ := hw f (List.mem_of_getElem? hf1)
    obtain ⟨Fx, ⟨us, nu, e6, pr⟩, ⟨lo, kvs, hD, pc⟩⟩ := hfa
    obtain ⟨d, q0, q1, q2, qb, e4, e5⟩ := id Fx
    have hul : us.length = 11 := pr.length.trans hw1
    have hkl : kvs.length ≤ 20 := by rw [pc.length]; exact hw2
    k_steps
    apply Stop.in
    rename_i h5 tk5 K5 F5 y5 f15 f25 f35 ne5 lo5 md5
    obtain ⟨news', r1, r2, r3⟩ := comp_end N F off K5 hI md5
    have pz := hI h (newsSub N fun q hq => .tail _ (.tail _ (.tail _ hq))) F.keep
    refine (ei2 ⟨news', rfl, F5, r1, r2, .inl hflL, zs ++ [y5], by simp, ap.snoc pz F.keep f25 f35, fun h2 N2 k2 => ?_⟩)
    obtain ⟨p1, p2, ⟨n2, p3⟩, p4⟩ := r3 h2 N2
    rw [List.take_add_one, hf1]
    exact (p1 k2).snoc ⟨p2, ⟨us, n2, p3, pmono (fun _ _ q => q.keepI (KeepI.of k2)) pr⟩, ⟨lo5, kvs, p4, pmono (fun _ _ q => q.keepI (KeepI.of k2)) pc⟩⟩
  · intro ys news rq0
    obtain ⟨zs, rfl, ap, hI⟩ := rq0
    unfold LCg.FinE
    intro D hD tkD FD ND oD
    replace oD := off1_ne oD
    k_steps
    refine hret _ _ _ (keep_end hkeep (by assumption)) ?_
    refine' end_scopy (D := D) (news2 := news) hkeep ?zF ?zN ap (fun h2 N2 k2 => ?zI)
    case zF => assumption
    case zN => assumption
    case zI =>
      have := hI h2 N2 k2
      rwa [List.take_of_length_le (by simp; omega)] at this
 case qh0 => (try delta id oq1 oq2); exact fun h => h

end
end
section
theorem kg78 : True := trivial
abbrev lamQual : Str := ("_law_deed" : Str) ++ ".<locals>." ++ "<lambda>"
abbrev lamPos : List Pos := [⟨440, 27, 440, 62⟩, ⟨447, 23, 447, 47⟩]
theorem pen_later {g h hF : Heap} {L a l : Addr} {vals : List Value} {ns : List Int} {seat rest : Int} {t1 t2 : Tok} {n ln : Nat} {news : List (Addr × Obj)} (k : ∀ a o, hF.get? a = some o → h.get? a = some o) (N : News g L h news) (mem : (a, listOf [.ref l, .int seat t1, .int rest t2].toArray n) ∈ news)
    (hl : hF.get? l = some (listOf vals.toArray ln)) (hI : IntsAre vals ns) (hne : l ≠ a) (hfew : ns.length ≤ 40) (p : 0 ≤ seat) (r : 0 ≤ rest) : PenAt h a l vals ns seat rest :=
  ⟨⟨n, t1, t2, (N _ mem).1⟩, list_later k hl, hI, hne, hfew, p, r⟩

theorem fr_none {g h : Heap} {L d : Addr} {m : Str → Option Value} (F : Fr g L h m) (e : h.get? d = none) : g.get? d = none := by
  cases z : g.get? d with
  | none => rfl
  | some o => rw [F.keep _ _ z] at e; cases e
theorem fr_neL {g h : Heap} {L d : Addr} {m : Str → Option Value} (F : Fr g L h m) (e : h.get? d = none) : d ≠ L := by
 refine no_implicit_lambda% ((?qf0 : @Wit ?qp0 ?qe0 → ?qp0) (wit2 ?q00 ?qh0))
 case qf0 => exact fun _ => ?qe0
 case q00 =>
  rintro rfl
  obtain ⟨o, _, _, z, _⟩ := F.ns
  rw [z] at e
  cases e
 case qh0 => (try delta id oq1 oq2); exact fun h => h

theorem later_none {g h hF : Heap} {L d : Addr} {tl news : List (Addr × Obj)} {m : Str → Option Value} (lat : Later g L tl hF) (F : Fr g L h m) (N : News g L h news) (s : ∀ q ∈ tl, q ∈ news) (e : h.get? d = none) : hF.get? d = none := by
  cases z : hF.get? d with
  | none => rfl
  | some o => rw [lat.at F N s _ _ z] at e; cases e
theorem keepI_end {g h5 h7 : Heap} {L : Addr} {m7 : Str → Option Value} {tl news : List (Addr × Obj)} {ex : List Addr} (lat : Later g L tl (hideAll h5 (L :: ex))) (hi : ∀ o, h5.get? L = some o → isImm o = false) (F7 : Fr g L h7 m7) (N7 : News g L h7 news) (s : ∀ q ∈ tl, q ∈ news)
    (hx : ∀ b ∈ ex, (∀ o, h5.get? b = some o → isImm o = false) ∨ ∀ o, h5.get? b = some o → h7.get? b = some o) : KeepI h5 h7 := fun b o e i => by
  by_cases hb : b ∈ L :: ex
  · rcases List.mem_cons.mp hb with rfl | hb
    · rw [hi o e] at i
      cases i
    · rcases hx b hb with z | z
      · rw [z o e] at i
        cases i
      · exact z o e
  · exact lat.at F7 N7 s _ _ (hideAll_get _ e hb)
theorem deed_end {s g h7 : Heap} {a P L L' : Addr} {ms : List Addr} {m7 : Str → Option Value} (k : Keep (a :: P :: ms) s g) (F7 : Fr g L' h7 m7) : Keep ms (hideAll s [L, a, P]) (hideAll h7 [L, a, P]) := fun b o hb e => by
  obtain ⟨e1, e2⟩ := hide_some e
  simp only [List.mem_cons, List.not_mem_nil, or_false, not_or] at e2
  refine hideAll_get _ (F7.keep _ _ (k _ _ ?_ e1)) (by simp [e2])
  simp [e2, hb]
def AllNq (d : Addr) : List (Addr × Obj) → Prop
  | [] => True
  | p :: r => @Ne Nat d p.1 ∧ AllNq d r
theorem news_nes {g h : Heap} {L d : Addr} : ∀ {news : List (Addr × Obj)}, News g L h news → h.get? d = none → AllNq d news
  | [], _, _ => trivial
  | p :: r, N, e => ⟨(fun z => by rw [show d = p.1 from z, (N _ (.head _)).1] at e; cases e), news_nes (fun q hq => N q (.tail _ hq)) e⟩
theorem word_news {g h : Heap} {L t : Addr} {x : W} {vs : List Value} {news : List (Addr × Obj)} (N : News g L h news) (mem : (t, tupObj vs) ∈ news) (hv : x.Vals vs) : WordAt h t x := ⟨vs, (N _ mem).1, hv⟩
theorem inst_later {hF h : Heap} {x C dx : Addr} {od : Obj} (k : ∀ a o, hF.get? a = some o → h.get? a = some o) (h1 : hF.get? x = some (instObj C dx)) (h2 : hF.get? dx = some od) : InstAt h x (instObj C dx) C (some od) :=
  ⟨k _ _ h1, rfl, rfl, k _ _ h2⟩
theorem allLt_mem {d : Addr} : ∀ {l : List (Addr × Obj)}, AllLt d l → ∀ p ∈ l, p.1 < d
  | [], _, _, h => nomatch h
  | _ :: _, x, p, h => by
    rcases List.mem_cons.mp h with rfl | h
    · exact x.1
    · exact allLt_mem x.2 p h
theorem ptake {α β : Type} {F : α → β → Prop} : ∀ {l₁ : List α} {l₂ : List β} (k : Nat), Paired F l₁ l₂ → Paired F (l₁.take k) (l₂.take k) := by
  intro l₁ l₂ k p
  revert k
  induction p with
  | nil => intro k; cases k <;> exact .nil
  | cons h t ih =>
    intro k
    cases k with
    | zero => exact .nil
    | succ k => exact .cons h (ih k)
theorem nodup_snoc {l : List Addr} {a : Addr} (h : l.Nodup) (n : a ∉ l) : (l ++ [a]).Nodup := by
  rw [List.nodup_append]
  exact ⟨h, List.nodup_cons.mpr ⟨List.not_mem_nil, List.nodup_nil⟩, fun x hx y hy e => n (by rw [← List.mem_singleton.mp hy, ← e]; exact hx)⟩
theorem nodup_last2 {α : Type} {φ : α → Addr} {pre : List α} {x y : α} (n : ((pre ++ [x] ++ [y]).map φ).Nodup) : (∀ z ∈ pre, φ z ≠ φ x) ∧ φ y ≠ φ x ∧ ((pre ++ [x]).map φ).Nodup := by
 refine no_implicit_lambda% ((?qf0 : @Wit ?qp0 ?qe0 → ?qp0) (wit2 ?q00 ?qh0))
 case qf0 => exact fun _ => ?qe0
 case q00 =>
  rw [List.map_append, List.nodup_append] at n
  obtain ⟨n1, -, n3⟩ := n
  refine ⟨fun z hz e => ?_, fun e => n3 _ (List.mem_map_of_mem (by simp)) _ (List.mem_map_of_mem (List.mem_singleton.mpr rfl)) e.symm, n1⟩
  rw [List.map_append, List.nodup_append] at n1
  exact n1.2.2 _ (List.mem_map_of_mem hz) _ (List.mem_map_of_mem (List.mem_singleton.mpr rfl)) e
 case qh0 => (try delta id oq1 oq2); exact fun h => h

theorem calledWs_eq {ws : List W} {k : Int} (h : ws.length = 11) : calledWs ws k = [.none] ++ (ws.drop 1).take 5 ++ [.none, .none, .none, .none] ++ [.stack k 0] := by
  obtain ⟨a0, a1, a2, a3, a4, a5, a6, a7, a8, a9, a10, rfl⟩ := eleven h
  rfl
theorem calledWs_len {ws : List W} {k : Int} (h : ws.length = 11) : (calledWs ws k).length = 11 := by
  rw [calledWs_eq h]
  simp [h]
theorem pick_two {vs : List Value} (h : vs.length = 11) : kms_pick vs (some (1 : Int)) (some (6 : Int)) = (vs.drop 1).take 5 := by
  simp [kms_pick, kms_lo, kms_hi, h]
def refD (what : Str) (pl : Int) : PyData := .tuple [.str "refused", .tuple [.str what, .int pl]]
theorem reads_ref {h : Heap} {T T2 : Addr} {what : Str} {pl : Int} {t tw tp : Tok} (e1 : h.get? T = some (tupObj [.str "refused" t, .ref T2])) (e2 : h.get? T2 = some (tupObj [.str what tw, .int pl tp])) : Reads h (.ref T) (refD what pl) [] :=
  .tuple (as := []) e1 rfl rfl (by
    simp only [List.toList_toArray]
    refine readsAll_cons_val (by constructor) (readsAll_cons_val (.tuple (as := []) e2 rfl rfl ?_) .nil)
    simp only [List.toList_toArray]
    exact readsAll_cons_val (by constructor) (readsAll_cons_val (by constructor) .nil))
theorem eq_ref {w : World} {A : Around} {E : Value → Shared → Prop} {s : Shared} {a b : Addr} {what : Str} {pl : Int} {Q : Value → Shared → Prop} (ra : Reads s.heap (.ref a) (refD what pl) []) (rb : Reads s.heap (.ref b) (refD what pl) []) (hw : PyData.strOk what = true) (hu : A.units + 64 < cLine) (h : Q (.bool true) s) : wpAny (model Pg w) A (compareOp .Eq (.ref a) (.ref b)) Q E s := by
  have sh : SeqAt.shaped (refD what pl) = true := by
    unfold SeqAt.shaped
    rw [Bool.and_eq_true]
    constructor
    · simp only [refD, PyData.canLay0, PyData.canLayAll0, Bool.and_eq_true, and_true]
      exact ⟨by decide +kernel, hw⟩
    · refine decide_eq_true ?_
      simp [refD, PyData.depth, PyData.depthAll]
      try decide +kernel
  refine eq_dataH ra rb sh sh hu ?_
  rw [show PyData.eqv (refD what pl) (refD what pl) = true by simp [refD, PyData.eqv, PyData.eqvAll]]
  exact h
def doneD : PyData := .tuple [.str "done", .none]
theorem eq_done {w : World} {A : Around} {E : Value → Shared → Prop} {s : Shared} {a b : Addr} {ta tb : Tok} {Q : Value → Shared → Prop} (ea : s.heap.get? a = some (tupObj [.str "done" ta, .none])) (eb : s.heap.get? b = some (tupObj [.str "done" tb, .none])) (hu : A.units + 64 < cLine) (h : Q (.bool true) s) : wpAny (model Pg w) A (compareOp .Eq (.ref a) (.ref b)) Q E s := by
  have rd : ∀ x t, s.heap.get? x = some (tupObj [.str "done" t, .none]) → Reads s.heap (.ref x) doneD [] := fun x t e => .tuple (as := []) e rfl rfl (by
    simp only [List.toList_toArray]
    exact readsAll_cons_val (by constructor) (readsAll_cons_val (by constructor) .nil))
  have sh : SeqAt.shaped doneD = true := by decide +kernel
  refine eq_dataH (rd _ _ ea) (rd _ _ eb) sh sh hu ?_
  rw [show PyData.eqv doneD doneD = true by simp [doneD, PyData.eqv, PyData.eqvAll]]
  exact h
theorem exitBad_ok {x : W} {k : Nat} {what : Str} (h : exitBad x k = some what) : PyData.strOk what = true := by
  unfold exitBad at h
  cases x <;> simp only [W.bad] at h <;> (try split at h) <;> (try cases h) <;> decide +kernel
theorem deed_end2 {s g h7 : Heap} {a P L L' : Addr} {ms : List Addr} {m7 : Str → Option Value} (k : Keep (L :: a :: P :: ms) s g) (F7 : Fr g L' h7 m7) : Keep ms (hideAll s [L, a, P]) (hideAll h7 [L, a, P]) := fun b o hb e => by
  obtain ⟨e1, e2⟩ := hide_some e
  simp only [List.mem_cons, List.not_mem_nil, or_false, not_or] at e2
  refine hideAll_get _ (F7.keep _ _ (k _ _ ?_ e1)) (by simp [e2])
  simp [e2, hb]
theorem imm_slots {o : Obj} {sl : Array (Option Value)} (h : isImm o = false) : isImm { o with slots := sl } = false := by
 refine no_implicit_lambda% ((?qf0 : @Wit ?qp0 ?qe0 → ?qp0) (wit2 ?q00 ?qh0))
 case qf0 => exact fun _ => ?qe0
 case q00 =>
  obtain ⟨c, d, dt, s0⟩ := o
  cases z : isImm ⟨c, d, dt, sl⟩ with
  | false => rfl
  | true =>
    unfold isImm at z
    split at z
    · rename_i q; cases q; cases h
    · rename_i q; cases q; cases h
    · rename_i q
      cases q
      exact absurd (z.symm.trans h) (by decide)
    · cases z
 case qh0 => (try delta id oq1 oq2); exact fun h => h

theorem imm_cell {o : Obj} {v : Option Value} (e : o.data = .cell v) : isImm o = false := by
 refine no_implicit_lambda% ((?qf0 : @Wit ?qp0 ?qe0 → ?qp0) (wit2 ?q00 ?qh0))
 case qf0 => exact fun _ => ?qe0
 case q00 =>
  obtain ⟨c, d, dt, sl⟩ := o
  (try dsimp only at e)
  subst e
  unfold isImm
  split
  · rename_i q; cases q
  · rename_i q; cases q
  · rename_i q; cases q
  · rfl
 case qh0 => (try delta id oq1 oq2); exact fun h => h

theorem tag_none {x : W} : (x.tag = "none") ↔ x = .none := by cases x <;> simp [W.tag] <;> decide
theorem item_word {prog : Program} {w : World} {A : Around} {E : Value → Shared → Prop} {s : Shared} {g : Heap} {L t : Addr} {news : List (Addr × Obj)} {value slice : PySem.Expr} {vs : List Value} {x : W} {u : Tok} {Q : Value → Shared → Prop} (N : News g L s.heap news) (mem : (t, tupObj vs) ∈ news) (hv : x.Vals vs) (h : ∀ t', Q (.str x.tag t') s)
    (hs : subscripted slice false (.ref t) (.int 0 u) = operate [.ref t, .int 0 u] (getItem (.ref t) (.int 0 u)) := by with_unfolding_all rfl) :
    wpAny (model prog w) A (subscriptTail value slice (.ref t) (.int 0 u)) Q E s := by
  cases hv <;> exact item_tupleT ⟨_, (N _ mem).1, rfl, 0, rfl⟩ (by decide) (by decide) rfl rfl (h _) hs
theorem item_atK {prog : Program} {w : World} {A : Around} {E : Value → Shared → Prop} {s : Shared} {value slice : PySem.Expr} {l : Addr} {vs : List Value} {k : Int} {u : Tok} {v : Value} {Q : Value → Shared → Prop} (hl : s.heap.IsList l vs.toArray) (h0 : 0 ≤ k) (hfit : k < 2 ^ 63) (e : vs[k.toNat]? = some v) (h : Q v s)
    (hs : subscripted slice false (.ref l) (.int k u) = operate [.ref l, .int k u] (getItem (.ref l) (.int k u)) := by with_unfolding_all rfl) :
    wpAny (model prog w) A (subscriptTail value slice (.ref l) (.int k u)) Q E s :=
  tail_any hl.typeIs slot_list_getitem.lookup (wpAny_getItem_list hl h0 hfit (by simpa using e) h) hs
theorem any_keysS {h : Heap} {k : Int} : ∀ {kvs : List (Int × Value)} {kxs : List (Int × W)}, Paired (IsSlotW h) kvs kxs → (kvs.any fun kv => kv.1 = k) = (kxs.any fun kx => kx.1 = k) := by
  intro kvs kxs p
  induction p with
  | nil => rfl
  | cons q t ih => rw [List.any_cons, List.any_cons, ih, q.1]
theorem map_keysS {h : Heap} {k : Int} {c : Addr} {x : W} (hc : WordAt h c x) : ∀ {kvs : List (Int × Value)} {kxs : List (Int × W)}, Paired (IsSlotW h) kvs kxs → Paired (IsSlotW h) (kvs.map (fun kv => if kv.1 = k then (kv.1, .ref c) else kv)) (kxs.map (fun kx => if kx.1 = k then (kx.1, x) else kx))
  | _, _, .nil => .nil
  | _, _, .cons (a := a) (b := b) q t => by
    refine .cons ?_ (map_keysS hc t)
    dsimp only
    rw [← q.1]
    by_cases z : a.1 = k
    · rw [if_pos z, if_pos z]
      exact ⟨rfl, c, rfl, hc⟩
    · rw [if_neg z, if_neg z]
      exact q
theorem paired_storedS {h : Heap} {kvs : List (Int × Value)} {kxs : List (Int × W)} {k : Int} {c : Addr} {x : W} (p : Paired (IsSlotW h) kvs kxs) (hc : WordAt h c x) : Paired (IsSlotW h) (stored kvs k (.ref c)) (storedW kxs k x) := by
  unfold stored storedW
  rw [any_keysS p]
  by_cases z : (kxs.any fun kx => kx.1 = k) = true
  · rw [if_pos z, if_pos z]
    exact map_keysS hc p
  · rw [if_neg z, if_neg z]
    exact p.snoc ⟨rfl, c, rfl, hc⟩
theorem storedW_len {kxs : List (Int × W)} {k : Int} {x : W} : (storedW kxs k x).length ≤ kxs.length + 1 := by
  unfold storedW
  split <;> simp
theorem seat_val {k : Int} (h0 : 0 ≤ k) (h1 : k < 8) : 0 ≤ ([0, 0, 1, 2, 5, 6, 7, 9] : List Int).getD k.toNat 0 ∧ ([0, 0, 1, 2, 5, 6, 7, 9] : List Int).getD k.toNat 0 ≤ 9 := by
 refine no_implicit_lambda% ((?qf0 : @Wit ?qp0 ?qe0 → ?qp0) (wit2 ?q00 ?qh0))
 case qf0 => exact fun _ => ?qe0
 case q00 =>
  obtain ⟨n, rfl⟩ := Int.eq_ofNat_of_zero_le h0
  have : n < 8 := by omega
  rcases n with _ | _ | _ | _ | _ | _ | _ | _ | n
  all_goals first | omega | decide
 case qh0 => (try delta id oq1 oq2); exact fun h => h
end
section
theorem kg79 : True := trivial
section
variable {prog : Program} {w : World} {A : Around} {E : Value → Shared → Prop} {s : Shared} {g : Heap} {L : Addr} {m : Str → Option Value} {news : List (Addr × Obj)}
theorem slice_tmpK {l : Addr} {value slice : PySem.Expr} {vs zs : List Value} {vl vu : Value} {lo hi : Option Int} {Q : Value → Shared → Prop} (F : Fr g L s.heap m) (N : News g L s.heap news) (hl : s.heap.IsList l vs.toArray) (pl : IsPart vl lo) (pu : IsPart vu hi) (e : kms_pick vs lo hi = zs) (hz : vs.length ≤ 10000)
    (h : ∀ D h', Fr g L h' m → News g L h' ((D, listOf zs.toArray 0) :: news) → (∀ p ∈ news, p.1 < D) → Q (.ref D) { s with heap := h' })
    (hs : subscripted slice false (.ref l) (.ref s.heap.objs.size) = operate [.ref s.heap.objs.size, .ref l] (getItem (.ref l) (.ref s.heap.objs.size))) :
    wpAny (model prog w) A (subscriptTail value slice (.ref l) (.ref s.heap.objs.size)) Q E { s with heap := s.heap.push { cls := .type "slice", data := .fields #[vl, vu, .none] } } := by
  refine tail_any (Heap.IsList.typeIs (s := { s with heap := s.heap.push { cls := .type "slice", data := .fields #[vl, vu, .none] } }) (hl.push _)) list_getitem_lookup
    (wpAny_getItem_list_slice (hl.push _) (Heap.IsSliceOf.new ..) pl pu .none (by simp) ?_ (by rw [sizeLine_eq, List.size_toArray]; omega)) hs
  have N1 := News.push (F.push { cls := .type "slice", data := .fields #[vl, vu, .none] }) (N.grown fun _ _ e => Heap.get?_push_of_some _ e) { cls := .type "list", data := .seq (slicePick vs.toArray lo hi none) }
  rw [Heap.size_push] at N1
  show Q (.ref (s.heap.push _).objs.size) _
  rw [Heap.size_push]
  refine h _ _ ((F.push _).push _) ?_ fun p hp => Nat.lt_succ_of_lt (Heap.lt_size (N p hp).1)
  show News g L _ ((_, { cls := .type "list", data := .seq zs.toArray 0 }) :: news)
  rw [show zs.toArray = slicePick vs.toArray lo hi none by rw [kms_pick_eq, ← e]]
  exact N1
end
theorem inst_lat_mix {g h hF : Heap} {L x C dx : Addr} {od : Obj} {news : List (Addr × Obj)} (k : ∀ a o, hF.get? a = some o → h.get? a = some o) (N : News g L h news) (h1 : hF.get? x = some (instObj C dx)) (h2 : (dx, od) ∈ news) : InstAt h x (instObj C dx) C (some od) :=
  ⟨k _ _ h1, rfl, rfl, (N _ h2).1⟩
theorem pick_upto {vs : List Value} {k : Int} (h0 : 0 ≤ k) : kms_pick vs none (some k) = vs.take k.toNat := by
 refine no_implicit_lambda% ((?qf0 : @Wit ?qp0 ?qe0 → ?qp0) (wit2 ?q00 ?qh0))
 case qf0 => exact fun _ => ?qe0
 case q00 =>
  obtain ⟨n, rfl⟩ := Int.eq_ofNat_of_zero_le h0
  have : ¬ ((n : Int) < 0) := by omega
  simp [kms_pick, kms_lo, kms_hi, this, List.take_eq_take_iff]
 case qh0 => (try delta id oq1 oq2); exact fun h => h

section
variable {prog : Program} {w : World} {A : Around} {E : Value → Shared → Prop} {s : Shared} {env : Env} {g : Heap} {m : Str → Option Value} {news : List (Addr × Obj)}
theorem loop_rangeC {x : Str} {body : List Stmt} {r : Addr} {a b c : Int} {t u v : Tok} {n : Nat} {Q : Flow → Shared → Prop} (J : Nat → (Str → Option Value) → List (Addr × Obj) → Prop) (hh : A.handled = none)
    (hr : IsRange s.heap r a b c t u v) (hsm : Builtin.Range.small a b c = true) (hn : Builtin.Range.rangeSize a b c = (n : Int))
    (F : Fr g env.locals s.heap m) (N : News g env.locals s.heap news) (h0 : J 0 m news)
    (step : ∀ (i : Nat) (tk0 : Tok) m₁ news₁ I oI h₁ tk₁, i < n → J i m₁ news₁ → (∀ p ∈ news₁, p.1 ≠ I) → (∃ x y z, oI = { cls := .type "range_iterator", data := .fields #[rawInt x, rawInt y, rawInt z] }) → Fr g env.locals h₁ (fun y => if y = x then some (.int (a + i * c) tk0) else m₁ y) → News g env.locals h₁ ((I, oI) :: news₁) →
      wpAny (model prog w) A (execs body env) (Turned s g env.locals I oI (J (i + 1)) Q) E { s with heap := h₁, toks := tk₁ })
    (done : ∀ h' tk m' news', Fr g env.locals h' m' → News g env.locals h' news' → J n m' news' → Q .next { s with heap := h', toks := tk }) :
    wpAny (model prog w) A (pyIter (.ref r)) (fun it s₂ => LoopAtV prog w A g env x body Q E it s₂) E s := by
 refine no_implicit_lambda% ((?qf0 : @Wit ?qp0 ?qe0 → ?qp0) (wit2 ?q00 ?qh0))
 case qf0 => exact fun _ => ?qe0
 case q00 =>
  refine wpAny_pyIter_range hr hsm ?_
  have hgI0 : g.get? s.heap.objs.size = none := by
    cases q : g.get? s.heap.objs.size with
    | none => rfl
    | some o => exact absurd (Heap.lt_size (F.keep _ _ q)) (Nat.lt_irrefl _)
  have hLI : env.locals ≠ s.heap.objs.size := by
    obtain ⟨oL, _, _, ho, _⟩ := F.ns
    exact Nat.ne_of_lt (Heap.lt_size ho)
  have k : ∀ b' o, s.heap.get? b' = some o → (s.heap.push { cls := .type "range_iterator", data := .fields #[rawInt a, rawInt (Builtin.Range.rangeSize a b c), rawInt c] }).get? b' = some o := fun b' o e => Heap.get?_push_of_some _ e
  have F1 := frKeep (M := []) F (fun _ ha => nomatch ha) (Keep.of _ k)
  have N1 := newsKeep (M := []) N (fun _ _ => List.not_mem_nil) (Keep.of _ k)
  refine ⟨s.heap.objs.size, [s.heap.objs.size], [s.heap.objs.size], n, _, _, m, news, J, rfl, Walks.range hh s.heap.objs.size a c n, ?_, ?_, ?_, ?_, F1, N1, h0, ?_, ?_⟩
  · intro z
    exact hLI (List.mem_singleton.mp z)
  · intro b' hb
    rcases List.mem_singleton.mp hb with rfl
    exact hgI0
  · intro p hp z
    exact absurd (List.mem_singleton.mp z) (Nat.ne_of_lt (Heap.lt_size (N p hp).1))
  · have := Heap.get?_push_size (o := { cls := .type "range_iterator", data := .fields #[rawInt a, rawInt (Builtin.Range.rangeSize a b c), rawInt c] }) s.heap rfl
    rw [hn] at this ⊢
    simpa using this
  · intro i v m₁ news₁ s₁ own hs₁ hi hv hJ hnw hown1 hown2 hown3 hst F2 N2
    obtain ⟨h₁, tk₁, rfl⟩ := hs₁
    obtain ⟨tk0, rfl⟩ := hv
    obtain ⟨oI, hoI⟩ : ∃ oI, h₁.get? s.heap.objs.size = some oI := ⟨_, hst⟩
    have hcI : ∃ x y z, oI = { cls := .type "range_iterator", data := .fields #[rawInt x, rawInt y, rawInt z] } := (ei3 (Option.some.inj (hoI.symm.trans hst)))
    have hmI := hown3 _ (.head _) hgI0 _ hoI
    have hnI : ∀ p ∈ news₁, p.1 ≠ s.heap.objs.size := fun p hp z => hnw p hp (by rw [z]; exact .head _)
    refine wpAny_mono (step i tk0 m₁ news₁ _ oI h₁ tk₁ hi hJ hnI hcI F2 (fun q hq => by
      rcases List.mem_cons.mp hq with rfl | hq
      · exact N2 _ (List.mem_append.mpr (.inl hmI))
      · exact N2 _ (List.mem_append.mpr (.inr hq)))) (fun f s₂ z => ?_) fun _ _ z => z
    have fin : (∃ h' tk m₂ news₂, s₂ = { s with heap := h', toks := tk } ∧ Fr g env.locals h' m₂ ∧ News g env.locals h' ((s.heap.objs.size, oI) :: news₂) ∧ (∀ p ∈ news₂, p.1 ≠ s.heap.objs.size) ∧ J (i + 1) m₂ news₂) →
        ∃ h' tk m₂ news₂, s₂ = { s with heap := h', toks := tk } ∧ Fr g env.locals h' m₂ ∧ News g env.locals h' (own ++ news₂) ∧ (∀ p ∈ news₂, p.1 ∉ [s.heap.objs.size]) ∧ J (i + 1) m₂ news₂ := by
      intro rq0
      obtain ⟨h', tk, m₂, news₂, rfl, F4, N4, hne, hJ4⟩ := rq0
      refine ⟨h', tk, m₂, news₂, rfl, F4, fun q hq => ?_, fun p hp z => hne p hp (List.mem_singleton.mp z), hJ4⟩
      rcases List.mem_append.mp hq with hq | hq
      · have z2 := N2 _ (List.mem_append.mpr (.inl hq))
        refine ⟨?_, z2.2⟩
        have h5 : h₁.get? q.1 = some q.2 := hown2 q hq
        have z := List.mem_singleton.mp (hown1 q hq)
        rw [z] at h5 ⊢
        have h6 : h₁.get? s.heap.objs.size = some oI := hoI
        rw [h6] at h5
        cases h5
        exact (N4 _ (.head _)).1
      · exact N4 _ (.tail _ hq)
    cases f with
    | ret v => exact z
    | brk => exact z
    | cont => exact ⟨rfl, fin z⟩
    | next => exact ⟨rfl, fin z⟩
  · intro h' tk m' news' F4 N4 _ hJ4
    exact done h' tk m' news' F4 N4 hJ4
 case qh0 => (try delta id oq1 oq2); exact fun h => h

end
def IterO (o : Obj) : Prop := ∃ x y z, o = { cls := .type "range_iterator", data := .fields #[rawInt x, rawInt y, rawInt z] }
theorem IterO.imm {o : Obj} (x : IterO o) : isImm o = false := by
  obtain ⟨a, b, c, rfl⟩ := x
  rfl
theorem IterO.list {h : Heap} {a : Addr} {o : Obj} (x : IterO o) (e : h.get? a = some o) {b : Addr} (y : IsL h b) : b ≠ a := by
 refine no_implicit_lambda% ((?qf0 : @Wit ?qp0 ?qe0 → ?qp0) (wit2 ?q00 ?qh0))
 case qf0 => exact fun _ => ?qe0
 case q00 =>
  rintro rfl
  obtain ⟨_, _, _, rfl⟩ := x
  obtain ⟨o', e', c⟩ := y
  rw [e] at e'
  cases e'
  exact absurd (Value.type.inj c) (by decide)
 case qh0 => (try delta id oq1 oq2); exact fun h => h

theorem IterO.dict {h : Heap} {a : Addr} {o : Obj} (x : IterO o) (e : h.get? a = some o) {b : Addr} (y : IsD h b) : b ≠ a := by
 refine no_implicit_lambda% ((?qf0 : @Wit ?qp0 ?qe0 → ?qp0) (wit2 ?q00 ?qh0))
 case qf0 => exact fun _ => ?qe0
 case q00 =>
  rintro rfl
  obtain ⟨_, _, _, rfl⟩ := x
  obtain ⟨o', e', c⟩ := y
  rw [e] at e'
  cases e'
  exact absurd (Value.type.inj c) (by decide)
 case qh0 => (try delta id oq1 oq2); exact fun h => h

theorem Inv.off {w : World} {h : Heap} {X : Fx} {I : IV} {c : Nat} {a : Addr} {o : Obj} (V : Inv w h X I c) (e : h.get? a = some o) (x : IterO o) : Inv w (hideAll h [a]) X I c := by
 refine no_implicit_lambda% ((?qf0 : @Wit ?qp0 ?qe0 → ?qp0) (wit2 ?q00 ?qh0))
 case qf0 => exact fun _ => ?qe0
 case q00 =>
  have kk : ∀ b o', b ≠ a → h.get? b = some o' → (hideAll h [a]).get? b = some o' := fun b o' hb e' => hideAll_get _ e' (by simpa using hb)
  have kI : KeepI h (hideAll h [a]) := hideI fun b hb o' e' => by
    rw [List.mem_singleton.mp hb, e] at e'
    cases e'
    exact x.imm
  have fr : ∀ z f, FrameAt w h z f → FrameAt w (hideAll h [a]) z f := fun z f q => q.keep kI (fun o' => kk _ _ (x.list e q.regs.isL)) (fun o' => kk _ _ (x.dict e q.cells.isD))
  have ro : ∀ z f, RowAt w h z f → RowAt w (hideAll h [a]) z f := fun z f q => q.keep kI (fun o' => kk _ _ (x.list e q.words.isL)) (fun o' => kk _ _ (x.dict e q.slots.isD))
  refine { V with S := V.S.all fun b o' hb e' => kk _ _ ?_ e', fr := pmono fr V.fr, ro := pmono ro V.ro, em := kk _ _ (x.list e (isL V.em)) V.em, er := kk _ _ (x.list e (isL V.er)) V.er, er2 := kk _ _ (x.list e (isL V.er2)) V.er2, el := kk _ _ (x.list e (isL V.el)) V.el }
  obtain ⟨e1, ⟨_, _, _, _, e2⟩, n, e3⟩ := V.S
  rcases hb with rfl | rfl | rfl
  · rintro rfl
    obtain ⟨_, _, _, rfl⟩ := x
    rw [e] at e1
    cases e1
  · exact x.dict e ⟨_, e2, rfl⟩
  · exact x.list e (isL e3)
 case qh0 => (try delta id oq1 oq2); exact fun h => h

theorem CodesOk.off {h : Heap} {a : Addr} {o : Obj} {qual : Str} {ks : List Pos} {ps : Array Value} (C : CodesOk h qual ks ps) (e : h.get? a = some o) (x : IterO o) : CodesOk (hideAll h [a]) qual ks ps := C.keeps fun c' z => by
  obtain ⟨c, o', vs, t, e1, e2, e3, e4⟩ := z
  refine ⟨c, o', vs, t, e1, hideAll_get _ e2 fun hb => ?_, e3, e4⟩
  rw [List.mem_singleton.mp hb, e] at e2
  cases e2
  obtain ⟨_, _, _, rfl⟩ := x
  cases e3
  simp [rawInt] at e4
theorem small_n {d : Int} (h0 : 0 ≤ d) (h1 : d < 17) : Builtin.Range.small 0 d 1 = true := by
 refine no_implicit_lambda% ((?qf0 : @Wit ?qp0 ?qe0 → ?qp0) (wit2 ?q00 ?qh0))
 case qf0 => exact fun _ => ?qe0
 case q00 =>
  obtain ⟨k, rfl⟩ := Int.eq_ofNat_of_zero_le h0
  have h : ∀ k : Nat, k < 17 → Builtin.Range.small 0 (k : Int) 1 = true := by decide
  exact h k (by omega)
 case qh0 => (try delta id oq1 oq2); exact fun h => h

theorem size_n {d : Int} (h0 : 0 ≤ d) (h1 : d < 17) : Builtin.Range.rangeSize 0 d 1 = (d.toNat : Int) := by
 refine no_implicit_lambda% ((?qf0 : @Wit ?qp0 ?qe0 → ?qp0) (wit2 ?q00 ?qh0))
 case qf0 => exact fun _ => ?qe0
 case q00 =>
  obtain ⟨k, rfl⟩ := Int.eq_ofNat_of_zero_le h0
  have h : ∀ k : Nat, k < 17 → Builtin.Range.rangeSize 0 (k : Int) 1 = (((k : Int).toNat : Nat) : Int) := by decide
  exact h k (by omega)
 case qh0 => (try delta id oq1 oq2); exact fun h => h

theorem codes_none {h : Heap} {qual : Str} {ks : List Pos} : CodesOk h qual ks #[] := ⟨trivial, fun _ _ => .inl rfl⟩
end
section
theorem kg80 : True := trivial
theorem four {α : Type} {p : α → Prop} {a b c d : α} (h1 : p a) (h2 : p b) (h3 : p c) (h4 : p d) : ∀ q ∈ [a, b, c, d], p q :=
  List.forall_mem_cons.mpr ⟨h1, List.forall_mem_cons.mpr ⟨h2, List.forall_mem_cons.mpr ⟨h3, List.forall_mem_cons.mpr ⟨h4, List.forall_mem_nil _⟩⟩⟩⟩
theorem six {α : Type} {p : α → Prop} {a b c d e f : α} (h1 : p a) (h2 : p b) (h3 : p c) (h4 : p d) (h5 : p e) (h6 : p f) : ∀ q ∈ [a, b, c, d, e, f], p q :=
  List.forall_mem_cons.mpr ⟨h1, List.forall_mem_cons.mpr ⟨h2, four h3 h4 h5 h6⟩⟩
theorem imm_at {h : Heap} {a : Addr} {o0 : Obj} (e0 : h.get? a = some o0) (i : isImm o0 = false) : ∀ o, h.get? a = some o → isImm o = false := fun o e => by
  rw [e0] at e
  cases e
  exact i
theorem fresh_off {h : Heap} {Z : List Addr} (x : ∀ b ∈ Z, ∃ o, h.get? b = some o) : ∀ b, h.get? b = none → b ∉ Z := fun b e hb => by
  obtain ⟨o, z⟩ := x b hb
  rw [e] at z
  cases z
theorem hidden_off {h hG : Heap} {Z : List Addr} (x : hG = hideAll h Z) : ∀ {b : Addr} {o : Obj}, hG.get? b = some o → b ∉ Z := fun e hb => by
  rw [x, hideAll_none _ hb] at e
  cases e
theorem reb6 {g h : Heap} {L L' a P c2 c1 : Addr} {m : Str → Option Value} {oa oP oT oA oL : Obj} (F : Fr g L' h m) (N : News g L' h [(a, oa), (P, oP), (c2, oT), (c1, oA)]) (hr : ∀ x ∈ rare, m x = none)
    (ia : isImm oa = false) (iP : isImm oP = false) (iT : isImm oT = false) (iA : isImm oA = false) (hgL : g.get? L = some oL) (iL : isImm oL = false) :
    ∃ tl hJ, hJ = hideAll h [L', a, P, c2, c1, L] ∧ News g L' h ((a, oa) :: (P, oP) :: (c2, oT) :: (c1, oA) :: tl) ∧ (∀ p ∈ tl, p.1 ≠ a) ∧ (∀ p ∈ tl, p.1 ≠ P) ∧ (∀ p ∈ tl, p.1 ≠ c2) ∧ (∀ p ∈ tl, p.1 ≠ c1) ∧ Later g L' tl hJ ∧ KeepI h hJ ∧ ∀ b, h.get? b = none → b ∉ [L', a, P, c2, c1, L] := by
 refine no_implicit_lambda% ((?qf0 : @Wit ?qp0 ?qe0 → ?qp0) (wit2 ?q00 ?qh0))
 case qf0 => exact fun _ => ?qe0
 case q00 =>
  obtain ⟨tl, N2, off, lat, -, -⟩ := later F N
  have nL' := F.ns
  refine ⟨tl, _, rfl, N2, off _ (.head _), off _ (.tail _ (.head _)), off _ (.tail _ (.tail _ (.head _))), off _ (.tail _ (.tail _ (.tail _ (.head _)))), fun hz Nz k b o e => lat hz Nz k b o ?_, hideI (six (p := fun b => ∀ o, h.get? b = some o → isImm o = false) (imm_ns F.ns hr) (imm_at (N _ (.head _)).1 ia) (imm_at (N _ (.tail _ (.head _))).1 iP) (imm_at (N _ (.tail _ (.tail _ (.head _)))).1 iT) (imm_at (N _ (.tail _ (.tail _ (.tail _ (.head _))))).1 iA) (imm_at (F.keep _ _ hgL) iL)), fresh_off (six (p := fun b => ∃ o, h.get? b = some o) (by obtain ⟨o, _, _, e, _⟩ := nL'; exact ⟨o, e⟩) ⟨_, (N _ (.head _)).1⟩ ⟨_, (N _ (.tail _ (.head _))).1⟩ ⟨_, (N _ (.tail _ (.tail _ (.head _)))).1⟩ ⟨_, (N _ (.tail _ (.tail _ (.tail _ (.head _))))).1⟩ ⟨_, F.keep _ _ hgL⟩)⟩
  exact hide_less (Z' := [L', a, P, c2, c1]) (fun z hz => by
    rw [show [L', a, P, c2, c1, L] = [L', a, P, c2, c1] ++ [L] from rfl]
    exact List.mem_append.mpr (.inl hz)) b o (fun q => nomatch q) e
 case qh0 => (try delta id oq1 oq2); exact fun h => h
end
section
theorem kg81 : True := trivial
theorem heard6 {w : World} {p : Program} {loose : List Str} {mean : ExcName → Option Value} {mg mb : Str → Option Value} {A₀ : Around} {base g g2 h4 h5 hx hJ : Heap} {env : Env} {L L' a P c2 c1 f : Addr} {m4 m5 : Str → Option Value} {M : List Addr} {oa oT oA oL fo : Obj} {ps' : Array Value} {tl : List (Addr × Obj)}
    (hfr1 : frs [env] = [L]) (K5 : Keep (M ++ [L', L]) h4 h5) (RB : Rebased w p loose mean mg mb A₀ base g h5 [env] L' m5 g2) (F4 : Fr g L' h4 m4) (N5 : News g L' h4 ((f, fo) :: (P, tabObj ps') :: (a, oa) :: (c2, oT) :: (c1, oA) :: tl)) (hJe : hJ = hideAll hx [L', a, P, c2, c1, L])
    (hJ4 : ∀ b o, hJ.get? b = some o → h4.get? b = some o) (hMs : ∀ b ∈ M, ∃ o, hJ.get? b = some o ∧ ∀ vs, o.data ≠ .fields vs) (hgL : g.get? L = some oL) (hLnf : ∀ vs, oL.data ≠ .fields vs) (hr : ∀ x ∈ rare, m5 x = none) (ia : isImm oa = false) (iT : isImm oT = false) (iA : isImm oA = false) (iL : isImm oL = false)
    (fa : ∀ vs, oa.data ≠ .fields vs) (fT : ∀ vs, oT.data ≠ .fields vs) (fA : ∀ vs, oA.data ≠ .fields vs) {qual : Str} {ks : List Pos} (C4 : CodesOk (hideAll h4 [P]) qual ks ps') :
    ∃ tl6 hH sl, hH = hideAll h5 [L', a, P, c2, c1, L] ∧ g2.get? L = some { oL with slots := sl } ∧ News g2 L' h5 ((a, oa) :: (P, tabObj ps') :: (c2, oT) :: (c1, oA) :: tl6) ∧ (∀ p ∈ tl6, p.1 ≠ a) ∧ (∀ p ∈ tl6, p.1 ≠ P) ∧ (∀ p ∈ tl6, p.1 ≠ c2) ∧ (∀ p ∈ tl6, p.1 ≠ c1) ∧ Later g2 L' tl6 hH ∧ KeepI h5 hH ∧ Keep M hJ hH ∧ CodesOk hH qual ks ps' ∧ (∀ z ∈ [L', a, P, c2, c1, L], ∃ o, h4.get? z = some o) ∧ (∀ D, (∀ q ∈ tl6, q.1 < D) → g2.get? D = none → hH.get? D = none) := by
 refine no_implicit_lambda% ((?qf0 : @Wit ?qp0 ?qe0 → ?qp0) (wit2 ?q00 ?qh0))
 case qf0 => exact fun _ => ?qe0
 case q00 =>
  have nZJ : ∀ {b : Addr} {o : Obj}, hJ.get? b = some o → b ∉ [L', a, P, c2, c1, L] := hidden_off hJe
  have keyZ : ∀ z ∈ [L', a, P, c2, c1, L], z ∉ M := fun z hz hb => by
    obtain ⟨o, e, _⟩ := hMs z hb
    exact nZJ e hz
  have keyK : ∀ z o, z ∉ M → z ≠ L' → z ≠ L → h4.get? z = some o → h5.get? z = some o := fun z o h1 h2 h3 e => K5 _ _ (by simp [h1, h2, h3]) e
  have gLn : ∀ b, g.get? b = none → b ≠ L := fun b e z => by rw [z, hgL] at e; cases e
  have one : ∀ q ∈ ((f, fo) :: (P, tabObj ps') :: (a, oa) :: (c2, oT) :: (c1, oA) :: tl), q.1 ∉ M → h5.get? q.1 = some q.2 ∧ q.1 ≠ L' ∧ g2.get? q.1 = none := fun q hq hm =>
    ⟨keyK _ _ hm (N5 q hq).2.1 (gLn _ (N5 q hq).2.2) (N5 q hq).1, (N5 q hq).2.1, RB.none _ (N5 q hq).2.2⟩
  have ma := N5 _ (.tail _ (.tail _ (.head _)))
  have mP := N5 _ (.tail _ (.head _))
  have mT := N5 _ (.tail _ (.tail _ (.tail _ (.head _))))
  have mA := N5 _ (.tail _ (.tail _ (.tail _ (.tail _ (.head _)))))
  have N6 : News g2 L' h5 [(a, oa), (P, tabObj ps'), (c2, oT), (c1, oA)] := four (one _ (.tail _ (.tail _ (.head _))) (keyZ _ (by simp))) (one _ (.tail _ (.head _)) (keyZ _ (by simp))) (one _ (.tail _ (.tail _ (.tail _ (.head _)))) (keyZ _ (by simp))) (one _ (.tail _ (.tail _ (.tail _ (.tail _ (.head _))))) (keyZ _ (by simp)))
  have F6 := RB.fr
  obtain ⟨sl, eL2⟩ := RB.up L (by rw [hfr1]; exact .head _) _ hgL
  have exZ : ∀ z ∈ [L', a, P, c2, c1, L], ∃ o, h4.get? z = some o := six (p := fun z => ∃ o, h4.get? z = some o) (by obtain ⟨o, _, _, e, _⟩ := F4.ns; exact ⟨o, e⟩) ⟨_, ma.1⟩ ⟨_, mP.1⟩ ⟨_, mT.1⟩ ⟨_, mA.1⟩ ⟨_, F4.keep _ _ hgL⟩
  obtain ⟨tl6, N7, off, lat6, -, hmem6⟩ := later F6 N6
  have iF : KeepI h5 (hideAll h5 [L', a, P, c2, c1, L]) := hideI (six (p := fun b => ∀ o, h5.get? b = some o → isImm o = false) (imm_ns F6.ns hr) (imm_at (N6 _ (.head _)).1 ia) (imm_at (N6 _ (.tail _ (.head _))).1 rfl) (imm_at (N6 _ (.tail _ (.tail _ (.head _)))).1 iT) (imm_at (N6 _ (.tail _ (.tail _ (.tail _ (.head _))))).1 iA) (imm_at (F6.keep _ _ eL2) (imm_slots iL)))
  refine ⟨tl6, _, sl, rfl, eL2, N7, off _ (.head _), off _ (.tail _ (.head _)), off _ (.tail _ (.tail _ (.head _))), off _ (.tail _ (.tail _ (.tail _ (.head _)))), fun hz Nz k b o e => lat6 hz Nz k b o ?_, iF, fun b o hb e => ?_, C4.keeps fun c' x => ?_, exZ, fun D lt gD => ?_⟩
  · exact hide_less (Z' := [L', a, P, c2, c1]) (fun z hz => by
      rw [show [L', a, P, c2, c1, L] = [L', a, P, c2, c1] ++ [L] from rfl]
      exact List.mem_append.mpr (.inl hz)) b o (fun q => nomatch q) e
  · have hz := nZJ e
    refine hideAll_get _ (keyK _ _ hb (fun z => hz (by rw [z]; exact .head _)) (fun z => hz (by rw [z]; simp)) (hJ4 _ _ e)) hz
  · obtain ⟨c3, o, us, t3, x1, x2, x3, x4⟩ := x
    obtain ⟨x5, x6⟩ := hide_some x2
    have nL1 : c3 ≠ L' := by
      rintro rfl
      obtain ⟨oo, es, ep, z1, z2, _⟩ := F4.ns
      rw [x5] at z1; cases z1; rw [x3] at z2; cases z2
    have ne : ∀ {b : Addr} {o' : Obj}, h4.get? b = some o' → (∀ vs, o'.data ≠ .fields vs) → c3 ≠ b := fun e n z => by
      rw [← z, x5] at e; cases e; exact n _ x3
    have nL2 := ne (F4.keep _ _ hgL) hLnf
    have nM : c3 ∉ M := fun hb => by
      obtain ⟨oo, z1, z2⟩ := hMs _ hb
      exact ne (hJ4 _ _ z1) z2 rfl
    refine ⟨c3, o, us, t3, x1, hideAll_get _ (keyK _ _ nM nL1 nL2 x5) ?_, x3, x4⟩
    simp only [List.mem_cons, List.not_mem_nil, or_false, not_or]
    exact ⟨nL1, ne ma.1 fa, by simpa using x6, ne mT.1 fT, ne mA.1 fA, nL2⟩
  · cases z : (hideAll h5 [L', a, P, c2, c1, L]).get? D with
    | none => rfl
    | some o =>
      obtain ⟨z1, z2⟩ := hide_some z
      simp only [List.mem_cons, List.not_mem_nil, or_false, not_or] at z2
      exact absurd (lt _ (hmem6 (D, o) z1 gD z2.1 (by simp [z2]))) (Nat.lt_irrefl _)
 case qh0 => (try delta id oq1 oq2); exact fun h => h
end
section
theorem kg82 : True := trivial
section
variable {w : World} {p : Program} {loose : List Str} {mean : ExcName → Option Value} {mg mb : Str → Option Value}

theorem kg83 : True := by
  k_with "Z83K_k_room" => (exact Nat.le_of_ble_eq_true rfl)
  k_with "Z83K_k_inst" => (case' zzhy => (refine' inst_base ?zzF ?zzh1 ?zzh2; (case zzF => k_asm); (case zzh1 => assumption); (case zzh2 => assumption)))
  k_with "Z83K_k_inst" => (case' zzhy => (refine' inst_later (Later.at (by assumption) (by k_asm) (by k_asm) (by walk_at "SUBT")) ?zzh1 ?zzh2; (case zzh1 => assumption); (case zzh2 => assumption)))
  k_with "Z83K_k_all" => (exact allLt_ne (by first | assumption | exact And.right (by assumption) | exact And.right (And.right (by assumption)) | exact And.right (And.right (And.right (by assumption)))))
  k_with "Z83K_k_all" => (assumption)
  k_with "Z83K_k_mem" => (assumption)
  k_with "Z83call ref" => (k_here; (with_reducible show wpAny _ _ (call (Value.ref 700) _) _ _ _); case' zzhy => (k_dflt ( (refine' call_eq (f' := Value.ref 700) (vs' := [Value.ref _, Value.int _ _]) ?zzca ?zzcb ?_; (case zzca => exact rfl); (case zzcb => exact rfl)); (refine' use_sp (draw_sp ?zzp0 ?zzp1 ?zzp2 ?zzp3) ?zzuB ?zzuF ?zzuX ?zzuT ?zzuA ?zzuf ?zzuk ?zzuh ?zzud ?zzuu ?zzuM ?_; (case zzuA => exact rfl); (case zzuf => exact rfl); (case zzuk => exact rfl); (case zzuF => k_asm); (case zzuB => k_asm); (case zzuX => k_asm); (case zzuT => k_asm); (case zzp0 => exact pen_later (Later.at (by assumption) (by k_asm) (by k_asm) (by walk_at "SUBT")) (by k_asm) (by k_mem) (by assumption) (by assumption) (by assumption) (by assumption) (by omega) (by omega)); (case zzp1 => omega); (case zzp2 => omega); (case zzp3 => omega); (case zzuh => exact rfl); (case zzud => exact Nat.le_of_ble_eq_true rfl); (case zzuu => exact Nat.le_of_ble_eq_true rfl); (case zzuM => exact newsHid (by k_asm) (by k_mem)); k_whole); (intro zzv' zzh' zztk' zzK' zzF' zzP'); (obtain ⟨zzd', zzu', zzseat', zzrest', zze', zzd0, zzd1, zzsl, zzpe⟩ := zzP'); (obtain ⟨⟨zzn', zzt1', zzt2', zzpe⟩, zzhl2, zzhi2, zzhne2, zzfew2, zzp2, zzr2⟩ := zzpe); subst zze'; (refine' (fun zzN' => ?_) (newsUpd ?zzuN ?zzuU zzK' zzpe); (case zzuN => k_asm); (case zzuU => k_upd); clear zzhl2 zzhi2 zzhne2 zzfew2 zzpe zzK'; (try dsimp only at zzN')); (try dsimp only))))
  k_with "Z83call builtin:len" => (k_here; (with_reducible show wpAny _ _ (call (Value.builtin "len") [Value.ref _]) _ _ _); case' zzhy => (k_dflt (refine' len_symK ?zzk1 ?zzk2 ?zzk3 ?_; (case zzk1 => walk_at "ISLIST"); (case zzk2 => assumption); (case zzk3 => omega); k_whole)))
  k_with "Z83ite" => (k_here; k_openite; first | (refine ite_pos (by first | omega | (simp only [beq_iff_eq, bne_iff_ne, decide_eq_true_eq, ne_eq]; omega)) ?_) | (refine ite_neg (by first | omega | (simp only [beq_iff_eq, bne_iff_ne, decide_eq_true_eq, ne_eq]; omega)) ?_) | (refine Stop.out ?_))
  k_with "Z83subscriptTail" => (k_here; (with_reducible show wpAny _ _ (subscriptTail _ _ (Value.ref _) (Value.int _ _)) _ _ _); case' zzhy => (k_dflt ((refine' item_litK ?zzk1 ?zzk2 ?zzk3 ?zzk4 ?_ ?zzk6; (case zzk1 => walk_at "ISLIST"); (case zzk2 => decide); (case zzk3 => decide); (case zzk4 => rfl); (case zzk6 => with_unfolding_all rfl); k_whole))))
  k_with "Z83subscriptTail" => (k_here; (with_reducible show wpAny _ _ (subscriptTail _ _ (Value.ref _) (Value.int (-1) _)) _ _ _); case' zzhy => (k_dflt ((refine' item_lastK ?zzk1 ?_ ?zzk6; (case zzk1 => walk_at "ISLIST"); (case zzk6 => with_unfolding_all rfl); k_whole))))
  k_with "Z83subscriptTail" => (k_here; (with_reducible show wpAny _ _ (subscriptTail _ _ (Value.ref _) (Value.int _ _)) _ _ _); case' zzhy => (k_dflt (refine' item_tupleT ?zzt ?zza ?zzb ?zzc ?zzd ?_; (case zzt => exact tup_base (by k_asm) (by assumption)); (case zza => decide); (case zzb => decide); (case zzc => rfl); (case zzd => rfl); k_whole)))
  k_with "Z83subscriptTail" => (k_here; (with_reducible show wpAny _ _ (subscriptTail _ _ (Value.ref _) (Value.str _ _)) _ _ _); case' zzhy => (k_dflt (refine' getitem_dictS ?zzzD ?zzzl ?_ ?zzzs; (case zzzD => exact Mine.Heap.DictOf.keepF (by assumption) (Fr.keep (by k_asm))); (case zzzl => rfl); (case zzzs => with_unfolding_all rfl); k_whole); (try dsimp only)))
  k_with "Z83LOOK" => ((try dsimp only); first | assumption | exact if_pos rfl | (refine (if_neg (by decide)).trans ?_; walk_at "LOOK") | exact rfl)
  k_with "Z83eval Name" => (k_here; case' zzhy => (k_dflt (refine' nameX_L ?zzzF ?zzzv ?_ ?zzza ?zzzb ?zzzc; (case zzza => exact rfl); (case zzzb => exact rfl); (case zzzc => decide); (case zzzF => k_asm); (case zzzv => walk_at "LOOK"); k_whole)))
  k_with "Z83SUBT" => (case' zzhy => (intro zzq hq; repeat (first | exact hq | apply List.Mem.tail)))
  k_with "Z83subscriptTail" => (k_here; (with_reducible show wpAny _ _ (subscriptTail _ _ (Value.ref _) (Value.str _ _)) _ _ _); case' zzhy => (k_dflt (refine' getitem_dictS ?zzzD ?zzzl ?_ ?zzzs; (case zzzD => exact Mine.Heap.DictOf.keepF (by assumption) (Later.at (by assumption) (by k_asm) (by k_asm) (by walk_at "SUBT"))); (case zzzl => rfl); (case zzzs => with_unfolding_all rfl); k_whole); (try dsimp only)))
  k_with "Z83subscriptTail" => (k_here; (with_reducible show wpAny _ _ (subscriptTail _ _ (Value.ref _) (Value.int _ _)) _ _ _); case' zzhy => (k_dflt (refine' item_tupleT ?zzt ?zza ?zzb ?zzc ?zzd ?_; (case zzt => exact tup_later (Later.at (by assumption) (by k_asm) (by k_asm) (by walk_at "SUBT")) (by assumption)); (case zza => decide); (case zzb => decide); (case zzc => rfl); (case zzd => rfl); k_whole)))
  k_with "Z83getMethod ref" => (k_here; (with_reducible show wpAny _ _ (getMethod (Value.ref _) (PySem.Str.ofString "values") _) _ _ _); case' zzhy => (k_dflt (refine' getMethod_values ?zzzD ?_; (case zzzD => exact dictOf_keep (by assumption) (fun _ => (Later.at (by assumption) (by k_asm) (by k_asm) (by walk_at "SUBT")) _ _)); k_whole)))
  k_with "Z83call builtin:dict.values" => (k_here; case' zzhy => (k_dflt (refine' call_values ?zzzF ?zzzN ?zzzl ?zzzD ?_; (case zzzF => k_asm); (case zzzN => k_asm); (case zzzl => assumption); (case zzzD => exact dictOf_keep (by assumption) (fun _ => (Later.at (by assumption) (by k_asm) (by k_asm) (by walk_at "SUBT")) _ _)); k_whole); intro zzD' zzh' zzF' zzN' zzl1'; k_lt zzl1'))
  k_with "Z83call type:list" => (k_here; (with_reducible show wpAny _ _ (call (Value.type _) [Value.ref _]) _ _ _); case' zzhy => (k_dflt (refine' list_values ?zzzF ?zzzN ?zzzh ?zzzv ?zzzD ?zzzz ?_; (case zzzF => k_asm); (case zzzN => k_asm); (case zzzh => exact rfl); (case zzzv => k_mem); (case zzzD => exact dictOf_keep (by assumption) (fun _ => (Later.at (by assumption) (by k_asm) (by k_asm) (by walk_at "SUBT")) _ _)); (case zzzz => omega); k_whole); intro zzD' zzc' zzh' zztk' zzF' zzN' zzl1'; k_lt zzl1'))
  k_with "Z83ISLIST" => (first | exact listOf_base (by k_asm) (by assumption) | exact list_news (by k_asm) (by k_mem) | exact list_later (Later.at (by assumption) (by k_asm) (by k_asm) (by walk_at "SUBT")) (by assumption))
  k_with "Z83subscriptTail Name Slice ref ref" => (k_here; (with_reducible show wpAny _ _ (subscriptTail _ (PySem.Expr.Slice _ _ none _) (Value.ref _) (Value.ref _)) _ _ _); case' zzhy => (k_dflt (refine' slice_symK ?zzzF ?zzzN ?zzzl ?zzzp ?zzzq ?zzze ?zzzz ?_ ?zzzs ?zzzt; (case zzzF => k_asm); (case zzzN => k_asm); (case zzzl => walk_at "ISLIST"); (case zzzp => kmk_part); (case zzzq => kmk_part); (case zzze => first | exact pick_last | exact pick_two (by assumption) | exact pick_from); (case zzzs => with_unfolding_all rfl); (case zzzt => kmk_pure); (case zzzz => first | omega | (simp only [List.length_map, List.length_append, List.length_cons, List.length_nil]; omega)); k_whole); intro zzD' zzh' zzF' zzN' zzl1'; k_lt zzl1'))
  k_with "Z83ISLIST" => (first | exact listOf_base (by k_asm) (by assumption) | exact list_news (by k_asm) (by k_mem))
  k_with "Z83binaryOp Add ref ref" => (k_here; (with_reducible show wpAny _ _ (binaryOp Operator.Add (Value.ref _) (Value.ref _)) _ _ _); case' zzhy => (k_dflt ((refine' add_symK ?zzk1 ?zzk2 ?zzk3 ?zzk4 ?zzk5 ?_; (case zzk1 => k_asm); (case zzk2 => k_asm); (case zzk3 => walk_at "ISLIST"); (case zzk4 => walk_at "ISLIST"); (case zzk5 => first | omega | (simp only [List.length_append, List.length_cons, List.length_nil, List.length_drop, List.length_take, List.length_map]; omega)); k_whole); intro zzD' zzh' zzF' zzN' zzl1; k_lt zzl1)))
  k_with "Z83binaryOp Mult ref int" => (k_here; (with_reducible show wpAny _ _ (binaryOp Operator.Mult (Value.ref _) (Value.int _ _)) _ _ _); case' zzhy => (k_dflt (refine' PySem.W.KMa.mul (vs := [_]) ?zzF ?zzN ?zzl ?zzlo ?zzhi ?zzz ?zze ?_; (case zzF => k_asm); (case zzN => k_asm); (case zzl => exact list_newsS (by k_asm) (by k_mem)); (case zzlo => decide); (case zzhi => decide); (case zzz => exact Nat.le_of_ble_eq_true rfl); (case zze => (simp only [Int.reduceToNat, List.replicate_succ, List.replicate_zero, List.flatten_cons, List.flatten_nil, List.cons_append, List.nil_append, List.append_nil]; first | done | exact rfl)); k_whole); intro zzD' zzh' zzF' zzN' zzl1; (try k_lt zzl1)))
  k_with "Z83compareOp Eq ref ref" => (refine Stop.out ?_)
  k_with "Z83subscriptTail" => (k_here; (with_reducible show wpAny _ _ (subscriptTail _ _ (Value.ref _) (Value.int 0 _)) _ _ _); case' zzhy => (k_dflt (refine' item_word ?zzzN ?zzzm ?zzzv ?_ ?zzzs; (case zzzN => k_asm); (case zzzm => k_mem); (case zzzv => assumption); (case zzzs => with_unfolding_all rfl); k_whole); intro zztW'))
  k_with "Z83call ref" => (k_here; (with_reducible show wpAny _ _ (call (Value.ref 707) _) _ _ _); case' zzhy => (k_dflt ( (refine' call_eq (f' := Value.ref 707) (vs' := [Value.ref _, Value.int _ _, Value.ref _]) ?zzca ?zzcb ?_; (case zzca => exact rfl); (case zzcb => exact rfl)); (refine' use_sp (word_sp ?zzp0 ?zzp1 ?zzp2 ?zzp3 ?zzp4 ?zzp5 ?zzp6 ?zzp7) ?zzuB ?zzuF ?zzuX ?zzuT ?zzuA ?zzuf ?zzuk ?zzuh ?zzud ?zzuu ?zzuM ?_; (case zzuA => exact rfl); (case zzuf => exact rfl); (case zzuk => exact rfl); (case zzuF => k_asm); (case zzuB => k_asm); (case zzuX => k_asm); (case zzuT => k_asm); (case zzp0 => exact pen_later (Later.at (by assumption) (by k_asm) (by k_asm) (by walk_at "SUBT")) (by k_asm) (by k_mem) (by assumption) (by assumption) (by assumption) (by assumption) (by omega) (by omega)); (case zzp1 => omega); (case zzp2 => omega); (case zzp3 => omega); (case zzp4 => exact list_later (Later.at (by assumption) (by k_asm) (by k_asm) (by walk_at "SUBT")) (by assumption)); (case zzp5 => assumption); (case zzp6 => omega); (case zzp7 => assumption); (case zzuh => exact rfl); (case zzud => exact Nat.le_of_ble_eq_true rfl); (case zzuu => exact Nat.le_of_ble_eq_true rfl); (case zzuM => exact newsHid (by k_asm) (by k_mem)); k_whole); (intro zzv' zzh' zztk' zzK' zzF' zzP'); (obtain ⟨zzd', zzx', zzseat', zzrest', zze', zzfr', ⟨zzvw', zzew', zzhv'⟩, zzgd', zzsl, zzpe⟩ := zzP'); (obtain ⟨⟨zzn', zzt1', zzt2', zzpe⟩, zzhl2, zzhi2, zzhne2, zzfew2, zzp2, zzr2⟩ := zzpe); subst zze'; (have zzq1' := fr_none (by assumption) zzfr'); (have zzq2' := fr_neL (by assumption) zzfr'); (have zzq3' := later_none (by assumption) (by assumption) (by assumption) (by walk_at "SUBT") zzfr'); (have zzq4' := news_nes (by assumption) zzfr'); (try dsimp only [AllNq] at zzq4'); (refine' (fun zzN' => ?_) (newsCons zzew' zzq1' zzq2' (newsUpd ?zzuN ?zzuU zzK' zzpe)); (case zzuN => k_asm); (case zzuU => k_upd); clear zzhl2 zzhi2 zzhne2 zzfew2 zzpe zzK' zzew'; (try dsimp only at zzN')); (try dsimp only))))
  k_with "Z83call ref" => (k_here; (with_reducible show wpAny _ _ (call (Value.ref 714) _) _ _ _); case' zzhy => (k_dflt ( (refine' call_eq (f' := Value.ref 714) (vs' := [Value.ref _]) ?zzca ?zzcb ?_; (case zzca => exact rfl); (case zzcb => exact rfl)); (refine' use_sp (lawreg_sp ?zzp0 ?zzp1) ?zzuB ?zzuF ?zzuX ?zzuT ?zzuA ?zzuf ?zzuk ?zzuh ?zzud ?zzuu ?zzuM ?_; (case zzuA => exact rfl); (case zzuf => exact rfl); (case zzuk => exact rfl); (case zzuF => k_asm); (case zzuB => k_asm); (case zzuX => k_asm); (case zzuT => k_asm); (case zzp0 => exact word_news (by k_asm) (by k_mem) (by assumption)); (case zzp1 => assumption); (case zzuh => exact rfl); (case zzud => exact Nat.le_of_ble_eq_true rfl); (case zzuu => exact Nat.le_of_ble_eq_true rfl); (case zzuM => exact fun zza zzha => nomatch zzha); k_whole); (intro zzv' zzh' zztk' zzK' zzF' zzP'); (obtain ⟨zza', zze', zzfr', zzrw'⟩ := zzP'); subst zze'; (refine (fun zzN' => ?_) (newsKeep (M := []) (by assumption) (fun _ _ => List.not_mem_nil) zzK')); (try dsimp only))))
  k_with "Z83setItem ref int" => (k_here; (with_reducible show wpAny _ _ (setItem (Value.ref _) (Value.int _ _) _) _ _ _); case' zzhy => (k_dflt ((refine' ki_set ?zzk1 ?zzk2 ?zzk3 ?zzk4 ?zzk5 ?zzk6 ?_; (case zzk1 => k_asm); (case zzk2 => k_asm); (case zzk6 => k_upd); (case zzk3 => omega); (case zzk4 => omega); (case zzk5 => exact ki_setL_some (by simp; omega))); intro zzh' zzF' zzN'; (try dsimp only [List.nil_append, List.cons_append] at zzN'))))
  k_with "Z83setItem ref int" => (k_here; (with_reducible show wpAny _ _ (setItem (Value.ref _) (Value.int _ _) _) _ _ _); case' zzhy => (k_dflt ((refine' kda_set (knd := intKind Pg _) ?zzk1 ?zzk2 ?zzk3 ?zzk4 ?zzk5 ?zzk6 ?_; (case zzk1 => k_asm); (case zzk2 => k_asm); (case zzk3 => k_updF); (case zzk4 => assumption); (case zzk5 => exact intKind_is _ _ _ _); (case zzk6 => (rw [sizeLine_eq]; omega))); intro zzh' zzo' zzF' zzN' zzd'; (try dsimp only [List.nil_append, List.cons_append] at zzN'))))
  k_with "Z83subscriptTail" => (k_here; (with_reducible show wpAny _ _ (subscriptTail _ _ (Value.ref _) (Value.int _ _)) _ _ _); case' zzhy => (k_dflt ((refine' item_atK ?zzk1 ?zzk2 ?zzk3 ?zzk4 ?_ ?zzk6; (case zzk1 => walk_at "ISLIST"); (case zzk4 => assumption); (case zzk2 => omega); (case zzk3 => omega); (case zzk6 => with_unfolding_all rfl); k_whole))))
  k_with "Z83call ref" => (k_here; (with_reducible show wpAny _ _ (call (Value.ref 524) _) _ _ _); case' zzhy => (k_dflt (refine' call_eq (f' := Value.ref 524) (vs' := [Value.ref _]) ?zzca ?zzcb ?_; (case zzca => exact rfl); (case zzcb => exact rfl)); refine Stop.out ?_))
  k_with "Z83call ref" => (k_here; (with_reducible show wpAny _ _ (call (Value.ref 733) _) _ _ _); case' zzhy => (k_dflt (refine' call_eq (f' := Value.ref 733) (vs' := [Value.ref _]) ?zzca ?zzcb ?_; (case zzca => exact rfl); (case zzcb => exact rfl)); refine Stop.out ?_))
  k_with "Z83call ref" => (k_here; (with_reducible show wpAny _ _ (call (Value.ref 740) _) _ _ _); case' zzhy => (k_dflt (refine' call_eq (f' := Value.ref 740) (vs' := [Value.ref _, Value.ref _, Value.int _ _]) ?zzca ?zzcb ?_; (case zzca => exact rfl); (case zzcb => exact rfl)); refine Stop.out ?_))
  k_with "Z83eval Lambda" => (refine Stop.out ?_)
  k_with "Z83call ref" => (k_here; (with_reducible show wpAny _ _ (call (Value.ref 651) _) _ _ _); case' zzhy => (k_dflt (refine' call_eq (f' := Value.ref 651) (vs' := [Value.ref _, Value.int _ _, Value.int _ _, Value.int 8 _, Value.ref _]) ?zzca ?zzcb ?_; (case zzca => exact rfl); (case zzcb => exact rfl)); refine Stop.out ?_))
  k_with "Z83call ref" => (k_here; (with_reducible show wpAny _ _ (call (Value.ref 552) _) _ _ _); case' zzhy => (k_dflt (refine' call_eq (f' := Value.ref 552) (vs' := [Value.ref _, Value.int _ _, Value.ref _]) ?zzca ?zzcb ?_; (case zzca => exact rfl); (case zzcb => exact rfl)); refine Stop.out ?_))
  trivial
theorem deed_sp {s : Shared} {a P L : Addr} {XF : Fx} {I : IV} {c n : Nat} {seat rest : Int} {t1 t2 : Tok} {ps : Array Value} {A₀ : Around} {base h₀ : Heap} {env : Env} {m : Str → Option Value} {R : Result → Shared → Prop}
    (ea : s.heap.get? a = some (listOf [.ref XF.l, .int seat t1, .int rest t2].toArray n)) (hs0 : 0 ≤ seat) (hs1 : seat ≤ 900000) (hr0 : 0 ≤ rest) (eP : s.heap.get? P = some (tabObj ps))
    (B : Below A₀ base [] h₀) (F : Fr h₀ L s.heap m) (X : (hd.heap_1 w.params).In h₀) (T : Top p loose mean mg mb h₀) (Xb : (hd.heap_1 w.params).In base) (Tb : Top p loose mean mg mb base) (hf : env.frame = some L) (hke : env.scope.kind = .function) (hrare : ∀ x ∈ rare, m x = none)
    (hM : ∀ b ∈ a :: P :: muts I.xs I.rows, h₀.get? b = none ∧ b ≠ L) (hC : CodeHd base 746 P)
    (V : Inv w (hideAll s.heap [L, a, P]) XF I c) (C : CodesOk (hideAll s.heap [L, a, P]) lamQual lamPos ps) (hc17 : c ≤ 17)
    (hret : ∀ h' tk' Tt I' seat' rest' ps' n' t1' t2', Keep (L :: a :: P :: muts I.xs I.rows) s.heap h' → (∀ o, s.heap.get? L = some o → ∃ sl, h'.get? L = some { o with slots := sl }) → h'.get? Tt = some (tupObj [.ref I'.st, .ref I'.ml]) → s.heap.get? Tt = none → h'.get? a = some (listOf [.ref XF.l, .int seat' t1', .int rest' t2'].toArray n') → 0 ≤ seat' → seat' ≤ seat + 20 → 0 ≤ rest' →
      h'.get? P = some (tabObj ps') → CodesOk (hideAll h' [L, a, P]) lamQual lamPos ps' → Inv w (hideAll h' [L, a, P]) XF I' (c + 1) → (∀ b ∈ muts I'.xs I'.rows, b ∈ muts I.xs I.rows ∨ s.heap.get? b = none) → R (.ok (.ret (.ref Tt))) { s with heap := h', toks := tk' }) :
    codeAny (model Pg w) (lev 4 [env]) (.call (.ref 747) ⟨[.ref a, .ref I.st, .ref I.ml, .ref XF.rm], []⟩) R s := by
 refine no_implicit_lambda% ((?qf0 : @Wit ?qp0 ?qe0 → ?qp0) (wit2 ?q00 ?qh0))
 case qf0 => exact fun _ => ?qe0
 case q00 =>
  have hMs : ∀ q ∈ ([(a, listOf [.ref XF.l, .int seat t1, .int rest t2].toArray n), (P, tabObj ps)] : List (Addr × Obj)), s.heap.get? q.1 = some q.2 ∧ q.1 ∈ a :: P :: muts I.xs I.rows := fun q hq => by
    rcases obmc hq with rfl | hq
    · exact ⟨ea, .head _⟩
    · rcases List.mem_singleton.mp hq with rfl
      exact ⟨eP, .tail _ (.head _)⟩
  k_dflt (refine' enterC (H := a :: P :: muts I.xs I.rows) (news := [(a, listOf [.ref XF.l, .int seat t1, .int rest t2].toArray n), (P, tabObj ps)]) (binds := [(Str.ofString "pen", .ref a), (Str.ofString "state", .ref I.st), (Str.ofString "model", .ref I.ml), (Str.ofString "rooms", .ref XF.rm)]) B F X T hf hke hM hMs ?ho ?hcd ?hb ?hl ?hn ?_ ?hr ?c1 ?c2 ?c3)
  case ho => k_is
  case hcd => k_is
  case hb => exact BindsTo.of_eq rfl
  case hl => intro n x hx; simp only [List.mem_cons, List.not_mem_nil, or_false] at hx; rcases hx with rfl | rfl | rfl | rfl <;> exact .inl rfl
  case hn => decide +kernel
  case hr => exact Nat.le_of_ble_eq_true rfl
  case c1 => exact rfl
  case c2 => exact rfl
  case c3 => exact rfl
  intro g L' h₁ tk₁ cells hkeep hback hHn F' hL' N' Y' hk1 B' X' T' l1
  k_cells Y'
  simp only [List.cons_append, List.nil_append] at N'
  obtain ⟨m0, F1, hm0, m1, m2, m3, m4⟩ : ∃ m0, Fr g L' h₁ m0 ∧ (∀ x ∈ rare, m0 x = none) ∧ m0 "pen" = some (.ref a) ∧ m0 "state" = some (.ref I.st) ∧ m0 "model" = some (.ref I.ml) ∧ m0 "rooms" = some (.ref XF.rm) := ⟨_, F', (by walk_at "RARZ"), rfl, rfl, rfl, rfl⟩
  have immL : ∀ o, s.heap.get? L = some o → isImm o = false := imm_ns F.ns hrare
  have hLns := F.ns
  have hLH : L ∉ a :: P :: muts I.xs I.rows := fun z => (hM _ z).2 rfl
  obtain ⟨oL, hoL, hgL⟩ : ∃ oL, s.heap.get? L = some oL ∧ g.get? L = some oL := by
    obtain ⟨o, _, _, z, _⟩ := F.ns
    exact ⟨o, z, hkeep _ _ hLH z⟩
  have hLnf : ∀ vs, oL.data ≠ .fields vs := fun vs z => by
    obtain ⟨o, es, ep, z1, z2, _⟩ := hLns
    (first | exact obg z1 (hoL) | exact obg (hoL) z1 | (rw [hoL] at z1; cases z1)); (first | exact obg z2 (z) | exact obg (z) z2 | (rw [z] at z2; cases z2))
  clear hLns
  clear F' hM hMs B F X T
  rename_i oT oA dT dA
  replace dT : oT.data = .cell none := dT
  replace dA : oA.data = .cell none := dA
  have naP : @Ne Nat a P := fun z => by
    rw [show a = P from z, eP] at ea
    cases ea
  have la : @LT.lt Nat _ a L' := l1 _ (.head _)
  have lP : @LT.lt Nat _ P L' := l1 _ (.tail _ (.head _))
  clear l1
  have N1 : News g L' h₁ [(a, listOf #[Value.ref XF.l, Value.int seat t1, Value.int rest t2] n), (P, tabObj ps), (L' + 1 + 1, oT), (L' + 1, oA)] := newsSub N' fun q hq => by
    walk_at "FMq" <;> walk_at "OM"
    · exact .inr (.inr (.inl rfl))
    · exact .inr (.inr (.inr rfl))
    · exact .inl rfl
    · exact .inr (.inl rfl)
  clear N'
  obtain ⟨tl, N0, off, lat0, -, -⟩ := later F1 N1
  clear N1
  have offa : ∀ p ∈ tl, p.1 ≠ a := off _ (.head _)
  have offP : ∀ p ∈ tl, p.1 ≠ P := off _ (.tail _ (.head _))
  have offT : ∀ p ∈ tl, p.1 ≠ L' + 1 + 1 := off _ (.tail _ (.tail _ (.head _)))
  have offA : ∀ p ∈ tl, p.1 ≠ L' + 1 := off _ (.tail _ (.tail _ (.tail _ (.head _))))
  clear off
  simp only [List.cons_append, List.nil_append] at N0
  have V1 : Inv w (hideAll h₁ [L', a, P, L' + 1 + 1, L' + 1, L]) XF I c := V.all (hide_more hk1 fun b hb => by
    walk_at "FMb"
    · exact .inr (hL' _ (Nat.le_refl _))
    · exact .inl (by walk_at "SI")
    · exact .inl (by walk_at "SI")
    · exact .inr (hL' _ (Nat.le_trans (Nat.le_succ _) (Nat.le_succ _)))
    · exact .inr (hL' _ (Nat.le_succ _))
    · exact .inl (by walk_at "SI"))
  have lat : Later g L' tl (hideAll h₁ [L', a, P, L' + 1 + 1, L' + 1, L]) := fun h2 N2 k b o e => lat0 h2 N2 k b o (hide_less (Z' := [L', a, P, L' + 1 + 1, L' + 1]) (fun z hz => by
    walk_at "FMz" <;> walk_at "SI") b o (fun q => nomatch q) e)
  clear lat0
  obtain ⟨hF, hFe⟩ : ∃ hF, hF = hideAll h₁ [L', a, P, L' + 1 + 1, L' + 1, L] := ⟨_, rfl⟩
  rw [← hFe] at V1 lat
  have kF1 : Keep [] (hideAll s.heap [L, a, P]) hF := by
    rw [hFe]
    exact hide_more hk1 fun b hb => by
      walk_at "FMb"
      · exact .inr (hL' _ (Nat.le_refl _))
      · exact .inl (by walk_at "SI")
      · exact .inl (by walk_at "SI")
      · exact .inr (hL' _ (Nat.le_trans (Nat.le_succ _) (Nat.le_succ _)))
      · exact .inr (hL' _ (Nat.le_succ _))
      · exact .inl (by walk_at "SI")
  have hXl := V1.el
  have hXi := V1.i0
  have hne : XF.l ≠ a := fun z => by
    rw [z] at hXl
    rw [hFe, hideAll_none _ (by walk_at "SI")] at hXl
    cases hXl
  have hf0 := V1.few0
  have hem := V1.em
  have hll := V1.lens
  have hn1 := V1.n1
  have hn8 := V1.n8
  have hml : (I.rows.map fun r => Value.ref r.row).length = I.fs.length := by rw [List.length_map]; exact hll.2
  (try dsimp only)
  (try k_fold)
  walk_at "KS0"
  rename_i hy4 tk1 way uw seat1 rest1 way0 way9 sl1 p21 r21 n1' t11 t21 hy3 tk2 hy2 hy1 tk4 at' uat seat2 rest2 at0 at50 sl2 p22 r22 n2 t12 t22 hB oA2 FB NB dA2
  obtain ⟨ud, mB, FB1, hmB, b1, b2, b3, b4, b5, b6⟩ : ∃ ud mB, Fr g L' hB mB ∧ (∀ x ∈ rare, mB x = none) ∧ mB "pen" = some (.ref a) ∧ mB "state" = some (.ref I.st) ∧ mB "model" = some (.ref I.ml) ∧ mB "rooms" = some (.ref XF.rm) ∧ mB "way" = some (.int way uw) ∧ mB "depth" = some (.int ((I.fs.length : Int) - 1) ud) := (ei2 ⟨FB, (by walk_at "RARE"), by walk_at "LOOK", by walk_at "LOOK", by walk_at "LOOK", by walk_at "LOOK", by walk_at "LOOK", by walk_at "LOOK"⟩)
  clear FB dA m1 m2 m3 m4 hy4 hy3 hy2 hy1 tk1 tk2
  obtain ⟨e1, ⟨q0, q1, q2, q3, e2⟩, nfl, e3⟩ := V1.S
  have hrm := V1.er2
  have hi2 := V1.i2
  have few2 := V1.few
  have hrma : XF.rm ≠ a := fun z => by
    rw [z] at hrm
    rw [hFe, hideAll_none _ (by walk_at "SI")] at hrm
    cases hrm
  (try dsimp only)
  apply Stop.in
  by_cases w3 : way < 3
  · rw [if_pos (by simpa using w3)]
    walk_at "KS0"
    apply Stop.in
    rename_i tkA lst hA5 lA hA4 tkA2 dd ud8 seat3 rest3 dd0 dd8 sl3 p23 r23 n3 t13 t23 tsn hA3 tkA3 hA2 tkA4 wd x seat4 rest4 frW vw hvw gdx sl4 p24 r24 n4 t14 t24 qw1 qw2 qw3 qw4 hA1 FA1 NA1 hP tkP KP FP ra frR hra NP
    clear FA1 NA1 KP frR frW lA
    have hP1 : ∀ b o, hF.get? b = some o → hP.get? b = some o := lat.at FP NP (by walk_at "SUBT")
    obtain ⟨sn0, sn9⟩ := seat_val dd0 dd8
    generalize ([0, 0, 1, 2, 5, 6, 7, 9] : List Int).getD dd.toNat 0 = sn at FP sn0 sn9 ⊢
    obtain ⟨pre, xx, fpre, fx, rpre, rr, hxs, hfs, hrs, ppre, pxx, prpre, prr, hlp, hlr, hlf⟩ := V1.last
    obtain ⟨vs, nv, ev, pv⟩ := pxx.regs
    obtain ⟨vm, nvm, em', pm⟩ := prr.words
    have mxx : xx ∈ I.xs := by rw [hxs]; simp
    have mrr : rr ∈ I.rows := by rw [hrs]; simp
    have hfw := V1.ws fx (by rw [hfs]; simp)
    have hvl : vs.length = 11 := pv.length.trans hfw.1
    have hvm : vm.length = 11 := pm.length.trans hfw.1
    obtain ⟨sh1, sh2, sh3, sh4, sh5, sh6, sh7⟩ := V1.short
    have nz : ∀ b ∈ [L', a, P, L' + 1 + 1, L' + 1, L], hF.get? b = none := fun b hb => by rw [hFe]; exact hideAll_none _ hb
    have neF : ∀ {b z : Addr} {o : Obj}, hF.get? b = some o → hF.get? z = none → @Ne Nat z b := fun e e2 q => by rw [show _ = _ from q, e] at e2; cases e2
    have gR : g.get? xx.R = none := hHn _ (.tail _ (.tail _ (mutR mxx)))
    have gM : g.get? rr.RM = none := hHn _ (.tail _ (.tail _ (mutM mrr)))
    have hRM : rr.RM ≠ xx.R := (V1.nd.rr _ mxx _ mrr).symm
    have hSP : StFix w.params hP I.st I.sd I.fl I.rl (pre ++ [xx]) := hxs ▸ V1.S.all (fun b o _ e => hP1 b o e)
    refine' use_sp (put_sp hSP (pxx.fix.keepI (KeepI.of hP1)) (hP1 _ _ ev) sn0 (by omega) (by omega) (fun z => sh1 (z ▸ mutR mxx))) B' FP X' T' ?uA ?uf ?uk ?uh ?ud ?uu ?uM ?_
    case uA => exact rfl
    case uf => exact rfl
    case uk => exact rfl
    case uh => exact rfl
    case ud => exact Nat.le_of_ble_eq_true rfl
    case uu => exact Nat.le_of_ble_eq_true rfl
    case uM =>
      intro z hz
      rcases List.mem_singleton.mp hz with rfl
      exact ⟨gR, (neF ev (nz _ (.head _))).symm⟩
    intro r5 h5 tk5 K5 F5 P5
    obtain ⟨rfl, e5⟩ := P5
    have neM : ∀ z, hF.get? z = none → @Ne Nat z rr.RM := fun z e => neF em' e
    have N5 : News g L' h5 [(a, listOf #[Value.ref XF.l, Value.int seat4 t14, Value.int rest4 t24] n4), (P, tabObj ps), (L' + 1 + 1, oT), (L' + 1, oA2), (wd, tupObj vw)] := newsKeep (newsSub NP fun q hq => by
      walk_at "FMq" <;> walk_at "SI") (fun q hq z => by
      walk_at "MOhq"; walk_at "MOz"
      have := fun y => neF (z := y) ev
      rcases oqs5 hq with rfl | rfl | rfl | rfl | rfl
      · exact this _ (nz _ (by walk_at "SI")) z
      · exact this _ (nz _ (by walk_at "SI")) z
      · exact this _ (nz _ (by walk_at "SI")) z
      · exact this _ (nz _ (by walk_at "SI")) z
      · exact this _ qw3 z) K5
    have N6 := newsCons (K5 _ _ (by simpa using hRM) (hP1 _ _ em')) gM (neM _ (nz _ (.head _))).symm N5
    obtain ⟨tl5, N7, off5, lat5, -, -⟩ := later F5 N6
    have offM : ∀ p ∈ tl5, p.1 ≠ rr.RM := off5 _ (.head _)
    clear off5 N6 N5
    simp only [List.map_cons, List.map_nil] at lat5
    obtain ⟨hG, hGe⟩ : ∃ hG, hG = hideAll h5 [L', rr.RM, a, P, L' + 1 + 1, L' + 1, wd] := ⟨_, rfl⟩
    rw [← hGe] at lat5
    have kG : Keep [xx.R, rr.RM] hF hG := fun b o hb e => by
      simp only [List.mem_cons, List.not_mem_nil, or_false, not_or] at hb
      have ne := fun z (q : hF.get? z = none) => (neF e q).symm
      rw [hGe]
      refine hideAll_get _ (K5 _ _ (by simpa using hb.1) (hP1 _ _ e)) ?_
      walk_at "NM"
      exact ⟨ne _ (nz _ (by walk_at "SI")), hb.2, ne _ (nz _ (by walk_at "SI")), ne _ (nz _ (by walk_at "SI")), ne _ (nz _ (by walk_at "SI")), ne _ (nz _ (by walk_at "SI")), ne _ qw3⟩
    have sub2 : ∀ b ∈ [xx.R, rr.RM], b ∈ muts I.xs I.rows := fun b hb => by
      walk_at "FMb"
      · exact mutR mxx
      · exact mutM mrr
    have hml2 := V1.em
    rw [hrs, List.map_append, List.map_cons, List.map_nil] at hml2
    replace hml2 := kG _ _ (fun z => sh3 (sub2 _ z)) hml2
    obtain ⟨tbG, hRD⟩ := prr.fix.keepI (V1.imm sub2 kG)
    have nM1 : @Ne Nat a rr.RM := neM _ (nz _ (by walk_at "SI"))
    have nM2 : @Ne Nat P rr.RM := neM _ (nz _ (by walk_at "SI"))
    have nM3 : @Ne Nat (L' + 1 + 1) rr.RM := neM _ (nz _ (by walk_at "SI"))
    have nM4 : @Ne Nat (L' + 1) rr.RM := neM _ (nz _ (by walk_at "SI"))
    have nM5 : @Ne Nat wd rr.RM := neM _ qw3
    clear FP NP lat hem hml e1 e2 e3
    simp only [List.cons_append, List.nil_append] at N7
    have immL5 : ∀ o, h5.get? L' = some o → isImm o = false := imm_ns F5.ns (by walk_at "RARE")
    have O7 := fun q hq => (N7 q hq).1
    walk_at "KS0"
    rename_i h6 D7 h7 F7 N8 lD
    have hG7 : ∀ b o, hG.get? b = some o → h7.get? b = some o := lat5.at F7 N8 (by walk_at "SUBT")
    have KE : Keep [xx.R, rr.RM] hF (hideAll h7 [L, a, P]) := fun b o hb e => hideAll_get _ (hG7 _ _ (kG b o hb e)) (by
      have ne := fun z (q : hF.get? z = none) => (neF e q).symm
      walk_at "NM"
      exact ⟨ne _ (nz _ (by walk_at "SI")), ne _ (nz _ (by walk_at "SI")), ne _ (nz _ (by walk_at "SI"))⟩)
    have ha7 := (N8 _ (.tail _ (.tail _ (.head _)))).1
    have hP7 := (N8 _ (.tail _ (.tail _ (.tail _ (.head _))))).1
    have hwd7 := (N8 _ (.tail _ (.tail _ (.tail _ (.tail _ (.tail _ (.tail _ (.head _)))))))).1
    have hRM7 := (N8 _ (.tail _ (.head _))).1
    have hI7 : KeepI h7 (hideAll h7 [L, a, P]) := hideI fun b hb o e => by
      revert e; walk_at "FMb" <;> intro e
      · (first | exact imm_at (F7.keep _ _ hgL) (immL _ hoL) _ e | exact obw (F7.keep _ _ hgL) e (immL _ hoL) | (rw [F7.keep _ _ hgL] at e; cases e; exact immL _ hoL))
      · first | exact imm_at (ha7) rfl _ e | (rw [ha7] at e; cases e; rfl)
      · first | exact imm_at (hP7) rfl _ e | (rw [hP7] at e; cases e; rfl)
    have kI := V1.imm sub2 KE
    have i5 : KeepI hP h5 := K5.keepI fun b hb o e => by
      rcases List.mem_singleton.mp hb with rfl
      (first | exact imm_at (hP1 _ _ ev) (rfl) _ e | exact obw (hP1 _ _ ev) e (rfl) | (rw [hP1 _ _ ev] at e; cases e; rfl))
    have i7 : KeepI h5 h7 := by
      rw [hGe] at lat5
      refine keepI_end lat5 immL5 F7 N8 (by walk_at "SUBT") fun b hb => ?_
      walk_at "FMb"
      · exact .inl fun o e => by (first | exact imm_at (O7 _ (.head _)) (rfl) _ e | exact obw (O7 _ (.head _)) e (rfl) | (rw [O7 _ (.head _)] at e; cases e; rfl))
      · exact .inl fun o e => by (first | exact imm_at (O7 _ (.tail _ (.head _))) (rfl) _ e | exact obw (O7 _ (.tail _ (.head _))) e (rfl) | (rw [O7 _ (.tail _ (.head _))] at e; cases e; rfl))
      · exact .inl fun o e => by (first | exact imm_at (O7 _ (.tail _ (.tail _ (.head _)))) (rfl) _ e | exact obw (O7 _ (.tail _ (.tail _ (.head _)))) e (rfl) | (rw [O7 _ (.tail _ (.tail _ (.head _)))] at e; cases e; rfl))
      · exact .inr fun o e => by (first | exact imm_at (O7 _ (.tail _ (.tail _ (.tail _ (.head _))))) ((N8 _ (.tail _ (.tail _ (.tail _ (.tail _ (.head _)))))).1) _ e | exact obw (O7 _ (.tail _ (.tail _ (.tail _ (.head _))))) e ((N8 _ (.tail _ (.tail _ (.tail _ (.tail _ (.head _)))))).1) | (rw [O7 _ (.tail _ (.tail _ (.tail _ (.head _))))] at e; cases e; exact (N8 _ (.tail _ (.tail _ (.tail _ (.tail _ (.head _)))))).1))
      · exact .inr fun o e => by (first | exact imm_at (O7 _ (.tail _ (.tail _ (.tail _ (.tail _ (.head _)))))) ((N8 _ (.tail _ (.tail _ (.tail _ (.tail _ (.tail _ (.head _))))))).1) _ e | exact obw (O7 _ (.tail _ (.tail _ (.tail _ (.tail _ (.head _)))))) e ((N8 _ (.tail _ (.tail _ (.tail _ (.tail _ (.tail _ (.head _))))))).1) | (rw [O7 _ (.tail _ (.tail _ (.tail _ (.tail _ (.head _)))))] at e; cases e; exact (N8 _ (.tail _ (.tail _ (.tail _ (.tail _ (.tail _ (.head _))))))).1))
      · exact .inr fun o e => by (first | exact imm_at (O7 _ (.tail _ (.tail _ (.tail _ (.tail _ (.tail _ (.head _))))))) (hwd7) _ e | exact obw (O7 _ (.tail _ (.tail _ (.tail _ (.tail _ (.tail _ (.head _))))))) e (hwd7) | (rw [O7 _ (.tail _ (.tail _ (.tail _ (.tail _ (.tail _ (.head _))))))] at e; cases e; exact hwd7))
    have hraE : RegW w.params (hideAll h7 [L, a, P]) ra x := ((hra.keepI i5).keepI i7).keepI hI7
    have hxxE : (hideAll h7 [L, a, P]).get? xx.R = some (listOf (vs.set sn.toNat (Value.ref ra)).toArray nv) := by
      have ne := fun z (q : hF.get? z = none) => (neF ev q).symm
      refine hideAll_get _ (hG7 _ _ ?_) ?_
      · rw [hGe]
        refine hideAll_get _ e5 ?_
        walk_at "NM"
        exact ⟨ne _ (nz _ (by walk_at "SI")), hRM.symm, ne _ (nz _ (by walk_at "SI")), ne _ (nz _ (by walk_at "SI")), ne _ (nz _ (by walk_at "SI")), ne _ (nz _ (by walk_at "SI")), ne _ qw3⟩
      · walk_at "NM"
        exact ⟨ne _ (nz _ (by walk_at "SI")), ne _ (nz _ (by walk_at "SI")), ne _ (nz _ (by walk_at "SI"))⟩
    have hRME : (hideAll h7 [L, a, P]).get? rr.RM = some (listOf (vm.set sn.toNat (Value.ref wd)).toArray nvm) := hideAll_get _ hRM7 (by
      walk_at "NM"
      exact ⟨(neM _ (nz _ (by walk_at "SI"))).symm, (neM _ (nz _ (by walk_at "SI"))).symm, (neM _ (nz _ (by walk_at "SI"))).symm⟩)
    have hwE : WordAt (hideAll h7 [L, a, P]) wd x := WordAt.keepI ⟨vw, hwd7, hvw⟩ hI7
    have hIE := V1.step (j := pre.length) (f' := ⟨fx.ws.set sn.toNat x, fx.cells, fx.back⟩) (c' := c + 1) (x := xx) (r := rr) (by rw [hxs]; simp) (by rw [hrs, show pre.length = rpre.length by omega]; simp) (.inl rfl) KE
      ⟨pxx.fix.keepI kI, ⟨_, nv, hxxE, pset ⟨ra, rfl, hraE⟩ _ (pmono (fun _ _ q => q.keepI kI) pv)⟩, pxx.cells.keep kI fun o e => KE _ _ (by
        have i1 := ne_LD (isL ev) (V1.cells mxx)
        have i2 := ne_LD (isL em') (V1.cells mxx)
        walk_at "NM"
        exact ⟨i1.symm, i2.symm⟩) e⟩
      ⟨prr.fix.keepI kI, ⟨_, nvm, hRME, pset ⟨wd, rfl, hwE⟩ _ (pmono (fun _ _ q => q.keepI kI) pm)⟩, prr.slots.keep kI fun o e => KE _ _ (by
        have i1 := ne_LD (isL ev) (V1.slots mrr)
        have i2 := ne_LD (isL em') (V1.slots mrr)
        walk_at "NM"
        exact ⟨i1.symm, i2.symm⟩) e⟩
      ⟨by simpa using hfw.1, Nat.le_succ_of_le hfw.2⟩ (Nat.le_succ _)
    exact hret h7 _ D7 { I with fs := I.fs.set pre.length ⟨fx.ws.set sn.toNat x, fx.cells, fx.back⟩ } seat4 rest4 ps n4 t14 t24 ((keep_end hkeep F7).mono fun z hz => .tail _ hz) (fun o ho => ⟨o.slots, F7.keep _ _ (by (first | exact imm_at (hoL) (hgL) _ ho | exact obw (hoL) ho (hgL) | (rw [hoL] at ho; cases ho; exact hgL)))⟩) (N8 _ (.head _)).1 (hL' _ (Nat.le_of_lt (Nat.lt_trans (Nat.lt_succ_self _) lD.2.2.2.2.1))) ha7 p24 (by omega) r24 hP7
      (V.codes (fun b hb => .inl hb) (deed_end hkeep F7) C) hIE (fun b hb => .inl hb)
  · rw [if_neg (by simpa using w3)]
    walk_at "KS0"
    (try dsimp only)
    apply Stop.in
    by_cases w4 : way = 3
    · rw [if_pos (by simpa using w4)]
      walk_at "KS0"
      rename_i tkA hA5 tkA2 wd x seat3 rest3 frW vw hvw gdx sl3 p23 r23 n3 t13 t23 qw1 qw2 qw3 qw4 hA4 tkA3 hA3 tkA4 home uh seat4 rest4 hom0 hom1 sl4 p24 r24 n4 t14 t24 hA2 tkA5 hA1 tkA6 slot us seat5 rest5 slo0 slo3 sl5 p25 r25 n5 t15 t25 hP FP NP tW
      clear frW
      (try dsimp only)
      apply Stop.in
      have nz : ∀ b ∈ [L', a, P, L' + 1 + 1, L' + 1, L], hF.get? b = none := fun b hb => by rw [hFe]; exact hideAll_none _ hb
      have neF : ∀ {b z : Addr} {o : Obj}, hF.get? b = some o → hF.get? z = none → @Ne Nat z b := fun e e2 q => by rw [show _ = _ from q, e] at e2; cases e2
      by_cases hxn : x = .none
      · rw [if_neg (by simp [tag_none.mpr hxn])]
        walk_at "KS0"
        rename_i hz D7 h7 F7 N8 lD
        have hE7 : Keep [] hF (hideAll h7 [L, a, P]) := fun b o _ e => hideAll_get _ (lat.at F7 N8 (by walk_at "SUBT") _ _ e) (by
          have ne := fun z (q : hF.get? z = none) => (neF e q).symm
          walk_at "NM"
          exact ⟨ne _ (nz _ (by walk_at "SI")), ne _ (nz _ (by walk_at "SI")), ne _ (nz _ (by walk_at "SI"))⟩)
        exact hret h7 _ D7 I seat5 rest5 ps n5 t15 t25 ((keep_end hkeep F7).mono fun z hz => .tail _ hz) (fun o ho => ⟨o.slots, F7.keep _ _ (by (first | exact imm_at (hoL) (hgL) _ ho | exact obw (hoL) ho (hgL) | (rw [hoL] at ho; cases ho; exact hgL)))⟩) (N8 _ (.head _)).1 (hL' _ (Nat.le_of_lt (Nat.lt_trans (Nat.lt_succ_self _) lD.2.2.2.2.1))) (N8 _ (.tail _ (.tail _ (.head _)))).1 p25 (by omega) r25 (N8 _ (.tail _ (.tail _ (.tail _ (.head _))))).1
          (V.codes (fun b hb => .inl hb) (deed_end hkeep F7) C) ((V1.all hE7).mono (Nat.le_succ _)) (fun b hb => .inl hb)
      · rw [if_pos (by simp [tag_none, hxn])]
        walk_at "KS0"
        apply Stop.in
        rename_i hQ tkQ KQ FQ ra frR hra NQ
        clear KQ frR
        have hQ1 : ∀ b o, hF.get? b = some o → hQ.get? b = some o := lat.at FQ NQ (by walk_at "SUBT")
        obtain ⟨xx, hxj⟩ : ∃ xx, I.xs[home.toNat]? = some xx := ⟨_, List.getElem?_eq_getElem (by omega)⟩
        obtain ⟨rr, hrj⟩ : ∃ rr, I.rows[home.toNat]? = some rr := ⟨_, List.getElem?_eq_getElem (by omega)⟩
        obtain ⟨fx, hfj, pxx⟩ := pget V1.fr _ xx hxj
        obtain ⟨fx', hfj', prr⟩ := pget V1.ro _ rr hrj
        rw [hfj] at hfj'
        cases hfj'
        have mxx := List.mem_of_getElem? hxj
        have mrr := List.mem_of_getElem? hrj
        have hfw := V1.ws fx (List.mem_of_getElem? hfj)
        obtain ⟨sh1, sh2, sh3, sh4, sh5, sh6, sh7⟩ := V1.short
        obtain ⟨oC, eC, cC⟩ := V1.cells mxx
        obtain ⟨loS, kvs, DS, pS⟩ := prr.slots
        obtain ⟨oS, eS, dS⟩ := Heap.dictOf_iff.mp DS
        have hkv : kvs.length ≤ 100 := by have := pS.length; have := hfw.2; omega
        have gR : g.get? xx.C = none := hHn _ (.tail _ (.tail _ (mutC mxx)))
        have gM : g.get? rr.SM = none := hHn _ (.tail _ (.tail _ (mutS mrr)))
        have hRM : rr.SM ≠ xx.C := (V1.nd.cs _ mxx _ mrr).symm
        have hSP : StFix w.params hQ I.st I.sd I.fl I.rl I.xs := V1.S.all (fun b o _ e => hQ1 b o e)
        have kIQ : KeepI hF hQ := KeepI.of hQ1
        have iC : isImm oC = false := by
          obtain ⟨_, kvC, DC, _⟩ := pxx.cells
          exact imm_dict DC _ eC
        refine' use_sp (swrite_sp (x := xx) (b := fx.back) (kxs := fx.cells) hSP hom0 (by omega) (by rw [List.getElem?_map, hxj]; rfl) (pxx.fix.keepI kIQ) (pxx.cells.keep kIQ fun o e => hQ1 _ _ e) hra slo0 (by omega) (by have := hfw.2; omega)) B' FQ X' T' ?uA ?uf ?uk ?uh ?ud ?uu ?uM ?_
        case uA => exact rfl
        case uf => exact rfl
        case uk => exact rfl
        case uh => exact rfl
        case ud => exact Nat.le_of_ble_eq_true rfl
        case uu => exact Nat.le_of_ble_eq_true rfl
        case uM =>
          intro z hz
          rcases List.mem_singleton.mp hz with rfl
          exact ⟨gR, (neF eC (nz _ (.head _))).symm⟩
        intro r5 h5 tk5 K5 F5 P5
        obtain ⟨rfl, c5⟩ := P5
        have neM : ∀ z, hF.get? z = none → @Ne Nat z rr.SM := fun z e => neF eS e
        have N5 : News g L' h5 [(a, listOf #[Value.ref XF.l, Value.int seat5 t15, Value.int rest5 t25] n5), (P, tabObj ps), (L' + 1 + 1, oT), (L' + 1, oA2), (wd, tupObj vw)] := newsKeep (newsSub NQ fun q hq => by
          walk_at "FMq" <;> walk_at "SI") (fun q hq z => by
          walk_at "MOhq"; walk_at "MOz"
          have := fun y => neF (z := y) eC
          rcases oqs5 hq with rfl | rfl | rfl | rfl | rfl
          · exact this _ (nz _ (by walk_at "SI")) z
          · exact this _ (nz _ (by walk_at "SI")) z
          · exact this _ (nz _ (by walk_at "SI")) z
          · exact this _ (nz _ (by walk_at "SI")) z
          · exact this _ qw3 z) K5
        have N6 := newsCons (K5 _ _ (by simpa using hRM) (hQ1 _ _ eS)) gM (neM _ (nz _ (.head _))).symm N5
        obtain ⟨tl5, N7, off5, lat5, -, -⟩ := later F5 N6
        have offM : ∀ p ∈ tl5, p.1 ≠ rr.SM := off5 _ (.head _)
        clear off5 N6 N5
        simp only [List.map_cons, List.map_nil] at lat5
        obtain ⟨hG, hGe⟩ : ∃ hG, hG = hideAll h5 [L', rr.SM, a, P, L' + 1 + 1, L' + 1, wd] := ⟨_, rfl⟩
        rw [← hGe] at lat5
        have kG : Keep [xx.C, rr.SM] hF hG := fun b o hb e => by
          simp only [List.mem_cons, List.not_mem_nil, or_false, not_or] at hb
          have ne := fun z (q : hF.get? z = none) => (neF e q).symm
          rw [hGe]
          refine hideAll_get _ (K5 _ _ (by simpa using hb.1) (hQ1 _ _ e)) ?_
          walk_at "NM"
          exact ⟨ne _ (nz _ (by walk_at "SI")), hb.2, ne _ (nz _ (by walk_at "SI")), ne _ (nz _ (by walk_at "SI")), ne _ (nz _ (by walk_at "SI")), ne _ (nz _ (by walk_at "SI")), ne _ qw3⟩
        have sub2 : ∀ b ∈ [xx.C, rr.SM], b ∈ muts I.xs I.rows := fun b hb => by
          walk_at "FMb"
          · exact mutC mxx
          · exact mutS mrr
        have hml2 := kG _ _ (fun z => sh3 (sub2 _ z)) V1.em
        have hat2 : (I.rows.map fun r => Value.ref r.row)[home.toNat]? = some (Value.ref rr.row) := by rw [List.getElem?_map, hrj]; rfl
        obtain ⟨tbG, hRD⟩ := prr.fix.keepI (V1.imm sub2 kG)
        have nM1 : @Ne Nat a rr.SM := neM _ (nz _ (by walk_at "SI"))
        have nM2 : @Ne Nat P rr.SM := neM _ (nz _ (by walk_at "SI"))
        have nM3 : @Ne Nat (L' + 1 + 1) rr.SM := neM _ (nz _ (by walk_at "SI"))
        have nM4 : @Ne Nat (L' + 1) rr.SM := neM _ (nz _ (by walk_at "SI"))
        have nM5 : @Ne Nat wd rr.SM := neM _ qw3
        clear FQ NQ lat hem hml e1 e2 e3
        simp only [List.cons_append, List.nil_append] at N7
        have immL5 : ∀ o, h5.get? L' = some o → isImm o = false := imm_ns F5.ns (by walk_at "RARE")
        have O7 := fun q hq => (N7 q hq).1
        walk_at "KS0"
        rename_i h6 oS' dS' D7 h7 F7 N8 lD
        have hG7 : ∀ b o, hG.get? b = some o → h7.get? b = some o := lat5.at F7 N8 (by walk_at "SUBT")
        have KE : Keep [xx.C, rr.SM] hF (hideAll h7 [L, a, P]) := fun b o hb e => hideAll_get _ (hG7 _ _ (kG b o hb e)) (by
          have ne := fun z (q : hF.get? z = none) => (neF e q).symm
          walk_at "NM"
          exact ⟨ne _ (nz _ (by walk_at "SI")), ne _ (nz _ (by walk_at "SI")), ne _ (nz _ (by walk_at "SI"))⟩)
        have ha7 := (N8 _ (.tail _ (.tail _ (.head _)))).1
        have hP7 := (N8 _ (.tail _ (.tail _ (.tail _ (.head _))))).1
        have hwd7 := (N8 _ (.tail _ (.tail _ (.tail _ (.tail _ (.tail _ (.tail _ (.head _)))))))).1
        have hRM7 := (N8 _ (.tail _ (.head _))).1
        have hI7 : KeepI h7 (hideAll h7 [L, a, P]) := hideI fun b hb o e => by
          revert e; walk_at "FMb" <;> intro e
          · (first | exact imm_at (F7.keep _ _ hgL) (immL _ hoL) _ e | exact obw (F7.keep _ _ hgL) e (immL _ hoL) | (rw [F7.keep _ _ hgL] at e; cases e; exact immL _ hoL))
          · first | exact imm_at (ha7) rfl _ e | (rw [ha7] at e; cases e; rfl)
          · first | exact imm_at (hP7) rfl _ e | (rw [hP7] at e; cases e; rfl)
        have kI := V1.imm sub2 KE
        have i7 : KeepI h5 h7 := by
          rw [hGe] at lat5
          refine keepI_end lat5 immL5 F7 N8 (by walk_at "SUBT") fun b hb => ?_
          walk_at "FMb"
          · exact .inl fun o e => by (first | exact imm_at (O7 _ (.head _)) (imm_dictO dS) _ e | exact obw (O7 _ (.head _)) e (imm_dictO dS) | (rw [O7 _ (.head _)] at e; cases e; exact imm_dictO dS))
          · exact .inl fun o e => by (first | exact imm_at (O7 _ (.tail _ (.head _))) (rfl) _ e | exact obw (O7 _ (.tail _ (.head _))) e (rfl) | (rw [O7 _ (.tail _ (.head _))] at e; cases e; rfl))
          · exact .inl fun o e => by (first | exact imm_at (O7 _ (.tail _ (.tail _ (.head _)))) (rfl) _ e | exact obw (O7 _ (.tail _ (.tail _ (.head _)))) e (rfl) | (rw [O7 _ (.tail _ (.tail _ (.head _)))] at e; cases e; rfl))
          · exact .inr fun o e => by (first | exact imm_at (O7 _ (.tail _ (.tail _ (.tail _ (.head _))))) ((N8 _ (.tail _ (.tail _ (.tail _ (.tail _ (.head _)))))).1) _ e | exact obw (O7 _ (.tail _ (.tail _ (.tail _ (.head _))))) e ((N8 _ (.tail _ (.tail _ (.tail _ (.tail _ (.head _)))))).1) | (rw [O7 _ (.tail _ (.tail _ (.tail _ (.head _))))] at e; cases e; exact (N8 _ (.tail _ (.tail _ (.tail _ (.tail _ (.head _)))))).1))
          · exact .inr fun o e => by (first | exact imm_at (O7 _ (.tail _ (.tail _ (.tail _ (.tail _ (.head _)))))) ((N8 _ (.tail _ (.tail _ (.tail _ (.tail _ (.tail _ (.head _))))))).1) _ e | exact obw (O7 _ (.tail _ (.tail _ (.tail _ (.tail _ (.head _)))))) e ((N8 _ (.tail _ (.tail _ (.tail _ (.tail _ (.tail _ (.head _))))))).1) | (rw [O7 _ (.tail _ (.tail _ (.tail _ (.tail _ (.head _)))))] at e; cases e; exact (N8 _ (.tail _ (.tail _ (.tail _ (.tail _ (.tail _ (.head _))))))).1))
          · exact .inr fun o e => by (first | exact imm_at (O7 _ (.tail _ (.tail _ (.tail _ (.tail _ (.tail _ (.head _))))))) (hwd7) _ e | exact obw (O7 _ (.tail _ (.tail _ (.tail _ (.tail _ (.tail _ (.head _))))))) e (hwd7) | (rw [O7 _ (.tail _ (.tail _ (.tail _ (.tail _ (.tail _ (.head _))))))] at e; cases e; exact hwd7))
        have hcE : CellsAt w (hideAll h7 [L, a, P]) xx.C (storedW fx.cells slot x) := c5.keep (i7.trans hI7) fun o e => by
          have ne := fun z (q : hF.get? z = none) => (neF eC q).symm
          refine hideAll_get _ (hG7 _ _ ?_) ?_
          · rw [hGe]
            refine hideAll_get _ e ?_
            walk_at "NM"
            exact ⟨ne _ (nz _ (by walk_at "SI")), hRM.symm, ne _ (nz _ (by walk_at "SI")), ne _ (nz _ (by walk_at "SI")), ne _ (nz _ (by walk_at "SI")), ne _ (nz _ (by walk_at "SI")), ne _ qw3⟩
          · walk_at "NM"
            exact ⟨ne _ (nz _ (by walk_at "SI")), ne _ (nz _ (by walk_at "SI")), ne _ (nz _ (by walk_at "SI"))⟩
        have hRME : (hideAll h7 [L, a, P]).get? rr.SM = some oS' := hideAll_get _ hRM7 (by
          walk_at "NM"
          exact ⟨(neM _ (nz _ (by walk_at "SI"))).symm, (neM _ (nz _ (by walk_at "SI"))).symm, (neM _ (nz _ (by walk_at "SI"))).symm⟩)
        have hwE : WordAt (hideAll h7 [L, a, P]) wd x := WordAt.keepI ⟨vw, hwd7, hvw⟩ hI7
        obtain ⟨vsR, nR, wsR, eR, _⟩ := V1.regs mxx
        obtain ⟨vsM, nM, wsM, eM, _⟩ := V1.words mrr
        have hIE := V1.step (j := home.toNat) (f' := ⟨fx.ws, storedW fx.cells slot x, fx.back⟩) (c' := c + 1) (x := xx) (r := rr) hxj hrj (.inr rfl) KE
          ⟨pxx.fix.keepI kI, pxx.regs.keep kI fun o e => KE _ _ (by
            have i1 := ne_LD (isL eR) ⟨oC, eC, cC⟩
            have i2 := ne_LD (isL eR) (V1.slots mrr)
            walk_at "NM"
            exact ⟨i1, i2⟩) e, hcE⟩
          ⟨prr.fix.keepI kI, prr.words.keep kI fun o e => KE _ _ (by
            have i1 := ne_LD (isL eM) ⟨oC, eC, cC⟩
            have i2 := ne_LD (isL eM) (V1.slots mrr)
            walk_at "NM"
            exact ⟨i1, i2⟩) e, loS, _, Heap.dictOf_iff.mpr ⟨oS', hRME, dS'⟩, paired_storedS (pmono (fun _ _ q => ⟨q.1, q.2.keepI kI⟩) pS) hwE⟩
          ⟨hfw.1, Nat.le_trans storedW_len (Nat.succ_le_succ hfw.2)⟩ (Nat.le_succ _)
        exact hret h7 _ D7 { I with fs := I.fs.set home.toNat ⟨fx.ws, storedW fx.cells slot x, fx.back⟩ } seat5 rest5 ps n5 t15 t25 ((keep_end hkeep F7).mono fun z hz => .tail _ hz) (fun o ho => ⟨o.slots, F7.keep _ _ (by (first | exact imm_at (hoL) (hgL) _ ho | exact obw (hoL) ho (hgL) | (rw [hoL] at ho; cases ho; exact hgL)))⟩) (N8 _ (.head _)).1 (hL' _ (Nat.le_of_lt (Nat.lt_trans (Nat.lt_succ_self _) lD.2.2.2.2.1))) ha7 p25 (by omega) r25 hP7
          (V.codes (fun b hb => .inl hb) (deed_end hkeep F7) C) hIE (fun b hb => .inl hb)

    · rw [if_neg (by simpa using w4)]
      walk_at "KS0"
      apply Stop.in
      have nz : ∀ b ∈ [L', a, P, L' + 1 + 1, L' + 1, L], hF.get? b = none := fun b hb => by rw [hFe]; exact hideAll_none _ hb
      have neF : ∀ {b z : Addr} {o : Obj}, hF.get? b = some o → hF.get? z = none → @Ne Nat z b := fun e e2 q => by rw [show _ = _ from q, e] at e2; cases e2
      have nZ : ∀ {b : Addr} {o : Obj}, hF.get? b = some o → b ∉ [L', a, P, L' + 1 + 1, L' + 1, L] := fun e hb => by (first | exact obg e (nz _ hb) | exact obg (nz _ hb) e | (rw [nz _ hb] at e; cases e))
      have hB1 : ∀ b o, hF.get? b = some o → hB.get? b = some o := lat.at FB1 NB (by walk_at "SUBT")
      have frZ : ∀ b, hB.get? b = none → b ∉ [L', a, P, L' + 1 + 1, L' + 1, L] := fun b e hb => by
        revert e; walk_at "FMb" <;> intro e
        · exact fr_neL FB1 e rfl
        · first | exact obg e ((NB _ (.head _)).1) | (rw [(NB _ (.head _)).1] at e; cases e)
        · first | exact obg e ((NB _ (.tail _ (.head _))).1) | (rw [(NB _ (.tail _ (.head _))).1] at e; cases e)
        · first | exact obg e ((NB _ (.tail _ (.tail _ (.head _)))).1) | (rw [(NB _ (.tail _ (.tail _ (.head _)))).1] at e; cases e)
        · first | exact obg e ((NB _ (.tail _ (.tail _ (.tail _ (.head _))))).1) | (rw [(NB _ (.tail _ (.tail _ (.tail _ (.head _))))).1] at e; cases e)
        · first | exact obg e (FB1.keep _ _ hgL) | (rw [FB1.keep _ _ hgL] at e; cases e)
      have hlrs : I.rs.length ≤ 2 := by rw [ints_len V1.i1]; exact few2
      refine' use_sp (scopy_sp (V1.S.all fun b o _ e => hB1 b o e) (pmono (fun _ _ q => q.keep (KeepI.of hB1) (fun o e => hB1 _ _ e) (fun o e => hB1 _ _ e)) V1.fr) (hB1 _ _ V1.er) (by omega) (fun f hf => ⟨(V1.ws f hf).1, Nat.le_trans (V1.ws f hf).2 (by omega)⟩) (by omega)) B' FB1 X' T' ?uA ?uf ?uk ?uh ?ud ?uu (fun _ ha => nomatch ha) ?_
      case uA => exact rfl
      case uf => exact rfl
      case uk => exact rfl
      case uh => exact rfl
      case ud => exact Nat.le_of_ble_eq_true rfl
      case uu => exact Nat.le_of_ble_eq_true rfl
      intro v2 h2 tkc K2 F2 P2
      obtain ⟨st2, sd2, fl2, rl2, ys, nr2, rfl, fs1, fs2, fs3, fs4, S2, er3, py, ap2⟩ := P2
      have N2 : News g L' h2 [(a, listOf #[Value.ref XF.l, Value.int seat2 t12, Value.int rest2 t22] n2), (P, tabObj ps), (L' + 1 + 1, oT), (L' + 1, oA2)] := newsKeep (newsSub NB fun q hq => by
        walk_at "FMq" <;> walk_at "SI") (fun _ _ => List.not_mem_nil) K2
      obtain ⟨tl2, N3, off, lat2, -, -⟩ := later F2 N2
      have off2a : ∀ p ∈ tl2, p.1 ≠ a := off _ (.head _)
      have off2P : ∀ p ∈ tl2, p.1 ≠ P := off _ (.tail _ (.head _))
      have off2T : ∀ p ∈ tl2, p.1 ≠ L' + 1 + 1 := off _ (.tail _ (.tail _ (.head _)))
      have off2A : ∀ p ∈ tl2, p.1 ≠ L' + 1 := off _ (.tail _ (.tail _ (.tail _ (.head _))))
      clear off
      simp only [List.cons_append, List.nil_append, List.map_cons, List.map_nil] at N3 lat2
      replace lat2 : Later g L' tl2 (hideAll h2 [L', a, P, L' + 1 + 1, L' + 1, L]) := fun hz Nz k b o e => lat2 hz Nz k b o (hide_less (Z' := [L', a, P, L' + 1 + 1, L' + 1]) (fun z hz => by
        walk_at "FMz" <;> walk_at "SI") b o (fun q => nomatch q) e)
      have i2F : KeepI h2 (hideAll h2 [L', a, P, L' + 1 + 1, L' + 1, L]) := hideI fun b hb o e => by
        revert e; walk_at "FMb" <;> intro e
        · exact imm_ns F2.ns (by walk_at "RARE") _ e
        · first | exact imm_at ((N2 _ (.head _)).1) rfl _ e | (rw [(N2 _ (.head _)).1] at e; cases e; rfl)
        · first | exact imm_at ((N2 _ (.tail _ (.head _))).1) rfl _ e | (rw [(N2 _ (.tail _ (.head _))).1] at e; cases e; rfl)
        · (first | exact imm_at ((N2 _ (.tail _ (.tail _ (.head _)))).1) (imm_cell dT) _ e | exact obw ((N2 _ (.tail _ (.tail _ (.head _)))).1) e (imm_cell dT) | (rw [(N2 _ (.tail _ (.tail _ (.head _)))).1] at e; cases e; exact imm_cell dT))
        · (first | exact imm_at ((N2 _ (.tail _ (.tail _ (.tail _ (.head _))))).1) (imm_cell dA2) _ e | exact obw ((N2 _ (.tail _ (.tail _ (.tail _ (.head _))))).1) e (imm_cell dA2) | (rw [(N2 _ (.tail _ (.tail _ (.tail _ (.head _))))).1] at e; cases e; exact imm_cell dA2))
        · (first | exact imm_at (F2.keep _ _ hgL) (immL _ hoL) _ e | exact obw (F2.keep _ _ hgL) e (immL _ hoL) | (rw [F2.keep _ _ hgL] at e; cases e; exact immL _ hoL))
      obtain ⟨hG, hGe⟩ : ∃ hG, hG = hideAll h2 [L', a, P, L' + 1 + 1, L' + 1, L] := ⟨_, rfl⟩
      rw [← hGe] at lat2 i2F
      have k02 : Keep [] hF hG := fun b o _ e => hGe ▸ hideAll_get _ (K2.all (hB1 _ _ e)) (nZ e)
      have V2 := V1.all k02
      have S3 : StFix w.params hG st2 sd2 fl2 rl2 ys := S2.all fun b o hb e => by
        rw [hGe]
        refine hideAll_get _ e (frZ _ ?_)
        rcases oqs3 hb with rfl | rfl | rfl
        · exact fs1
        · exact fs2
        · exact fs3
      have er4 : hG.get? rl2 = some (listOf I.rs.toArray nr2) := hGe ▸ hideAll_get _ er3 (frZ _ fs4)
      have py3 : Paired (FrameAt w hG) ys I.fs := pmono_mem (fun y f hy q => q.keep i2F (fun o e => hGe ▸ hideAll_get _ e (frZ _ (ap2.fR y hy))) (fun o e => hGe ▸ hideAll_get _ e (frZ _ (ap2.fC y hy)))) py
      have C2 : CodesOk hG lamQual lamPos ps := V1.codes (M := []) (fun _ hb => nomatch hb) k02 (V.codes (M := []) (fun _ hb => nomatch hb) kF1 C)
      have hFz : ∀ b, hB.get? b = none → hF.get? b = none := fun b e => by
        cases z : hF.get? b with
        | none => rfl
        | some o => (first | exact obg e (hB1 _ _ z) | exact obg (hB1 _ _ z) e | (rw [hB1 _ _ z] at e; cases e))
      have gz : ∀ b, hB.get? b = none → g.get? b = none := fun b e => fr_none FB1 e
      have hsz : ∀ b, hB.get? b = none → s.heap.get? b = none := fun b e => by
        cases z : s.heap.get? b with
        | none => rfl
        | some o =>
          have hz : b ∈ a :: P :: muts I.xs I.rows := by
            refine Classical.byContradiction fun n => ?_
            have := FB1.keep _ _ (hkeep _ _ n z)
            (first | exact obg this (e) | exact obg (e) this | (rw [e] at this; cases this))
          rcases obmc hz with rfl | hz
          · first | exact obg e ((NB _ (.head _)).1) | (rw [(NB _ (.head _)).1] at e; cases e)
          · rcases obmc hz with rfl | hz
            · first | exact obg e ((NB _ (.tail _ (.head _))).1) | (rw [(NB _ (.tail _ (.head _))).1] at e; cases e)
            · rcases V1.mutable _ hz with ⟨o, q, _⟩ | ⟨o, q, _⟩ <;> ((first | exact obg e (hB1 _ _ q) | exact obg (hB1 _ _ q) e | (rw [hB1 _ _ q] at e; cases e)))
      have immL4 : ∀ (hx : Heap), hx.Ns L' mB → ∀ o, hx.get? L' = some o → isImm o = false := fun hx ns => imm_ns ns hmB
      clear lat hem NB FB1 N2 S2 er3 py e1 e2 e3 hXl hrm
      have hem2 := V2.em
      have hrm2 := V2.er2
      walk_at "KS0"
      rename_i h3 oT2 F3 N4 dT2
      (try dsimp only)
      apply Stop.in
      by_cases w7 : way < 7
      · rw [if_pos (by simpa using w7)]
        walk_at "KS0"
        apply Stop.in
        refine' mk_lam (cn := "_law_deed") (P := P) (c := 746) (ps := ps) (rest := (a, listOf #[Value.ref XF.l, Value.int seat2 t12, Value.int rest2 t22] n2) :: (L' + 1 + 1, oT2) :: (L' + 1, oA2) :: tl2) (tl := tl2) (hK := hG) (ks := lamPos) F3 ?lN T' (hC.keeps fun b o e => B'.stays b o e) rfl ?lo C2 ?lm lat2 ?ls ?lk rfl rfl ?_
        case lN =>
          refine newsSub N4 fun q hq => ?_
          revert q; refine' obt4 ?_ ?_ ?_ ?_ (fun q hq => ?_) <;> (repeat (first | exact List.Mem.head _ | assumption | apply List.Mem.tail))
        case lo =>
          intro q hq
          simp only [List.mem_cons] at hq
          rcases hq with rfl | rfl | rfl | hq
          · exact naP
          · exact Nat.ne_of_gt (Nat.lt_trans lP (Nat.lt_trans (Nat.lt_succ_self _) (Nat.lt_succ_self _)))
          · exact Nat.ne_of_gt (Nat.lt_trans lP (Nat.lt_succ_self _))
          · exact off2P q hq
        case lm => simp [lamPos]
        case ls => exact fun q hq => .tail _ (.tail _ (.tail _ hq))
        case lk => rw [hGe]; exact hideAll_none _ (by walk_at "SI")
        intro f c' pm ctv ps' news' h4 tk4 F4 N4' hsub hPm lf lP4 hrec C4
        have N5 : News g L' h4 ((f, _) :: (P, tabObj ps') :: (a, listOf #[Value.ref XF.l, Value.int seat2 t12, Value.int rest2 t22] n2) :: (L' + 1 + 1, oT2) :: (L' + 1, oA2) :: tl2) := newsSub N4' fun q hq => by
          rcases obmc hq with rfl | hq
          · exact .head _
          · rcases obmc hq with rfl | hq
            · exact .tail _ hPm
            · exact .tail _ (hsub q hq)
        clear N4 N4' hsub hPm
        have O5 := fun q hq => (N5 q hq).1
        have G5 := fun q hq => (N5 q hq).2.2
        walk_at "KS0"
        apply Stop.in
        have hG4 : ∀ b o, hG.get? b = some o → h4.get? b = some o := lat2.at F4 N5 (by walk_at "SUBT")
        have nZG : ∀ {b : Addr} {o : Obj}, hG.get? b = some o → b ∉ [L', a, P, L' + 1 + 1, L' + 1, L] := fun e hb => by rw [hGe, hideAll_none _ hb] at e; cases e
        obtain ⟨es1, ⟨ts0, ts1, ts2, ts3, es2⟩, nS, es3⟩ := id S3
        have hfr1 : frs [env] = [L] := by simp [frs, hf]
        have gsd := gz _ fs2
        obtain ⟨pre, xx, fpre, fx, rpre, rr, hxs, hfs, hrs, ppre, pxx, prpre, prr, hlp, hlr, hlf⟩ := V2.last
        obtain ⟨ypre, yx, eys, pyp, pyx⟩ : ∃ ypre yx, ys = ypre ++ [yx] ∧ Paired (FrameAt w hG) ypre fpre ∧ FrameAt w hG yx fx := by
          have z := py3
          rw [hfs] at z
          exact psnoc_inv z
        subst eys
        have lyp := pyp.length
        obtain ⟨vy, ny, ey, pvy⟩ := pyx.regs
        have hfw := V1.ws fx (by rw [hfs]; simp)
        refine' use_sph (heard_sp (f := f) (mn := [(sd2, dictOf [ent w.params "frames" ts0 (.ref fl2), ent w.params "next_number" ts1 (.int 9 ts3), ent w.params "rooms" ts2 (.ref rl2)] 3)]) (Post := (fun h' v h => ∃ h0, Keep [] h' h0 ∧ (v = .ref st2 ∧ ypre.length < 7 ∧ ∃ (y : FA) (D : Addr), h0.get? y.fr = none ∧ h0.get? y.R = none ∧ h0.get? y.C = none ∧ y.R ≠ y.C ∧ h0.get? D = none ∧ StFix w.params h st2 sd2 D rl2 (ypre ++ [yx] ++ [y]) ∧ FrameAt w h y ⟨calledWs fx.ws ((ypre.length + 1 : Nat) : Int), [], at' + 1⟩))) (Err := (fun what q => q = at' ∧ what = "too many frames" ∧ 7 ≤ ypre.length)) (ei4 (O5 _ (.head _))) ?hfM ?hmn ?S ?hst) B' F4 X' T' Xb Tb ?uA ?uf ?uk ?uh ?ud ?uu ?uM ?_
        case uA => exact rfl
        case uf => exact rfl
        case uk => exact rfl
        case uh => exact rfl
        case ud => exact Nat.le_of_ble_eq_true rfl
        case uu => exact Nat.le_of_ble_eq_true rfl
        case hfM =>
          intro z
          rcases List.mem_singleton.mp z with rfl
          have := O5 _ (.head _)
          rw [hG4 _ _ es2] at this
          have := congrArg Obj.data (Option.some.inj this)
          cases this
        case hmn =>
          intro q hq
          rcases List.mem_singleton.mp hq with rfl
          exact hG4 _ _ es2
        case S =>
          intro h' tk' k
          refine lam_call (mn := [(sd2, _)]) (k.all (O5 _ (.head _))) (hrec.keeps fun _ _ => k.all) ⟨oA2, k.all (O5 _ (.tail _ (.tail _ (.tail _ (.tail _ (.head _)))))), dA2⟩ ⟨oT2, k.all (O5 _ (.tail _ (.tail _ (.tail _ (.head _))))), dT2⟩ (fun q hq => ?_) fun h'' tk'' k' => ?_
          · rcases List.mem_singleton.mp hq with rfl
            exact k.all (hG4 _ _ es2)
          · have up : ∀ b o, hG.get? b = some o → h''.get? b = some o := fun b o e => k'.all (k.all (hG4 _ _ e))
            exact localcall_sp (S3.all fun b o _ e => up b o e) (pyx.fix.keepI (KeepI.of up)) (up _ _ ey) (pmono (fun _ _ q => q.keepI (KeepI.of up)) pvy) hfw.1 (by omega)
        case hst =>
          intro h0 v h1 h2 k rq0
          obtain ⟨h00, k0, e1, e2, y, D, q1, q2, q3, q4, q5, s6, f7⟩ := rq0
          exact ⟨h00, k0, e1, e2, y, D, q1, q2, q3, q4, q5, s6.all (fun _ _ _ => k.all), f7.all k⟩
        case uM =>
          intro b hb
          rw [List.mem_singleton.mp hb]
          exact ⟨gsd, fun z => nZG es2 (by rw [show sd2 = L' from z]; simp)⟩
        intro v5 h5 tk5 g2 K5 up5 RB P5
        rw [hfr1] at K5 up5
        simp only [List.map_cons, List.map_nil, List.cons_append, List.nil_append] at K5
        have hMs : ∀ b ∈ [sd2], ∃ o, hG.get? b = some o ∧ ∀ vs, o.data ≠ .fields vs := fun b hb => by rw [List.mem_singleton.mp hb]; exact ⟨_, es2, fun vs z => by cases z⟩
        have hMF : ∀ b ∈ [sd2], hF.get? b = none := fun b hb => by rw [List.mem_singleton.mp hb]; exact hFz _ fs2
        obtain ⟨tl6, hH, oL5, hHe, g2L, N7, off6a, off6P, off6T, off6A, lat6, i5F, kGH, C3, exZ, frH0⟩ := heard6 (M := [sd2]) hfr1 K5 RB F4 N5 hGe hG4 hMs hgL hLnf hmB rfl (imm_cell dT2) (imm_cell dA2) (immL _ hoL) (fun _ z => by cases z) (fun _ z => by (first | exact obg z (dT2) | exact obg (dT2) z | (rw [dT2] at z; cases z))) (fun _ z => by (first | exact obg z (dA2) | exact obg (dA2) z | (rw [dA2] at z; cases z))) C4
        have F6 := RB.fr
        have hs4 : ∀ b, h4.get? b = none → s.heap.get? b = none := fun b e => by
          cases z : hB.get? b with
          | none => exact hsz b z
          | some o =>
            by_cases hb : b ∈ [L', a, P, L' + 1 + 1, L' + 1, L]
            · obtain ⟨o', e'⟩ := exZ b hb
              rw [e] at e'; cases e'
            · have := hG4 b o ((hGe ▸ hideAll_get _ (K2.all z) hb))
              (first | exact obg this (e) | exact obg (e) this | (rw [e] at this; cases this))
        have k0H : Keep [] hF hH := fun b o _ e => kGH _ _ (fun hb => by (first | exact obg e (hMF b hb) | exact obg (hMF b hb) e | (rw [hMF b hb] at e; cases e))) (k02.all e)
        have V3 := V1.all k0H
        have B6 := RB.below
        have X6 := RB.inn
        have T6 := RB.top
        obtain ⟨T, rfl, gT, P5⟩ := P5
        have gTn := RB.none _ gT
        have hK5s : Keep (L :: a :: P :: muts I.xs I.rows) s.heap g2 := fun b o hb e => by
          rw [List.mem_cons, not_or] at hb
          rw [RB.out b (by rw [hfr1]; simpa using hb.1)]
          exact hkeep _ _ hb.2 e
        have hem3 := V3.em
        have hrm3 := V3.er2
        clear F4 N5 lat2 hem2 hrm2 B' X' T' up5 RB K5
        have nzH : ∀ b ∈ [L', a, P, L' + 1 + 1, L' + 1, L], hH.get? b = none := fun b hb => by rw [hHe]; exact hideAll_none _ hb
        have nZH : ∀ {b : Addr} {o : Obj}, hH.get? b = some o → b ∉ [L, a, P] := fun e hb => by
          (first | exact obg e (nzH _ (ob36 hb)) | exact obg (nzH _ (ob36 hb)) e | (rw [nzH _ (ob36 hb)] at e; cases e))
        rcases P5 with ⟨u, tt, eT, h0, k0, h01, k01, rfl, hlt, y, D, y1, y2, y3, y4, y5, S5, fy5⟩ | ⟨T2, what, pl, tt, tw, tp, eT, gT2, eT2, rfl, rfl, hge⟩
        · replace eT := i5F _ _ eT rfl
          obtain ⟨pre', xx', fpre', fx', rpre', rr', hxs', hfs', hrs', -, -, prpre', prr', -, -, -⟩ := V3.last
          obtain ⟨rfl, hfx⟩ := List.append_inj' (hfs.symm.trans hfs') rfl
          obtain ⟨rfl, hrx⟩ := List.append_inj' (hrs.symm.trans hrs') rfl
          cases hfx
          cases hrx
          obtain ⟨vm, nvm, em', pm⟩ := prr'.words
          obtain ⟨tbR, hRD⟩ := prr'.fix
          have hvm : vm.length = 11 := pm.length.trans hfw.1
          have hml3 := hem3
          rw [hrs, List.map_append, List.map_cons, List.map_nil] at hml3
          have hlm : (rpre.map fun r : MR => Value.ref r.row).length = rpre.length := List.length_map ..
          clear hem3
          walk_at "KS0"
          rename_i D9 _ _ l3 _ _ D8 _ _ D7 _ _ D6 _ _ l2 _ _ D5 _ _ D4 _ _ D3 _ _ l1 _ _ D2 _ lD2 _ _ d1 _ o2 lo1 hd1 _ d0 _ o1 lo0 hs0' fs0 hi0 fi0 ld0 _ o0 hdr l0 _ _ ml2 _ _ _ TT h7 F7 N8 lD
          have k7 : Keep [] hH (hideAll h7 [L, a, P]) := fun b o _ e => hideAll_get _ (lat6.at F7 N8 (by walk_at "SUBT") _ _ e) (nZH e)
          have newE : ∀ q : Addr × Obj, (h7.get? q.1 = some q.2 ∧ q.1 ≠ L' ∧ g2.get? q.1 = none) → @LT.lt Nat _ a q.1 → @LT.lt Nat _ P q.1 → (hideAll h7 [L, a, P]).get? q.1 = some q.2 := fun q h1 h2 h3 => hideAll_get _ h1.1 (by
            walk_at "NM"
            exact ⟨fun z => (by rw [z, g2L] at h1; exact nomatch h1.2.2), Nat.ne_of_gt h2, Nat.ne_of_gt h3⟩)
          have lt6 : ∀ D, AllLt D tl6 → g2.get? D = none → hH.get? D = none := fun D h1 h2 => frH0 D (allLt_mem h1) h2
          have fD2 : hH.get? D2 = none := lt6 _ (by have z := lD2; repeat (first | exact z | replace z := z.2)) (N8 _ (.tail _ (.tail _ (.tail _ (.tail _ (.tail _ (.head _))))))).2.2
          have fd0 : hH.get? d0 = none := lt6 _ (by have z := ld0; repeat (first | exact z | replace z := z.2)) (N8 _ (.tail _ (.tail _ (.tail _ (.head _))))).2.2
          have eTT := (N8 _ (.head _)).1
          have eml := newE _ (N8 _ (.tail _ (.head _))) (by walk_at "CJD") (by walk_at "CJD")
          have ed0 := newE _ (N8 _ (.tail _ (.tail _ (.tail _ (.head _))))) (by walk_at "CJD") (by walk_at "CJD")
          have ed1 := newE _ (N8 _ (.tail _ (.tail _ (.tail _ (.tail _ (.head _)))))) (by walk_at "CJD") (by walk_at "CJD")
          have eD2 := newE _ (N8 _ (.tail _ (.tail _ (.tail _ (.tail _ (.tail _ (.head _))))))) (by walk_at "CJD") (by walk_at "CJD")
          have eD3 := newE _ (N8 _ (.tail _ (.tail _ (.tail _ (.tail _ (.tail _ (.tail _ (.tail _ (.head _))))))))) (by walk_at "CJD") (by walk_at "CJD")
          have eD6 := newE _ (N8 _ (.tail _ (.tail _ (.tail _ (.tail _ (.tail _ (.tail _ (.tail _ (.tail _ (.tail _ (.tail _ (.tail _ (.head _))))))))))))) (by walk_at "CJD") (by walk_at "CJD")
          have eD9 := newE _ (N8 _ (.tail _ (.tail _ (.tail _ (.tail _ (.tail _ (.tail _ (.tail _ (.tail _ (.tail _ (.tail _ (.tail _ (.tail _ (.tail _ (.tail _ (.tail _ (.head _))))))))))))))))) (by walk_at "CJD") (by walk_at "CJD")
          have h4a : ∀ b o, h4.get? b = some o → h01.get? b = some o := fun b o e => k01.all (k0.all e)
          have frZ5 : ∀ b, h01.get? b = none → b ∉ [L', a, P, L' + 1 + 1, L' + 1, L] := fun b e hb => by
            obtain ⟨o, q⟩ := exZ b hb
            (first | exact obg e (h4a _ _ q) | exact obg (h4a _ _ q) e | (rw [h4a _ _ q] at e; cases e))
          have h4n : ∀ b, h01.get? b = none → h4.get? b = none := fun b e => by
            cases z : h4.get? b with
            | none => rfl
            | some o => (first | exact obg e (h4a _ _ z) | exact obg (h4a _ _ z) e | (rw [h4a _ _ z] at e; cases e))
          have S5H : StFix w.params hH st2 sd2 D rl2 (ypre ++ [yx] ++ [y]) := S5.all fun b o hb e => hHe ▸ hideAll_get _ e (by
            rcases oqs3 hb with rfl | rfl | rfl
            · exact nZG es1
            · exact nZG es2
            · exact frZ5 _ y5)
          have fyH := fy5.keep i5F (fun o e => hHe ▸ hideAll_get _ e (frZ5 _ y2)) (fun o e => hHe ▸ hideAll_get _ e (frZ5 _ y3))
          have iGH : KeepI hG hH := kGH.keepI fun b hb o e => by rw [List.mem_singleton.mp hb, es2] at e; cases e; rfl
          have hDsd : IsD hG sd2 := ⟨_, es2, rfl⟩
          have pyH : Paired (FrameAt w hH) (ypre ++ [yx]) I.fs := pmono_mem (fun z f hz q => q.keep iGH (fun o e => kGH _ _ (by simpa using ne_LD q.regs.isL hDsd) e) (fun o e => kGH _ _ (by
            obtain ⟨_, kv, DD, _⟩ := q.cells
            simpa using (ne_sd es2 DD).symm) e)) py3
          have erH := kGH _ _ (by simpa using ne_LD (isL er4) hDsd) er4
          have exY : ∀ z ∈ ypre ++ [yx], IsL hH z.R ∧ IsD hH z.C ∧ IsL hG z.R ∧ IsD hG z.C := fun z hz => by
            obtain ⟨i, hi⟩ := List.mem_iff_getElem?.mp hz
            obtain ⟨f1, _, q1⟩ := pget pyH i z hi
            obtain ⟨f2, _, q2⟩ := pget py3 i z hi
            exact ⟨q1.regs.isL, q1.cells.isD, q2.regs.isL, q2.cells.isD⟩
          have neNone : ∀ {hh : Heap} {b z : Addr}, (∃ o, hh.get? b = some o) → hh.get? z = none → b ≠ z := fun ⟨o, e⟩ e2 q => by rw [q, e2] at e; cases e
          have exL : ∀ {hh : Heap} {b : Addr}, IsL hh b → ∃ o, hh.get? b = some o := fun ⟨o, e, _⟩ => ⟨o, e⟩
          have exD : ∀ {hh : Heap} {b : Addr}, IsD hh b → ∃ o, hh.get? b = some o := fun ⟨o, e, _⟩ => ⟨o, e⟩
          have ex1 : ∀ {b : Addr}, (∃ o, hG.get? b = some o) → ∃ o, h01.get? b = some o := fun ⟨o, e⟩ => ⟨o, h4a _ _ (hG4 _ _ e)⟩
          have exRM : ∀ r ∈ I.rows, (∃ o, hF.get? r.RM = some o) ∧ ∃ o, hF.get? r.SM = some o := fun r hr => by
            obtain ⟨_, _, _, e, _⟩ := V1.words hr
            exact ⟨⟨_, e⟩, exD (V1.slots hr)⟩
          have exF : ∀ {b : Addr}, (∃ o, hF.get? b = some o) → (∃ o, hH.get? b = some o) ∧ ∃ o, h01.get? b = some o := fun ⟨o, e⟩ => ⟨⟨o, k0H.all e⟩, ex1 ⟨o, k02.all e⟩⟩
          have hk : ((I.fs.length : Int) - 1 + 1) = ((ypre.length + 1 : Nat) : Int) := by omega
          have kI7 : KeepI hH (hideAll h7 [L, a, P]) := KeepI.of fun _ _ => k7.all
          have hz6 : IsWord (hideAll h7 [L, a, P]) (.ref D6) .none := ⟨D6, rfl, _, eD6, .none _⟩
          have hrow : RowAt w (hideAll h7 [L, a, P]) ⟨d1, D2, d0⟩ ⟨calledWs fx.ws ((ypre.length + 1 : Nat) : Int), [], at' + 1⟩ := by
            refine ⟨⟨_, Heap.dictOf_iff.mpr ⟨o0, ed1, hdr⟩⟩, ⟨_, 0, eD2, ?_⟩, lo0, [], Heap.dictOf_iff.mpr ⟨o1, ed0, hi0⟩, .nil⟩
            (try dsimp only)
            rw [calledWs_eq hfw.1]
            exact papp (papp (papp (.cons ⟨D9, rfl, _, eD9, .none _⟩ .nil) (ptake 5 (pdrop 1 (pmono (fun _ _ q => q.keepI kI7) pm)))) (.cons hz6 (.cons hz6 (.cons hz6 (.cons hz6 .nil))))) (.cons ⟨D3, rfl, _, eD3, by rw [← hk]; exact .stack _ _ _ _ _⟩ .nil)
          have hI' : Inv w (hideAll h7 [L, a, P]) XF { st := st2, sd := sd2, fl := D, rl := rl2, ml := ml2, xs := ypre ++ [yx] ++ [y], rows := I.rows ++ [⟨d1, D2, d0⟩], fs := I.fs ++ [⟨calledWs fx.ws ((ypre.length + 1 : Nat) : Int), [], at' + 1⟩], nm := 0, nr := nr2, rs := I.rs } (c + 1) := by
            refine ⟨S5H.all fun b o _ e => k7.all e, papp (pmono (fun _ _ q => q.all k7) pyH) (.cons (fyH.all k7) .nil), papp (pmono (fun _ _ q => q.all k7) V3.ro) (.cons hrow .nil), ?_, k7.all erH, k7.all V3.er2, k7.all V3.el, V3.i0, V3.i1, V3.i2, V3.few0, V3.few, ?_, ?_, ?_, ?_, ?_, ?_, ?_, ?_, ?_⟩
            · (try dsimp only)
              rw [hrs, List.map_append, List.map_append]
              exact eml
            · intro f hf
              rcases List.mem_append.mp hf with hf | hf
              · exact ⟨(V3.ws f hf).1, Nat.le_succ_of_le (V3.ws f hf).2⟩
              · rcases List.mem_singleton.mp hf with rfl
                exact ⟨calledWs_len hfw.1, Nat.zero_le _⟩
            · simp
            · simp only [List.length_append, List.length_cons, List.length_nil]; omega
            · (try dsimp only)
              rw [List.map_append]
              refine nodup_snoc ap2.nR fun hm => ?_
              obtain ⟨z, hz, e⟩ := List.mem_map.mp hm
              exact neNone (ex1 (exL (exY z hz).2.2.1)) y2 e
            · (try dsimp only)
              rw [List.map_append]
              refine nodup_snoc ap2.nC fun hm => ?_
              obtain ⟨z, hz, e⟩ := List.mem_map.mp hm
              exact neNone (ex1 (exD (exY z hz).2.2.2)) y3 e
            · (try dsimp only)
              rw [List.map_append]
              refine nodup_snoc V3.nd.nM fun hm => ?_
              obtain ⟨z, hz, e⟩ := List.mem_map.mp hm
              exact neNone (exF (exRM z hz).1).1 fD2 e
            · (try dsimp only)
              rw [List.map_append]
              refine nodup_snoc V3.nd.nS fun hm => ?_
              obtain ⟨z, hz, e⟩ := List.mem_map.mp hm
              exact neNone (exF (exRM z hz).2).1 fd0 e
            · intro x hx r hr
              rcases List.mem_append.mp hx with hx2 | hx2 <;> rcases List.mem_append.mp hr with hr2 | hr2
              · exact (neNone (exRM r hr2).1 (hFz _ (ap2.fR x hx2))).symm
              · rcases List.mem_singleton.mp hr2 with rfl
                exact neNone (exL (exY x hx2).1) fD2
              · rcases List.mem_singleton.mp hx2 with rfl
                exact (neNone (exF (exRM r hr2).1).2 y2).symm
              · rcases List.mem_singleton.mp hx2 with rfl
                rcases List.mem_singleton.mp hr2 with rfl
                exact neNone (exL fyH.regs.isL) fD2
            · intro x hx r hr
              rcases List.mem_append.mp hx with hx2 | hx2 <;> rcases List.mem_append.mp hr with hr2 | hr2
              · exact (neNone (exRM r hr2).2 (hFz _ (ap2.fC x hx2))).symm
              · rcases List.mem_singleton.mp hr2 with rfl
                exact neNone (exD (exY x hx2).2.1) fd0
              · rcases List.mem_singleton.mp hx2 with rfl
                exact (neNone (exF (exRM r hr2).2).2 y3).symm
              · rcases List.mem_singleton.mp hx2 with rfl
                rcases List.mem_singleton.mp hr2 with rfl
                exact neNone (exD fyH.cells.isD) fd0
          have geL : ∀ D, @LT.lt Nat _ (L' + 1) D → s.heap.get? D = none := fun D h => hL' _ (Nat.le_of_lt (Nat.lt_trans (Nat.lt_succ_self _) h))
          exact hret h7 _ TT _ seat2 rest2 ps' n2 t12 t22 (keep_end hK5s F7) (fun o ho => ⟨oL5, F7.keep _ _ (by (first | exact imm_at (hoL) (g2L) _ ho | exact obw (hoL) ho (g2L) | (rw [hoL] at ho; cases ho; exact g2L)))⟩) eTT (geL _ (by omega)) (N8 _ (.tail _ (.tail _ (.tail _ (.tail _ (.tail _ (.tail _ (.tail _ (.tail _ (.tail _ (.tail _ (.tail _ (.tail _ (.tail _ (.tail _ (.tail _ (.tail _ (.head _)))))))))))))))))).1 p22 (by omega) r22 (N8 _ (.tail _ (.tail _ (.tail _ (.tail _ (.tail _ (.tail _ (.tail _ (.tail _ (.tail _ (.tail _ (.tail _ (.tail _ (.tail _ (.tail _ (.tail _ (.tail _ (.tail _ (.head _))))))))))))))))))).1
            (V3.codes (M := []) (fun _ hb => nomatch hb) k7 C3) hI' (fun b hb => by
              unfold muts at hb
              rcases List.mem_append.mp hb with hb | hb <;> rcases List.mem_append.mp hb with hb | hb <;> obtain ⟨z, hz, rfl⟩ := List.mem_map.mp hb <;> rcases List.mem_append.mp hz with hz | hz
              · exact .inr (hsz _ (ap2.fR z hz))
              · rcases List.mem_singleton.mp hz with rfl
                exact .inr (hs4 _ (h4n _ y2))
              · exact .inr (hsz _ (ap2.fC z hz))
              · rcases List.mem_singleton.mp hz with rfl
                exact .inr (hs4 _ (h4n _ y3))
              · exact .inl (mutM hz)
              · rcases List.mem_singleton.mp hz with rfl
                exact .inr (geL _ (by (try dsimp only); omega))
              · exact .inl (mutS hz)
              · rcases List.mem_singleton.mp hz with rfl
                exact .inr (geL _ (by (try dsimp only); omega)))
        · replace eT := i5F _ _ eT rfl
          replace eT2 := i5F _ _ eT2 rfl
          walk_at "KS0"
          apply Stop.in
          rename_i hx1 tkx D2 hx2 ld2 D1 h6 F8 N8 ld1
          have H6 : ∀ b o, hH.get? b = some o → h6.get? b = some o := lat6.at F8 N8 (by walk_at "SUBT")
          refine eq_ref (reads_ref (H6 _ _ eT) (H6 _ _ eT2)) (reads_ref (N8 _ (.head _)).1 (N8 _ (.tail _ (.head _))).1) (by decide +kernel) (Nat.le_of_ble_eq_true rfl) ?_
          walk_at "KS0"
          rename_i D7 h7 F7 N9 lD
          have k7 : Keep [] hH (hideAll h7 [L, a, P]) := fun b o _ e => hideAll_get _ (lat6.at F7 N9 (by walk_at "SUBT") _ _ e) (nZH e)
          exact hret h7 _ D7 I seat2 rest2 ps' n2 t12 t22 ((keep_end hK5s F7)) (fun o ho => ⟨oL5, F7.keep _ _ (by (first | exact imm_at (hoL) (g2L) _ ho | exact obw (hoL) ho (g2L) | (rw [hoL] at ho; cases ho; exact g2L)))⟩) (N9 _ (.head _)).1 (hL' _ (Nat.le_of_lt (Nat.lt_trans (Nat.lt_succ_self _) lD.2.2.2.2.2.1))) (N9 _ (.tail _ (.tail _ (.tail _ (.head _))))).1 p22 (by omega) r22 (N9 _ (.tail _ (.tail _ (.tail _ (.tail _ (.head _)))))).1
            (V3.codes (M := []) (fun _ hb => nomatch hb) k7 C3) ((V3.all k7).mono (Nat.le_succ _)) (fun b hb => .inl hb)
      · rw [if_neg (by simpa using w7)]
        walk_at "KS0"
        apply Stop.in
        have hG3 : ∀ b o, hG.get? b = some o → h3.get? b = some o := lat2.at F3 N4 (by walk_at "SUBT")
        obtain ⟨pre, xx, fpre, fx, rpre, rr, hxs, hfs, hrs, ppre, pxx, prpre, prr, hlp, hlr, hlf⟩ := V2.last
        have hfw := V1.ws fx (by rw [hfs]; simp)
        by_cases hN : I.fs.length = 1
        · have hr0 : rpre = [] := List.length_eq_zero_iff.mp (by omega)
          subst hr0
          have hlr2 : XF.rs2.length = XF.ns.length := ints_len V1.i2
          refine' use_sp (due1_sp (r := rr) (f := fx) (k := XF.ns.length) (rs := XF.rs2) (nm := I.nm) (nl := XF.nl) (prr.keep (KeepI.of hG3) (fun o e => hG3 _ _ e) (fun o e => hG3 _ _ e)) (by have := hG3 _ _ V2.em; rw [hrs] at this; exact this) (hG3 _ _ V2.er2) hlr2 (by omega) hfw.1) B' F3 X' T' ?uA ?uf ?uk ?uh ?ud ?uu (fun _ ha => nomatch ha) ?_
          case uA => exact rfl
          case uf => exact rfl
          case uk => exact rfl
          case uh => exact rfl
          case ud => exact Nat.le_of_ble_eq_true rfl
          case uu => exact Nat.le_of_ble_eq_true rfl
          intro v6 h6 tk6 K6 F6 P6
          obtain ⟨T, rfl, fT, P6⟩ := P6
          have N6 := newsKeep (M := []) N4 (fun _ _ => List.not_mem_nil) K6
          rcases P6 with ⟨ex, eT⟩ | ⟨what, T2, tw, tq, ex, fT2, eT, eT2⟩
          · have N7 := newsCons eT (fr_none F3 fT) (fr_neL F3 fT) N6
            clear N4 F3 N6
            walk_at "KS0"
            rename_i hy1 hy2 h6z F6z N6z
            have H6z : ∀ b o, hG.get? b = some o → h6z.get? b = some o := lat2.at F6z N6z (by walk_at "SUBT")
            obtain ⟨mD, FD, hmD, dd1, dd2, dd3, dd4⟩ : ∃ mD, Fr g L' h6z mD ∧ (∀ x ∈ rare, mD x = none) ∧ mD "state" = some (.ref I.st) ∧ mD "model" = some (.ref I.ml) ∧ mD "refused" = some (.none) ∧ mD "behind" = some (.none) := ⟨_, F6z, (by walk_at "RARE"), by walk_at "LOOK", by walk_at "LOOK", by walk_at "LOOK", by walk_at "LOOK"⟩
            have N4z : News g L' h6z [(a, listOf #[Value.ref XF.l, Value.int seat2 t12, Value.int rest2 t22] n2), (P, tabObj ps), (L' + 1 + 1, oT2), (L' + 1, oA2)] := newsSub N6z (four (by repeat (first | exact List.Mem.head _ | apply List.Mem.tail)) (by repeat (first | exact List.Mem.head _ | apply List.Mem.tail)) (by repeat (first | exact List.Mem.head _ | apply List.Mem.tail)) (by repeat (first | exact List.Mem.head _ | apply List.Mem.tail)))
            obtain ⟨tl3, hJ, hJe, N3z, -, off3P, -, -, lat3, i6F, -⟩ := reb6 FD N4z hmD rfl rfl (imm_cell dT2) (imm_cell dA2) hgL (immL _ hoL)
            have kGG : Keep [] hG hJ := fun b o _ e => hJe ▸ hideAll_get _ (H6z _ _ e) (fun hb => by rw [hGe, hideAll_none _ hb] at e; cases e)
            have k02z : Keep [] hF hJ := fun b o hb e => kGG b o hb (k02 b o hb e)
            have S3z : StFix w.params hJ st2 sd2 fl2 rl2 ys := S3.all fun b o _ e => kGG.all e
            have er4z := kGG.all er4
            have py3z : Paired (FrameAt w hJ) ys I.fs := pmono (fun _ _ q => q.all kGG) py3
            have C2z : CodesOk hJ lamQual lamPos ps := V2.codes (M := []) (fun _ hb => nomatch hb) kGG C2
            have immL4z : ∀ (hx : Heap), hx.Ns L' mD → ∀ o, hx.get? L' = some o → isImm o = false := fun hx ns => imm_ns ns hmD

            clear lat2 F6z N6z hem2 hrm2
            apply Stop.in
            refine' mk_lam (cn := "_law_deed") (P := P) (c := 746) (ps := ps) (rest := (a, listOf #[Value.ref XF.l, Value.int seat2 t12, Value.int rest2 t22] n2) :: (L' + 1 + 1, oT2) :: (L' + 1, oA2) :: tl3) (tl := tl3) (hK := hJ) (ks := lamPos) FD ?lN T' (hC.keeps fun b o e => B'.stays b o e) rfl ?lo C2z ?lm lat3 ?ls ?lk rfl rfl ?_
            case lN =>
              refine newsSub N3z fun q hq => ?_
              revert q; refine' obt4 ?_ ?_ ?_ ?_ (fun q hq => ?_) <;> (repeat (first | exact List.Mem.head _ | assumption | apply List.Mem.tail))
            case lo =>
              intro q hq
              simp only [List.mem_cons] at hq
              rcases hq with rfl | rfl | rfl | hq
              · exact naP
              · exact Nat.ne_of_gt (Nat.lt_trans lP (Nat.lt_trans (Nat.lt_succ_self _) (Nat.lt_succ_self _)))
              · exact Nat.ne_of_gt (Nat.lt_trans lP (Nat.lt_succ_self _))
              · exact off3P q hq
            case lm => simp [lamPos]
            case ls => exact fun q hq => .tail _ (.tail _ (.tail _ hq))
            case lk => rw [hJe]; exact hideAll_none _ (by walk_at "SI")
            intro f c' pm ctv ps' news' h4 tk4 F4 N9' hsub hPm lf lP4 hrec C4
            have N5 : News g L' h4 ((f, _) :: (P, tabObj ps') :: (a, listOf #[Value.ref XF.l, Value.int seat2 t12, Value.int rest2 t22] n2) :: (L' + 1 + 1, oT2) :: (L' + 1, oA2) :: tl3) := newsSub N9' fun q hq => by
              rcases obmc hq with rfl | hq
              · exact .head _
              · rcases obmc hq with rfl | hq
                · exact .tail _ hPm
                · exact .tail _ (hsub q hq)
            clear N3z N9' hsub hPm
            have O5 := fun q hq => (N5 q hq).1
            have G5 := fun q hq => (N5 q hq).2.2
            walk_at "KS0"
            apply Stop.in
            have hJ4 : ∀ b o, hJ.get? b = some o → h4.get? b = some o := lat3.at F4 N5 (by walk_at "SUBT")
            have nZJ : ∀ {b : Addr} {o : Obj}, hJ.get? b = some o → b ∉ [L', a, P, L' + 1 + 1, L' + 1, L] := fun e hb => by rw [hJe, hideAll_none _ hb] at e; cases e
            obtain ⟨es1, ⟨ts0, ts1, ts2, ts3, es2⟩, nS, es3⟩ := id S3z
            have hfr1 : frs [env] = [L] := by simp [frs, hf]
            obtain ⟨ypre, yx, eys, pyp, pyx⟩ : ∃ ypre yx, ys = ypre ++ [yx] ∧ Paired (FrameAt w hJ) ypre fpre ∧ FrameAt w hJ yx fx := by
              have z := py3z
              rw [hfs] at z
              exact psnoc_inv z
            have hyp : ypre = [] := List.length_eq_zero_iff.mp (by have := pyp.length; omega)
            subst hyp
            subst eys
            obtain ⟨vy, ny, ey, pvy⟩ := pyx.regs
            have hlrs' : I.rs.length = XF.ns.length := ints_len V1.i1
            refine' use_sph (heard_sp (f := f) (mn := []) (Post := (fun h' v h => ∃ h0, Keep [] h' h0 ∧ (v = .none ∧ exitBad (fx.ws.getD 0 .none) XF.ns.length = none))) (Err := (fun what q => q = at' ∧ exitBad (fx.ws.getD 0 .none) XF.ns.length = some what)) (ei4 (O5 _ (.head _))) ?hfM ?hmn ?S ?hst) B' F4 X' T' Xb Tb ?uA ?uf ?uk ?uh ?ud ?uu ?uM ?_
            case uA => exact rfl
            case uf => exact rfl
            case uk => exact rfl
            case uh => exact rfl
            case ud => exact Nat.le_of_ble_eq_true rfl
            case uu => exact Nat.le_of_ble_eq_true rfl
            case hfM => exact List.not_mem_nil
            case hmn => exact fun _ hq => nomatch hq
            case S =>
              intro h' tk' k
              refine lam_leave (mn := []) (k.all (O5 _ (.head _))) (hrec.keeps fun _ _ => k.all) ⟨oA2, k.all (O5 _ (.tail _ (.tail _ (.tail _ (.tail _ (.head _)))))), dA2⟩ ⟨oT2, k.all (O5 _ (.tail _ (.tail _ (.tail _ (.head _))))), dT2⟩ (fun _ hq => nomatch hq) fun h'' tk'' k' => ?_
              have up : ∀ b o, hJ.get? b = some o → h''.get? b = some o := fun b o e => k'.all (k.all (hJ4 _ _ e))
              exact leave1_sp (S3z.all fun b o _ e => up b o e) (pyx.fix.keepI (KeepI.of up)) (up _ _ ey) (pmono (fun _ _ q => q.keepI (KeepI.of up)) pvy) (pvy.length.trans hfw.1) (up _ _ er4z) hlrs' (by omega)
            case hst =>
              intro h0 v h1 h2 k rq0
              obtain ⟨h00, k0, e1, e2⟩ := rq0
              exact ⟨h00, k0, e1, e2⟩
            case uM => exact fun _ hb => nomatch hb
            intro v5 h5 tk5 g2 K5 up5 RB P5
            rw [hfr1] at K5 up5
            simp only [List.map_cons, List.map_nil, List.cons_append, List.nil_append] at K5
            have hMs : ∀ b ∈ ([] : List Addr), ∃ o, hJ.get? b = some o ∧ ∀ vs, o.data ≠ .fields vs := fun _ hb => nomatch hb
            have hMF : ∀ b ∈ ([] : List Addr), hF.get? b = none := fun _ hb => nomatch hb
            obtain ⟨tl6, hH, oL5, hHe, g2L, N7, off6a, off6P, off6T, off6A, lat6, i5F, kJH, C3, exZ, frH0⟩ := heard6 (M := ([] : List Addr)) hfr1 K5 RB F4 N5 hJe hJ4 hMs hgL hLnf hmD rfl (imm_cell dT2) (imm_cell dA2) (immL _ hoL) (fun _ z => by cases z) (fun _ z => by (first | exact obg z (dT2) | exact obg (dT2) z | (rw [dT2] at z; cases z))) (fun _ z => by (first | exact obg z (dA2) | exact obg (dA2) z | (rw [dA2] at z; cases z))) C4
            have F6 := RB.fr
            have hs4 : ∀ b, h4.get? b = none → s.heap.get? b = none := fun b e => by
              cases z : hB.get? b with
              | none => exact hsz b z
              | some o =>
                by_cases hb : b ∈ [L', a, P, L' + 1 + 1, L' + 1, L]
                · obtain ⟨o', e'⟩ := exZ b hb
                  rw [e] at e'; cases e'
                · have := hJ4 b o (kGG.all (hGe ▸ hideAll_get _ (K2.all z) hb))
                  (first | exact obg this (e) | exact obg (e) this | (rw [e] at this; cases this))
            have k0H : Keep [] hF hH := fun b o _ e => kJH _ _ (fun hb => by (first | exact obg e (hMF b hb) | exact obg (hMF b hb) e | (rw [hMF b hb] at e; cases e))) (k02z.all e)
            have V3 := V1.all k0H
            have B6 := RB.below
            have X6 := RB.inn
            have T6 := RB.top
            obtain ⟨T, rfl, gT, P5⟩ := P5
            have gTn := RB.none _ gT
            have hK5s : Keep (L :: a :: P :: muts I.xs I.rows) s.heap g2 := fun b o hb e => by
              rw [List.mem_cons, not_or] at hb
              rw [RB.out b (by rw [hfr1]; simpa using hb.1)]
              exact hkeep _ _ hb.2 e
            have hem3 := V3.em
            have hrm3 := V3.er2
            clear F4 N5 lat3 B' X' T' up5 RB K5
            have nzH : ∀ b ∈ [L', a, P, L' + 1 + 1, L' + 1, L], hH.get? b = none := fun b hb => by rw [hHe]; exact hideAll_none _ hb
            have nZH : ∀ {b : Addr} {o : Obj}, hH.get? b = some o → b ∉ [L, a, P] := fun e hb => by
              (first | exact obg e (nzH _ (ob36 hb)) | exact obg (nzH _ (ob36 hb)) e | (rw [nzH _ (ob36 hb)] at e; cases e))
            rcases P5 with ⟨u, tt, eT9, h0, k0, h01, k01, rfl, eb⟩ | ⟨T9, what9, pl, tt, tw9, tp9, eT9, gT9, eT8, e19, er⟩
            · replace eT9 := i5F _ _ eT9 rfl
              walk_at "KS0"
              apply Stop.in
              rename_i hx1 tkx D2 h8 F8 N8 lD2
              have H8 : ∀ b o, hH.get? b = some o → h8.get? b = some o := lat6.at F8 N8 (by walk_at "SUBT")
              refine eq_done (H8 _ _ eT9) (N8 _ (.head _)).1 (Nat.le_of_ble_eq_true rfl) ?_
              walk_at "KS0"
              rename_i D7 h7 F7 N9 lD
              have k7 : Keep [] hH (hideAll h7 [L, a, P]) := fun b o _ e => hideAll_get _ (lat6.at F7 N9 (by walk_at "SUBT") _ _ e) (nZH e)
              have geL : ∀ D, @LT.lt Nat _ (L' + 1) D → s.heap.get? D = none := fun D h => hL' _ (Nat.le_of_lt (Nat.lt_trans (Nat.lt_succ_self _) h))
              exact hret h7 _ D7 I seat2 rest2 ps' n2 t12 t22 (keep_end hK5s F7) (fun o ho => ⟨oL5, F7.keep _ _ (by (first | exact imm_at (hoL) (g2L) _ ho | exact obw (hoL) ho (g2L) | (rw [hoL] at ho; cases ho; exact g2L)))⟩) (N9 _ (.head _)).1 (geL _ (by omega)) (N9 _ (.tail _ (.tail _ (.head _)))).1 p22 (by omega) r22 (N9 _ (.tail _ (.tail _ (.tail _ (.head _))))).1
                (V3.codes (M := []) (fun _ hb => nomatch hb) k7 C3) ((V3.all k7).mono (Nat.le_succ _)) (fun b hb => .inl hb)
            · rw [ex] at er
              cases er
          · have N7 := newsCons eT (fr_none F3 fT) (fr_neL F3 fT) (newsCons eT2 (fr_none F3 fT2) (fr_neL F3 fT2) N6)
            clear N4 F3 N6
            walk_at "KS0"
            rename_i hy1 hy2 h6z F6z N6z
            have N6zT := fun q hq => (N6z q hq).1
            have H6z : ∀ b o, hG.get? b = some o → h6z.get? b = some o := lat2.at F6z N6z (by walk_at "SUBT")
            obtain ⟨mD, FD, hmD, dd1, dd2, dd3, dd4⟩ : ∃ mD, Fr g L' h6z mD ∧ (∀ x ∈ rare, mD x = none) ∧ mD "state" = some (.ref I.st) ∧ mD "model" = some (.ref I.ml) ∧ mD "refused" = some (.ref T2) ∧ mD "behind" = some (.none) := ⟨_, F6z, (by walk_at "RARE"), by walk_at "LOOK", by walk_at "LOOK", by walk_at "LOOK", by walk_at "LOOK"⟩
            have N4z : News g L' h6z [(a, listOf #[Value.ref XF.l, Value.int seat2 t12, Value.int rest2 t22] n2), (P, tabObj ps), (L' + 1 + 1, oT2), (L' + 1, oA2)] := newsSub N6z (four (by repeat (first | exact List.Mem.head _ | apply List.Mem.tail)) (by repeat (first | exact List.Mem.head _ | apply List.Mem.tail)) (by repeat (first | exact List.Mem.head _ | apply List.Mem.tail)) (by repeat (first | exact List.Mem.head _ | apply List.Mem.tail)))
            obtain ⟨tl3, hJ, hJe, N3z, -, off3P, -, -, lat3, i6F, -⟩ := reb6 FD N4z hmD rfl rfl (imm_cell dT2) (imm_cell dA2) hgL (immL _ hoL)
            have kGG : Keep [] hG hJ := fun b o _ e => hJe ▸ hideAll_get _ (H6z _ _ e) (fun hb => by rw [hGe, hideAll_none _ hb] at e; cases e)
            have k02z : Keep [] hF hJ := fun b o hb e => kGG b o hb (k02 b o hb e)
            have S3z : StFix w.params hJ st2 sd2 fl2 rl2 ys := S3.all fun b o _ e => kGG.all e
            have er4z := kGG.all er4
            have py3z : Paired (FrameAt w hJ) ys I.fs := pmono (fun _ _ q => q.all kGG) py3
            have C2z : CodesOk hJ lamQual lamPos ps := V2.codes (M := []) (fun _ hb => nomatch hb) kGG C2
            have immL4z : ∀ (hx : Heap), hx.Ns L' mD → ∀ o, hx.get? L' = some o → isImm o = false := fun hx ns => imm_ns ns hmD
            have eT2z : hJ.get? T2 = some (tupObj [Value.str what tw, Value.int at' tq]) := i6F _ _ (N6zT _ (.tail _ (.head _))) rfl
            clear lat2 F6z N6z hem2 hrm2
            apply Stop.in
            refine' mk_lam (cn := "_law_deed") (P := P) (c := 746) (ps := ps) (rest := (a, listOf #[Value.ref XF.l, Value.int seat2 t12, Value.int rest2 t22] n2) :: (L' + 1 + 1, oT2) :: (L' + 1, oA2) :: tl3) (tl := tl3) (hK := hJ) (ks := lamPos) FD ?lN T' (hC.keeps fun b o e => B'.stays b o e) rfl ?lo C2z ?lm lat3 ?ls ?lk rfl rfl ?_
            case lN =>
              refine newsSub N3z fun q hq => ?_
              revert q; refine' obt4 ?_ ?_ ?_ ?_ (fun q hq => ?_) <;> (repeat (first | exact List.Mem.head _ | assumption | apply List.Mem.tail))
            case lo =>
              intro q hq
              simp only [List.mem_cons] at hq
              rcases hq with rfl | rfl | rfl | hq
              · exact naP
              · exact Nat.ne_of_gt (Nat.lt_trans lP (Nat.lt_trans (Nat.lt_succ_self _) (Nat.lt_succ_self _)))
              · exact Nat.ne_of_gt (Nat.lt_trans lP (Nat.lt_succ_self _))
              · exact off3P q hq
            case lm => simp [lamPos]
            case ls => exact fun q hq => .tail _ (.tail _ (.tail _ hq))
            case lk => rw [hJe]; exact hideAll_none _ (by walk_at "SI")
            intro f c' pm ctv ps' news' h4 tk4 F4 N9' hsub hPm lf lP4 hrec C4
            have N5 : News g L' h4 ((f, _) :: (P, tabObj ps') :: (a, listOf #[Value.ref XF.l, Value.int seat2 t12, Value.int rest2 t22] n2) :: (L' + 1 + 1, oT2) :: (L' + 1, oA2) :: tl3) := newsSub N9' fun q hq => by
              rcases obmc hq with rfl | hq
              · exact .head _
              · rcases obmc hq with rfl | hq
                · exact .tail _ hPm
                · exact .tail _ (hsub q hq)
            clear N3z N9' hsub hPm
            have O5 := fun q hq => (N5 q hq).1
            have G5 := fun q hq => (N5 q hq).2.2
            walk_at "KS0"
            apply Stop.in
            have hJ4 : ∀ b o, hJ.get? b = some o → h4.get? b = some o := lat3.at F4 N5 (by walk_at "SUBT")
            have nZJ : ∀ {b : Addr} {o : Obj}, hJ.get? b = some o → b ∉ [L', a, P, L' + 1 + 1, L' + 1, L] := fun e hb => by rw [hJe, hideAll_none _ hb] at e; cases e
            obtain ⟨es1, ⟨ts0, ts1, ts2, ts3, es2⟩, nS, es3⟩ := id S3z
            have hfr1 : frs [env] = [L] := by simp [frs, hf]
            obtain ⟨ypre, yx, eys, pyp, pyx⟩ : ∃ ypre yx, ys = ypre ++ [yx] ∧ Paired (FrameAt w hJ) ypre fpre ∧ FrameAt w hJ yx fx := by
              have z := py3z
              rw [hfs] at z
              exact psnoc_inv z
            have hyp : ypre = [] := List.length_eq_zero_iff.mp (by have := pyp.length; omega)
            subst hyp
            subst eys
            obtain ⟨vy, ny, ey, pvy⟩ := pyx.regs
            have hlrs' : I.rs.length = XF.ns.length := ints_len V1.i1
            refine' use_sph (heard_sp (f := f) (mn := []) (Post := (fun h' v h => ∃ h0, Keep [] h' h0 ∧ (v = .none ∧ exitBad (fx.ws.getD 0 .none) XF.ns.length = none))) (Err := (fun what q => q = at' ∧ exitBad (fx.ws.getD 0 .none) XF.ns.length = some what)) (ei4 (O5 _ (.head _))) ?hfM ?hmn ?S ?hst) B' F4 X' T' Xb Tb ?uA ?uf ?uk ?uh ?ud ?uu ?uM ?_
            case uA => exact rfl
            case uf => exact rfl
            case uk => exact rfl
            case uh => exact rfl
            case ud => exact Nat.le_of_ble_eq_true rfl
            case uu => exact Nat.le_of_ble_eq_true rfl
            case hfM => exact List.not_mem_nil
            case hmn => exact fun _ hq => nomatch hq
            case S =>
              intro h' tk' k
              refine lam_leave (mn := []) (k.all (O5 _ (.head _))) (hrec.keeps fun _ _ => k.all) ⟨oA2, k.all (O5 _ (.tail _ (.tail _ (.tail _ (.tail _ (.head _)))))), dA2⟩ ⟨oT2, k.all (O5 _ (.tail _ (.tail _ (.tail _ (.head _))))), dT2⟩ (fun _ hq => nomatch hq) fun h'' tk'' k' => ?_
              have up : ∀ b o, hJ.get? b = some o → h''.get? b = some o := fun b o e => k'.all (k.all (hJ4 _ _ e))
              exact leave1_sp (S3z.all fun b o _ e => up b o e) (pyx.fix.keepI (KeepI.of up)) (up _ _ ey) (pmono (fun _ _ q => q.keepI (KeepI.of up)) pvy) (pvy.length.trans hfw.1) (up _ _ er4z) hlrs' (by omega)
            case hst =>
              intro h0 v h1 h2 k rq0
              obtain ⟨h00, k0, e1, e2⟩ := rq0
              exact ⟨h00, k0, e1, e2⟩
            case uM => exact fun _ hb => nomatch hb
            intro v5 h5 tk5 g2 K5 up5 RB P5
            rw [hfr1] at K5 up5
            simp only [List.map_cons, List.map_nil, List.cons_append, List.nil_append] at K5
            have hMs : ∀ b ∈ ([] : List Addr), ∃ o, hJ.get? b = some o ∧ ∀ vs, o.data ≠ .fields vs := fun _ hb => nomatch hb
            have hMF : ∀ b ∈ ([] : List Addr), hF.get? b = none := fun _ hb => nomatch hb
            obtain ⟨tl6, hH, oL5, hHe, g2L, N7, off6a, off6P, off6T, off6A, lat6, i5F, kJH, C3, exZ, frH0⟩ := heard6 (M := ([] : List Addr)) hfr1 K5 RB F4 N5 hJe hJ4 hMs hgL hLnf hmD rfl (imm_cell dT2) (imm_cell dA2) (immL _ hoL) (fun _ z => by cases z) (fun _ z => by (first | exact obg z (dT2) | exact obg (dT2) z | (rw [dT2] at z; cases z))) (fun _ z => by (first | exact obg z (dA2) | exact obg (dA2) z | (rw [dA2] at z; cases z))) C4
            have F6 := RB.fr
            have hs4 : ∀ b, h4.get? b = none → s.heap.get? b = none := fun b e => by
              cases z : hB.get? b with
              | none => exact hsz b z
              | some o =>
                by_cases hb : b ∈ [L', a, P, L' + 1 + 1, L' + 1, L]
                · obtain ⟨o', e'⟩ := exZ b hb
                  rw [e] at e'; cases e'
                · have := hJ4 b o (kGG.all (hGe ▸ hideAll_get _ (K2.all z) hb))
                  (first | exact obg this (e) | exact obg (e) this | (rw [e] at this; cases this))
            have k0H : Keep [] hF hH := fun b o _ e => kJH _ _ (fun hb => by (first | exact obg e (hMF b hb) | exact obg (hMF b hb) e | (rw [hMF b hb] at e; cases e))) (k02z.all e)
            have V3 := V1.all k0H
            have B6 := RB.below
            have X6 := RB.inn
            have T6 := RB.top
            obtain ⟨T, rfl, gT, P5⟩ := P5
            have gTn := RB.none _ gT
            have hK5s : Keep (L :: a :: P :: muts I.xs I.rows) s.heap g2 := fun b o hb e => by
              rw [List.mem_cons, not_or] at hb
              rw [RB.out b (by rw [hfr1]; simpa using hb.1)]
              exact hkeep _ _ hb.2 e
            have hem3 := V3.em
            have hrm3 := V3.er2
            clear F4 N5 lat3 B' X' T' up5 RB K5
            have nzH : ∀ b ∈ [L', a, P, L' + 1 + 1, L' + 1, L], hH.get? b = none := fun b hb => by rw [hHe]; exact hideAll_none _ hb
            have nZH : ∀ {b : Addr} {o : Obj}, hH.get? b = some o → b ∉ [L, a, P] := fun e hb => by
              (first | exact obg e (nzH _ (ob36 hb)) | exact obg (nzH _ (ob36 hb)) e | (rw [nzH _ (ob36 hb)] at e; cases e))
            rcases P5 with ⟨u, tt, eT9, h0, k0, h01, k01, rfl, eb⟩ | ⟨T9, what9, pl, tt, tw9, tp9, eT9, gT9, eT8, e19, er⟩
            · rw [ex] at eb
              cases eb
            · rw [ex] at er
              cases er
              cases e19
              replace eT9 := i5F _ _ eT9 rfl
              replace eT8 := i5F _ _ eT8 rfl
              have eT2H := kJH.all eT2z
              walk_at "KS0"
              apply Stop.in
              rename_i hx1 tkx D2 h8 F8 N8 lD2
              have H8 : ∀ b o, hH.get? b = some o → h8.get? b = some o := lat6.at F8 N8 (by walk_at "SUBT")
              refine eq_ref (reads_ref (H8 _ _ eT9) (H8 _ _ eT8)) (reads_ref (N8 _ (.head _)).1 (H8 _ _ eT2H)) (exitBad_ok ex) (Nat.le_of_ble_eq_true rfl) ?_
              walk_at "KS0"
              rename_i D7 h7 F7 N9 lD
              have k7 : Keep [] hH (hideAll h7 [L, a, P]) := fun b o _ e => hideAll_get _ (lat6.at F7 N9 (by walk_at "SUBT") _ _ e) (nZH e)
              have geL : ∀ D, @LT.lt Nat _ (L' + 1) D → s.heap.get? D = none := fun D h => hL' _ (Nat.le_of_lt (Nat.lt_trans (Nat.lt_succ_self _) h))
              exact hret h7 _ D7 I seat2 rest2 ps' n2 t12 t22 (keep_end hK5s F7) (fun o ho => ⟨oL5, F7.keep _ _ (by (first | exact imm_at (hoL) (g2L) _ ho | exact obw (hoL) ho (g2L) | (rw [hoL] at ho; cases ho; exact g2L)))⟩) (N9 _ (.head _)).1 (geL _ (by omega)) (N9 _ (.tail _ (.tail _ (.head _)))).1 p22 (by omega) r22 (N9 _ (.tail _ (.tail _ (.tail _ (.head _))))).1
                (V3.codes (M := []) (fun _ hb => nomatch hb) k7 C3) ((V3.all k7).mono (Nat.le_succ _)) (fun b hb => .inl hb)
        · obtain ⟨fpre2, fq, hfp⟩ : ∃ fpre2 fq, fpre = fpre2 ++ [fq] := by
            have hfn : fpre ≠ [] := fun z => by rw [z] at hlf; exact hN (by rw [← hlf]; rfl)
            exact (ei2 ((List.dropLast_concat_getLast hfn).symm))
          subst hfp
          obtain ⟨rpre2, rq, hrp, qrpre, qrr⟩ := psnoc_inv prpre
          subst hrp
          have lrq := qrpre.length
          have hlf2 : fpre2.length + 2 = I.fs.length := by rw [← hlf]; simp
          have hn8 := V1.n8
          have hfq := V1.ws fq (by rw [hfs]; simp)
          have hcells : ∀ f ∈ fpre2 ++ [fq], f.ws.length = 11 ∧ f.cells.length ≤ 20 := fun f hf => by
            have z := V1.ws f (by rw [hfs]; exact List.mem_append.mpr (.inl hf))
            exact ⟨z.1, Nat.le_trans z.2 (by omega)⟩
          have N4y : News g L' h3 [(a, listOf #[Value.ref XF.l, Value.int seat2 t12, Value.int rest2 t22] n2), (P, tabObj ps), (L' + 1 + 1, oT2), (L' + 1, oA2)] := newsSub N4 fun q hq => by
            walk_at "FMq" <;> walk_at "SI"
          have frZ3 : ∀ b, h3.get? b = none → b ∉ [L', a, P, L' + 1 + 1, L' + 1, L] := fun b e hb => by
            revert e; walk_at "FMb" <;> intro e
            · exact fr_neL F3 e rfl
            · first | exact obg e ((N4y _ (.head _)).1) | (rw [(N4y _ (.head _)).1] at e; cases e)
            · first | exact obg e ((N4y _ (.tail _ (.head _))).1) | (rw [(N4y _ (.tail _ (.head _))).1] at e; cases e)
            · first | exact obg e ((N4y _ (.tail _ (.tail _ (.head _)))).1) | (rw [(N4y _ (.tail _ (.tail _ (.head _)))).1] at e; cases e)
            · first | exact obg e ((N4y _ (.tail _ (.tail _ (.tail _ (.head _))))).1) | (rw [(N4y _ (.tail _ (.tail _ (.tail _ (.head _))))).1] at e; cases e)
            · first | exact obg e (F3.keep _ _ hgL) | (rw [F3.keep _ _ hgL] at e; cases e)
          have nZg : ∀ {b : Addr} {o : Obj}, hG.get? b = some o → b ∉ [L', a, P, L' + 1 + 1, L' + 1, L] := fun e hb => by rw [hGe, hideAll_none _ hb] at e; cases e
          have hs3 : ∀ b, h3.get? b = none → s.heap.get? b = none := fun b e => by
            cases z : hB.get? b with
            | none => exact hsz b z
            | some o =>
              have := hG3 b o (hGe ▸ hideAll_get _ (K2.all z) (frZ3 b e))
              (first | exact obg this (e) | exact obg (e) this | (rw [e] at this; cases this))
          have neNone : ∀ {hh : Heap} {b z : Addr}, (∃ o, hh.get? b = some o) → hh.get? z = none → b ≠ z := fun ⟨o, e⟩ e2 q => by rw [q, e2] at e; cases e
          have exL : ∀ {hh : Heap} {b : Addr}, IsL hh b → ∃ o, hh.get? b = some o := fun ⟨o, e, _⟩ => ⟨o, e⟩
          have exD : ∀ {hh : Heap} {b : Addr}, IsD hh b → ∃ o, hh.get? b = some o := fun ⟨o, e, _⟩ => ⟨o, e⟩
          refine' use_sp (due2_sp (pre := rpre2) (x := rq) (y := rr) (fpre := fpre2) (fx := fq) (fy := fx) (nm := I.nm) (pmono (fun _ _ q => q.keep (KeepI.of hG3) (fun o e => hG3 _ _ e) (fun o e => hG3 _ _ e)) qrpre) (qrr.keep (KeepI.of hG3) (fun o e => hG3 _ _ e) (fun o e => hG3 _ _ e)) (prr.keep (KeepI.of hG3) (fun o e => hG3 _ _ e) (fun o e => hG3 _ _ e)) (by have := hG3 _ _ V2.em; rw [hrs, List.map_append, List.map_append] at this; exact this) (by omega) hcells hfw.1) B' F3 X' T' ?uA ?uf ?uk ?uh ?ud ?uu (fun _ ha => nomatch ha) ?_
          case uA => exact rfl
          case uf => exact rfl
          case uk => exact rfl
          case uh => exact rfl
          case ud => exact Nat.le_of_ble_eq_true rfl
          case uu => exact Nat.le_of_ble_eq_true rfl
          intro v6 h6 tk6 K6 F6 P6
          obtain ⟨T, rfl, fT, P6⟩ := P6
          have N6 := newsKeep (M := []) N4 (fun _ _ => List.not_mem_nil) K6
          rcases P6 with ⟨ml2, n2m, bs, r2, eT, fml, eml, hbs, hSM, fr2, fRM, prow, hpts⟩ | ⟨T2, tw, tq, eT, fT2, eT2, wz, hwz, hwzp⟩
          · have N6y : News g L' h6 [(a, listOf #[Value.ref XF.l, Value.int seat2 t12, Value.int rest2 t22] n2), (P, tabObj ps), (L' + 1 + 1, oT2), (L' + 1, oA2)] := newsSub N6 (four (by repeat (first | exact List.Mem.head _ | apply List.Mem.tail)) (by repeat (first | exact List.Mem.head _ | apply List.Mem.tail)) (by repeat (first | exact List.Mem.head _ | apply List.Mem.tail)) (by repeat (first | exact List.Mem.head _ | apply List.Mem.tail)))
            have H6y : ∀ b o, hG.get? b = some o → h6.get? b = some o := lat2.at F6 N6 (by walk_at "SUBT")
            obtain ⟨tlx, hK, hKe, Nx, -, -, -, -, latx, i6y, -⟩ := reb6 F6 N6y (by walk_at "RARE") rfl rfl (imm_cell dT2) (imm_cell dA2) hgL (immL _ hoL)
            have kGK : Keep [] hG hK := fun b o _ e => hKe ▸ hideAll_get _ (H6y _ _ e) (nZg e)
            have emlK : hK.get? ml2 = some (listOf (List.toArray (bs.map fun r : MR => Value.ref r.row)) n2m) := hKe ▸ hideAll_get _ eml (frZ3 _ fml)
            have prowK : Paired (RowAt w hK) bs (leftFs fpre2 fq fx) := by
              have nZr : ∀ z ∈ bs, z.RM ∉ [L', a, P, L' + 1 + 1, L' + 1, L] ∧ z.SM ∉ [L', a, P, L' + 1 + 1, L' + 1, L] := fun z hz => by
                rw [hbs] at hz
                rcases List.mem_append.mp hz with hz | hz
                · obtain ⟨i, hi⟩ := List.mem_iff_getElem?.mp hz
                  obtain ⟨f, _, q⟩ := pget qrpre i z hi
                  obtain ⟨o1, z1⟩ := exL q.words.isL
                  obtain ⟨o2, z2⟩ := exD q.slots.isD
                  exact ⟨nZg z1, nZg z2⟩
                · rw [List.mem_singleton.mp hz]
                  obtain ⟨o2, z2⟩ := exD qrr.slots.isD
                  exact ⟨frZ3 _ fRM, hSM ▸ nZg z2⟩
              exact pmono_mem (fun z f hz q => q.keep i6y (fun o e => hKe ▸ hideAll_get _ e (nZr z hz).1) (fun o e => hKe ▸ hideAll_get _ e (nZr z hz).2)) prow
            have N7 := newsCons eT (fr_none F3 fT) (fr_neL F3 fT) Nx
            have exRM : ∀ r ∈ I.rows, (∃ o, hF.get? r.RM = some o) ∧ ∃ o, hF.get? r.SM = some o := fun r hr => by
              obtain ⟨_, _, _, e, _⟩ := V1.words hr
              exact ⟨⟨_, e⟩, exD (V1.slots hr)⟩
            have sh3 : ∀ b o, hG.get? b = some o → b ≠ ml2 ∧ b ≠ r2.RM := fun b o e => ⟨fun z => (by have := hG3 _ _ e; rw [z, fml] at this; cases this), fun z => (by have := hG3 _ _ e; rw [z, fRM] at this; cases this)⟩
            have gr2 := hs3 _ fRM
            clear N4 F3 N6 eml prow eT N4y lat2 i6y Nx
            walk_at "KS0"
            rename_i hy1 hy2 h6z F6z N6z
            have H6z : ∀ b o, hK.get? b = some o → h6z.get? b = some o := latx.at F6z N6z (by walk_at "SUBT")
            obtain ⟨mD, FD, hmD, dd1, dd2, dd3, dd4⟩ : ∃ mD, Fr g L' h6z mD ∧ (∀ x ∈ rare, mD x = none) ∧ mD "state" = some (.ref I.st) ∧ mD "model" = some (.ref I.ml) ∧ mD "refused" = some (.none) ∧ mD "behind" = some (.ref ml2) := ⟨_, F6z, (by walk_at "RARE"), by walk_at "LOOK", by walk_at "LOOK", by walk_at "LOOK", by walk_at "LOOK"⟩
            have N4z : News g L' h6z [(a, listOf #[Value.ref XF.l, Value.int seat2 t12, Value.int rest2 t22] n2), (P, tabObj ps), (L' + 1 + 1, oT2), (L' + 1, oA2)] := newsSub N6z (four (by repeat (first | exact List.Mem.head _ | apply List.Mem.tail)) (by repeat (first | exact List.Mem.head _ | apply List.Mem.tail)) (by repeat (first | exact List.Mem.head _ | apply List.Mem.tail)) (by repeat (first | exact List.Mem.head _ | apply List.Mem.tail)))
            obtain ⟨tl3, hJ, hJe, N3z, -, off3P, -, -, lat3, i6F, -⟩ := reb6 FD N4z hmD rfl rfl (imm_cell dT2) (imm_cell dA2) hgL (immL _ hoL)
            have kKJ : Keep [] hK hJ := fun b o _ e => hJe ▸ hideAll_get _ (H6z _ _ e) (fun hb => by rw [hKe, hideAll_none _ hb] at e; cases e)
            have kGG : Keep [] hG hJ := fun b o hb e => kKJ b o hb (kGK b o hb e)
            have k02z : Keep [] hF hJ := fun b o hb e => kGG b o hb (k02 b o hb e)
            have S3z : StFix w.params hJ st2 sd2 fl2 rl2 ys := S3.all fun b o _ e => kGG.all e
            have er4z := kGG.all er4
            have py3z : Paired (FrameAt w hJ) ys I.fs := pmono (fun _ _ q => q.all kGG) py3
            have C2z : CodesOk hJ lamQual lamPos ps := V2.codes (M := []) (fun _ hb => nomatch hb) kGG C2
            have immL4z : ∀ (hx : Heap), hx.Ns L' mD → ∀ o, hx.get? L' = some o → isImm o = false := fun hx ns => imm_ns ns hmD
            have emlJ := kKJ.all emlK
            have prowJ : Paired (RowAt w hJ) bs (leftFs fpre2 fq fx) := pmono (fun _ _ q => q.all kKJ) prowK
            clear latx emlK prowK F6z N6z hem2 hrm2
            apply Stop.in
            refine' mk_lam (cn := "_law_deed") (P := P) (c := 746) (ps := ps) (rest := (a, listOf #[Value.ref XF.l, Value.int seat2 t12, Value.int rest2 t22] n2) :: (L' + 1 + 1, oT2) :: (L' + 1, oA2) :: tl3) (tl := tl3) (hK := hJ) (ks := lamPos) FD ?lN T' (hC.keeps fun b o e => B'.stays b o e) rfl ?lo C2z ?lm lat3 ?ls ?lk rfl rfl ?_
            case lN =>
              refine newsSub N3z fun q hq => ?_
              revert q; refine' obt4 ?_ ?_ ?_ ?_ (fun q hq => ?_) <;> (repeat (first | exact List.Mem.head _ | assumption | apply List.Mem.tail))
            case lo =>
              intro q hq
              simp only [List.mem_cons] at hq
              rcases hq with rfl | rfl | rfl | hq
              · exact naP
              · exact Nat.ne_of_gt (Nat.lt_trans lP (Nat.lt_trans (Nat.lt_succ_self _) (Nat.lt_succ_self _)))
              · exact Nat.ne_of_gt (Nat.lt_trans lP (Nat.lt_succ_self _))
              · exact off3P q hq
            case lm => simp [lamPos]
            case ls => exact fun q hq => .tail _ (.tail _ (.tail _ hq))
            case lk => rw [hJe]; exact hideAll_none _ (by walk_at "SI")
            intro f c' pm ctv ps' news' h4 tk4 F4 N9' hsub hPm lf lP4 hrec C4
            have N5 : News g L' h4 ((f, _) :: (P, tabObj ps') :: (a, listOf #[Value.ref XF.l, Value.int seat2 t12, Value.int rest2 t22] n2) :: (L' + 1 + 1, oT2) :: (L' + 1, oA2) :: tl3) := newsSub N9' fun q hq => by
              rcases obmc hq with rfl | hq
              · exact .head _
              · rcases obmc hq with rfl | hq
                · exact .tail _ hPm
                · exact .tail _ (hsub q hq)
            clear N3z N9' hsub hPm
            have O5 := fun q hq => (N5 q hq).1
            have G5 := fun q hq => (N5 q hq).2.2
            walk_at "KS0"
            apply Stop.in
            have hJ4 : ∀ b o, hJ.get? b = some o → h4.get? b = some o := lat3.at F4 N5 (by walk_at "SUBT")
            have nZJ : ∀ {b : Addr} {o : Obj}, hJ.get? b = some o → b ∉ [L', a, P, L' + 1 + 1, L' + 1, L] := fun e hb => by rw [hJe, hideAll_none _ hb] at e; cases e
            obtain ⟨es1, ⟨ts0, ts1, ts2, ts3, es2⟩, nS, es3⟩ := id S3z
            have hfr1 : frs [env] = [L] := by simp [frs, hf]
            obtain ⟨ypre, yx, eys, pyp, pyx⟩ : ∃ ypre yx, ys = ypre ++ [yx] ∧ Paired (FrameAt w hJ) ypre (fpre2 ++ [fq]) ∧ FrameAt w hJ yx fx := by
              have z := py3z
              rw [hfs] at z
              exact psnoc_inv z
            obtain ⟨ypre2, yq, eyp, pyq, pyqx⟩ := psnoc_inv pyp
            subst eyp
            subst eys
            have lyp := pyq.length
            have lyr : ypre2.length = rpre2.length := lyp.trans lrq.symm
            obtain ⟨vq, nq, eyq, pvq⟩ := pyqx.regs
            have hvq : vq.length = 11 := pvq.length.trans hfq.1
            obtain ⟨nR1, nR2, nR3⟩ := nodup_last2 ap2.nR
            obtain ⟨-, -, nC3⟩ := nodup_last2 ap2.nC
            have gsd := gz _ fs2
            have gyR := gz _ (ap2.fR yq (by walk_at "SI"))
            refine' use_sph (heard_sp (f := f) (mn := [(sd2, dictOf [ent w.params "frames" ts0 (.ref fl2), ent w.params "next_number" ts1 (.int 9 ts3), ent w.params "rooms" ts2 (.ref rl2)] 3), (yq.R, listOf vq.toArray nq)]) (Post := (fun h' v h => ∃ h0, Keep [] h' h0 ∧ (v = .ref st2 ∧ (∀ z ∈ allW (leftFs fpre2 fq fx), z.pts (((ypre2.length + 2 : Nat) : Int) - 1) = false) ∧ ∃ D, h0.get? D = none ∧ StFix w.params h st2 sd2 D rl2 (ypre2 ++ [yq]) ∧ Paired (FrameAt w h) (ypre2 ++ [yq]) (leftFs fpre2 fq fx)))) (Err := (fun what q => q = at' ∧ what = "a pointer to a stack that goes" ∧ ∃ z ∈ allW (leftFs fpre2 fq fx), z.pts (((ypre2.length + 2 : Nat) : Int) - 1) = true)) (ei4 (O5 _ (.head _))) ?hfM ?hmn ?S ?hst) B' F4 X' T' Xb Tb ?uA ?uf ?uk ?uh ?ud ?uu ?uM ?_
            case uA => exact rfl
            case uf => exact rfl
            case uk => exact rfl
            case uh => exact rfl
            case ud => exact Nat.le_of_ble_eq_true rfl
            case uu => exact Nat.le_of_ble_eq_true rfl
            case hfM =>
              intro z
              have z2 := O5 _ (.head _)
              simp only [List.map_cons, List.map_nil, List.mem_cons, List.not_mem_nil, or_false] at z
              rcases z with z | z
              · rw [z, hJ4 _ _ es2] at z2
                have := congrArg Obj.data (Option.some.inj z2)
                cases this
              · rw [z, hJ4 _ _ eyq] at z2
                have := congrArg Obj.data (Option.some.inj z2)
                cases this
            case hmn =>
              intro q hq
              walk_at "FMq"
              · exact hJ4 _ _ es2
              · exact hJ4 _ _ eyq
            case S =>
              intro h' tk' k
              refine lam_leave (mn := [(sd2, _), (yq.R, _)]) (k.all (O5 _ (.head _))) (hrec.keeps fun _ _ => k.all) ⟨oA2, k.all (O5 _ (.tail _ (.tail _ (.tail _ (.tail _ (.head _)))))), dA2⟩ ⟨oT2, k.all (O5 _ (.tail _ (.tail _ (.tail _ (.head _))))), dT2⟩ (fun q hq => ?_) fun h'' tk'' k' => ?_
              · walk_at "FMq"
                · exact k.all (hJ4 _ _ es2)
                · exact k.all (hJ4 _ _ eyq)
              · have up : ∀ b o, hJ.get? b = some o → h''.get? b = some o := fun b o e => k'.all (k.all (hJ4 _ _ e))
                exact leave2_sp (N := 0) (S3z.all fun b o _ e => up b o e) (pmono (fun _ _ q => q.keep (KeepI.of up) (fun o e => up _ _ e) (fun o e => up _ _ e)) pyq) (pyqx.keep (KeepI.of up) (fun o e => up _ _ e) (fun o e => up _ _ e)) (pyx.keep (KeepI.of up) (fun o e => up _ _ e) (fun o e => up _ _ e)) nR1 nR2 (by omega) hcells hfw.1
            case hst =>
              intro h0 v h1 h2 k rq0
              obtain ⟨h00, k0, e1, e2, D, q1, s6, f7⟩ := rq0
              exact ⟨h00, k0, e1, e2, D, q1, s6.all (fun _ _ _ => k.all), pmono (fun _ _ q => q.all k) f7⟩
            case uM =>
              intro b hb
              simp only [List.map_cons, List.map_nil, List.mem_cons, List.not_mem_nil, or_false] at hb
              rcases hb with hb | hb
              · rw [hb]; exact ⟨gsd, fun z => nZJ es2 (by rw [show sd2 = L' from z]; simp)⟩
              · rw [hb]; exact ⟨gyR, fun z => nZJ eyq (by rw [show yq.R = L' from z]; simp)⟩
            intro v5 h5 tk5 g2 K5 up5 RB P5
            rw [hfr1] at K5 up5
            simp only [List.map_cons, List.map_nil, List.cons_append, List.nil_append] at K5
            have hMs : ∀ b ∈ [sd2, yq.R], ∃ o, hJ.get? b = some o ∧ ∀ vs, o.data ≠ .fields vs := fun b hb => by (simp only [List.mem_cons, List.not_mem_nil, or_false] at hb; rcases hb with hb | hb); (rw [hb]; exact ⟨_, es2, fun vs z => by cases z⟩); (rw [hb]; exact ⟨_, eyq, fun vs z => by cases z⟩)
            have hMF : ∀ b ∈ [sd2, yq.R], hF.get? b = none := fun b hb => by (simp only [List.mem_cons, List.not_mem_nil, or_false] at hb; rcases hb with hb | hb); (rw [hb]; exact hFz _ fs2); (rw [hb]; exact hFz _ (ap2.fR yq (by walk_at "SI")))
            obtain ⟨tl6, hH, oL5, hHe, g2L, N7, off6a, off6P, off6T, off6A, lat6, i5F, kJH, C3, exZ, frH0⟩ := heard6 (M := [sd2, yq.R]) hfr1 K5 RB F4 N5 hJe hJ4 hMs hgL hLnf hmD rfl (imm_cell dT2) (imm_cell dA2) (immL _ hoL) (fun _ z => by cases z) (fun _ z => by (first | exact obg z (dT2) | exact obg (dT2) z | (rw [dT2] at z; cases z))) (fun _ z => by (first | exact obg z (dA2) | exact obg (dA2) z | (rw [dA2] at z; cases z))) C4
            have F6 := RB.fr
            have hs4 : ∀ b, h4.get? b = none → s.heap.get? b = none := fun b e => by
              cases z : hB.get? b with
              | none => exact hsz b z
              | some o =>
                by_cases hb : b ∈ [L', a, P, L' + 1 + 1, L' + 1, L]
                · obtain ⟨o', e'⟩ := exZ b hb
                  rw [e] at e'; cases e'
                · have := hJ4 b o (kGG.all (hGe ▸ hideAll_get _ (K2.all z) hb))
                  (first | exact obg this (e) | exact obg (e) this | (rw [e] at this; cases this))
            have k0H : Keep [] hF hH := fun b o _ e => kJH _ _ (fun hb => by (first | exact obg e (hMF b hb) | exact obg (hMF b hb) e | (rw [hMF b hb] at e; cases e))) (k02z.all e)
            have V3 := V1.all k0H
            have B6 := RB.below
            have X6 := RB.inn
            have T6 := RB.top
            obtain ⟨T, rfl, gT, P5⟩ := P5
            have gTn := RB.none _ gT
            have hK5s : Keep (L :: a :: P :: muts I.xs I.rows) s.heap g2 := fun b o hb e => by
              rw [List.mem_cons, not_or] at hb
              rw [RB.out b (by rw [hfr1]; simpa using hb.1)]
              exact hkeep _ _ hb.2 e
            have hem3 := V3.em
            have hrm3 := V3.er2
            clear F4 N5 lat3 B' X' T' up5 RB K5
            have nzH : ∀ b ∈ [L', a, P, L' + 1 + 1, L' + 1, L], hH.get? b = none := fun b hb => by rw [hHe]; exact hideAll_none _ hb
            have nZH : ∀ {b : Addr} {o : Obj}, hH.get? b = some o → b ∉ [L, a, P] := fun e hb => by
              (first | exact obg e (nzH _ (ob36 hb)) | exact obg (nzH _ (ob36 hb)) e | (rw [nzH _ (ob36 hb)] at e; cases e))
            rcases P5 with ⟨u, tt, eT9, h0, k0, h01, k01, rfl, hno, D, y5, S5, f5⟩ | ⟨T9, what9, pl, tt, tw9, tp9, eT9, gT9, eT8, e19, er, wz, hwz, hwzp⟩
            · replace eT9 := i5F _ _ eT9 rfl
              walk_at "KS0"
              rename_i hx1 TT h7 F7 N9 lD
              have k7 : Keep [] hH (hideAll h7 [L, a, P]) := fun b o _ e => hideAll_get _ (lat6.at F7 N9 (by walk_at "SUBT") _ _ e) (nZH e)
              have geL : ∀ D, @LT.lt Nat _ (L' + 1) D → s.heap.get? D = none := fun D h => hL' _ (Nat.le_of_lt (Nat.lt_trans (Nat.lt_succ_self _) h))
              have h4a : ∀ b o, h4.get? b = some o → h01.get? b = some o := fun b o e => k01.all (k0.all e)
              have frZ5 : ∀ b, h01.get? b = none → b ∉ [L', a, P, L' + 1 + 1, L' + 1, L] := fun b e hb => by
                obtain ⟨o, q⟩ := exZ b hb
                (first | exact obg e (h4a _ _ q) | exact obg (h4a _ _ q) e | (rw [h4a _ _ q] at e; cases e))
              have S5H : StFix w.params hH st2 sd2 D rl2 (ypre2 ++ [yq]) := S5.all fun b o hb e => hHe ▸ hideAll_get _ e (by
                rcases oqs3 hb with rfl | rfl | rfl
                · exact nZJ es1
                · exact nZJ es2
                · exact frZ5 _ y5)
              obtain ⟨-, ⟨_, _, _, _, es2G⟩, -, -⟩ := id S3
              have exYG : ∀ z ∈ ypre2 ++ [yq], (∃ o, hG.get? z.R = some o) ∧ ∃ o, hG.get? z.C = some o := fun z hz => by
                obtain ⟨i, hi⟩ := List.mem_iff_getElem?.mp (List.mem_append.mpr (.inl hz) : z ∈ ypre2 ++ [yq] ++ [yx])
                obtain ⟨f1, _, q1⟩ := pget py3 i z hi
                exact ⟨exL q1.regs.isL, exD q1.cells.isD⟩
              have f5H : Paired (FrameAt w hH) (ypre2 ++ [yq]) (leftFs fpre2 fq fx) := pmono_mem (fun z f hz q => q.keep i5F (fun o e => hHe ▸ hideAll_get _ e (by obtain ⟨⟨o, e⟩, -⟩ := exYG z hz; exact nZJ (kGG.all e))) (fun o e => hHe ▸ hideAll_get _ e (by obtain ⟨-, ⟨o, e⟩⟩ := exYG z hz; exact nZJ (kGG.all e)))) f5
              have inI : ∀ z ∈ rpre2, z ∈ I.rows := fun z hz => by rw [hrs]; simp [hz]
              have inQ : rq ∈ I.rows := by rw [hrs]; simp
              have inY : ∀ z ∈ ypre2 ++ [yq], z ∈ ypre2 ++ [yq] ++ [yx] := fun z hz => List.mem_append.mpr (.inl hz)
              have inYq : yq ∈ ypre2 ++ [yq] := by simp
              have nMr : ∀ z ∈ bs, z.RM ∉ [sd2, yq.R] ∧ z.SM ∉ [sd2, yq.R] := fun z hz => by
                have old : ∀ b, (∃ o, hF.get? b = some o) → b ∉ [sd2, yq.R] := fun b hb hm => by
                  walk_at "MOhm"
                  rcases hm with hm | hm
                  · exact neNone hb (hFz _ fs2) hm
                  · exact neNone hb (hFz _ (ap2.fR yq (inY _ inYq))) hm
                rw [hbs] at hz
                rcases List.mem_append.mp hz with hz | hz
                · exact ⟨old _ (exRM z (inI z hz)).1, old _ (exRM z (inI z hz)).2⟩
                · rw [List.mem_singleton.mp hz]
                  refine ⟨fun hm => ?_, hSM ▸ old _ (exRM rq inQ).2⟩
                  walk_at "MOhm"
                  rcases hm with hm | hm
                  · exact (sh3 _ _ es2G).2 hm.symm
                  · obtain ⟨⟨o, e⟩, -⟩ := exYG yq inYq
                    exact (sh3 _ _ e).2 hm.symm
              have iJH : KeepI hJ hH := kJH.keepI fun b hb o e => by
                walk_at "MOhb"
                rcases hb with hb | hb
                · first | exact imm_at (hb, es2) rfl _ e | (rw [hb, es2] at e; cases e; rfl)
                · first | exact imm_at (hb, eyq) rfl _ e | (rw [hb, eyq] at e; cases e; rfl)
              have prowH : Paired (RowAt w hH) bs (leftFs fpre2 fq fx) := pmono_mem (fun z f hz q => q.keep iJH (fun o e => kJH _ _ (nMr z hz).1 e) (fun o e => kJH _ _ (nMr z hz).2 e)) prowJ
              have emlH := kJH _ _ (fun hm => by
                walk_at "MOhm"
                rcases hm with hm | hm
                · exact (sh3 _ _ es2G).1 hm.symm
                · obtain ⟨⟨o, e⟩, -⟩ := exYG yq inYq
                  exact (sh3 _ _ e).1 hm.symm) emlJ
              have hlrs' : I.rs.length = XF.ns.length := ints_len V1.i1
              have erH := kJH _ _ (fun hm => by
                walk_at "MOhm"
                rcases hm with hm | hm
                · rw [hm, es2] at er4z; exact absurd (Value.type.inj (congrArg Obj.cls (Option.some.inj er4z))) (by decide)
                · rw [hm] at er4z
                  have := congrArg List.length (list_inj er4z eyq)
                  omega) er4z
              have hI' : Inv w (hideAll h7 [L, a, P]) XF { st := st2, sd := sd2, fl := D, rl := rl2, ml := ml2, xs := ypre2 ++ [yq], rows := bs, fs := leftFs fpre2 fq fx, nm := n2m, nr := nr2, rs := I.rs } (c + 1) := by
                refine ⟨S5H.all fun b o _ e => k7.all e, pmono (fun _ _ q => q.all k7) f5H, pmono (fun _ _ q => q.all k7) prowH, k7.all emlH, k7.all erH, k7.all V3.er2, k7.all V3.el, V3.i0, V3.i1, V3.i2, V3.few0, V3.few, ?_, ?_, ?_, nR3, nC3, ?_, ?_, ?_, ?_⟩
                · intro f hf
                  rcases List.mem_append.mp (show f ∈ fpre2 ++ [_] from hf) with hf | hf
                  · have z := V3.ws f (by rw [hfs]; simp [hf])
                    exact ⟨z.1, Nat.le_succ_of_le z.2⟩
                  · rcases List.mem_singleton.mp hf with rfl
                    exact ⟨lastWs_len hfq.1, Nat.le_succ_of_le hfq.2⟩
                · simp [leftFs]
                · simp only [leftFs, List.length_append, List.length_cons, List.length_nil]; omega
                · (try dsimp only)
                  obtain ⟨-, -, z⟩ := nodup_last2 (hrs ▸ V1.nd.nM)
                  rw [List.map_append, List.nodup_append] at z
                  rw [hbs, List.map_append]
                  refine nodup_snoc z.1 fun hm => ?_
                  obtain ⟨y, hy, e⟩ := List.mem_map.mp hm
                  obtain ⟨⟨o, e1⟩, -⟩ := exRM y (inI y hy)
                  exact (sh3 _ _ (k02.all e1)).2 e
                · (try dsimp only)
                  obtain ⟨-, -, z⟩ := nodup_last2 (hrs ▸ V1.nd.nS)
                  rw [List.map_append, List.map_cons, List.map_nil] at z
                  rw [hbs, List.map_append, List.map_cons, List.map_nil, hSM]
                  exact z
                · intro x hx r hr
                  rcases List.mem_append.mp (show r ∈ rpre2 ++ [r2] from hbs ▸ hr) with hr2 | hr2
                  · exact (neNone (exRM r (inI r hr2)).1 (hFz _ (ap2.fR x (inY x hx)))).symm
                  · rw [List.mem_singleton.mp hr2]
                    obtain ⟨⟨o, e⟩, -⟩ := exYG x hx
                    exact (sh3 _ _ e).2
                · intro x hx r hr
                  rcases List.mem_append.mp (show r ∈ rpre2 ++ [r2] from hbs ▸ hr) with hr2 | hr2
                  · exact (neNone (exRM r (inI r hr2)).2 (hFz _ (ap2.fC x (inY x hx)))).symm
                  · rw [List.mem_singleton.mp hr2, hSM]
                    exact (neNone (exRM rq inQ).2 (hFz _ (ap2.fC x (inY x hx)))).symm
              exact hret h7 _ TT _ seat2 rest2 ps' n2 t12 t22 (keep_end hK5s F7) (fun o ho => ⟨oL5, F7.keep _ _ (by (first | exact imm_at (hoL) (g2L) _ ho | exact obw (hoL) ho (g2L) | (rw [hoL] at ho; cases ho; exact g2L)))⟩) (N9 _ (.head _)).1 (geL _ (by omega)) (N9 _ (.tail _ (.head _))).1 p22 (by omega) r22 (N9 _ (.tail _ (.tail _ (.head _)))).1
                (V3.codes (M := []) (fun _ hb => nomatch hb) k7 C3) hI' (fun b hb => by
                  unfold muts at hb
                  rcases List.mem_append.mp hb with hb | hb <;> rcases List.mem_append.mp hb with hb | hb <;> obtain ⟨z, hz, rfl⟩ := List.mem_map.mp hb
                  · exact .inr (hsz _ (ap2.fR z (inY z hz)))
                  · exact .inr (hsz _ (ap2.fC z (inY z hz)))
                  · rcases List.mem_append.mp (show z ∈ rpre2 ++ [r2] from hbs ▸ hz) with hr2 | hr2
                    · exact .inl (mutM (inI z hr2))
                    · rw [List.mem_singleton.mp hr2]
                      exact .inr gr2
                  · rcases List.mem_append.mp (show z ∈ rpre2 ++ [r2] from hbs ▸ hz) with hr2 | hr2
                    · exact .inl (mutS (inI z hr2))
                    · rw [List.mem_singleton.mp hr2, hSM]
                      exact .inl (mutS inQ))
            · have := hpts _ hwz
              rw [← lyr, hwzp] at this
              cases this
          · have N7 := newsCons eT (fr_none F3 fT) (fr_neL F3 fT) (newsCons eT2 (fr_none F3 fT2) (fr_neL F3 fT2) N6)
            clear N4 F3 N6 N4y
            walk_at "KS0"
            rename_i hy1 hy2 h6z F6z N6z
            have N6zT := fun q hq => (N6z q hq).1
            have H6z : ∀ b o, hG.get? b = some o → h6z.get? b = some o := lat2.at F6z N6z (by walk_at "SUBT")
            obtain ⟨mD, FD, hmD, dd1, dd2, dd3, dd4⟩ : ∃ mD, Fr g L' h6z mD ∧ (∀ x ∈ rare, mD x = none) ∧ mD "state" = some (.ref I.st) ∧ mD "model" = some (.ref I.ml) ∧ mD "refused" = some (.ref T2) ∧ mD "behind" = some (.none) := ⟨_, F6z, (by walk_at "RARE"), by walk_at "LOOK", by walk_at "LOOK", by walk_at "LOOK", by walk_at "LOOK"⟩
            have N4z : News g L' h6z [(a, listOf #[Value.ref XF.l, Value.int seat2 t12, Value.int rest2 t22] n2), (P, tabObj ps), (L' + 1 + 1, oT2), (L' + 1, oA2)] := newsSub N6z (four (by repeat (first | exact List.Mem.head _ | apply List.Mem.tail)) (by repeat (first | exact List.Mem.head _ | apply List.Mem.tail)) (by repeat (first | exact List.Mem.head _ | apply List.Mem.tail)) (by repeat (first | exact List.Mem.head _ | apply List.Mem.tail)))
            obtain ⟨tl3, hJ, hJe, N3z, -, off3P, -, -, lat3, i6F, -⟩ := reb6 FD N4z hmD rfl rfl (imm_cell dT2) (imm_cell dA2) hgL (immL _ hoL)
            have kGG : Keep [] hG hJ := fun b o _ e => hJe ▸ hideAll_get _ (H6z _ _ e) (fun hb => by rw [hGe, hideAll_none _ hb] at e; cases e)
            have k02z : Keep [] hF hJ := fun b o hb e => kGG b o hb (k02 b o hb e)
            have S3z : StFix w.params hJ st2 sd2 fl2 rl2 ys := S3.all fun b o _ e => kGG.all e
            have er4z := kGG.all er4
            have py3z : Paired (FrameAt w hJ) ys I.fs := pmono (fun _ _ q => q.all kGG) py3
            have C2z : CodesOk hJ lamQual lamPos ps := V2.codes (M := []) (fun _ hb => nomatch hb) kGG C2
            have immL4z : ∀ (hx : Heap), hx.Ns L' mD → ∀ o, hx.get? L' = some o → isImm o = false := fun hx ns => imm_ns ns hmD
            have eT2z : hJ.get? T2 = some (tupObj [Value.str "a pointer to a stack that goes" tw, Value.int at' tq]) := i6F _ _ (N6zT _ (.tail _ (.head _))) rfl
            clear lat2 F6z N6z hem2 hrm2
            apply Stop.in
            refine' mk_lam (cn := "_law_deed") (P := P) (c := 746) (ps := ps) (rest := (a, listOf #[Value.ref XF.l, Value.int seat2 t12, Value.int rest2 t22] n2) :: (L' + 1 + 1, oT2) :: (L' + 1, oA2) :: tl3) (tl := tl3) (hK := hJ) (ks := lamPos) FD ?lN T' (hC.keeps fun b o e => B'.stays b o e) rfl ?lo C2z ?lm lat3 ?ls ?lk rfl rfl ?_
            case lN =>
              refine newsSub N3z fun q hq => ?_
              revert q; refine' obt4 ?_ ?_ ?_ ?_ (fun q hq => ?_) <;> (repeat (first | exact List.Mem.head _ | assumption | apply List.Mem.tail))
            case lo =>
              intro q hq
              simp only [List.mem_cons] at hq
              rcases hq with rfl | rfl | rfl | hq
              · exact naP
              · exact Nat.ne_of_gt (Nat.lt_trans lP (Nat.lt_trans (Nat.lt_succ_self _) (Nat.lt_succ_self _)))
              · exact Nat.ne_of_gt (Nat.lt_trans lP (Nat.lt_succ_self _))
              · exact off3P q hq
            case lm => simp [lamPos]
            case ls => exact fun q hq => .tail _ (.tail _ (.tail _ hq))
            case lk => rw [hJe]; exact hideAll_none _ (by walk_at "SI")
            intro f c' pm ctv ps' news' h4 tk4 F4 N9' hsub hPm lf lP4 hrec C4
            have N5 : News g L' h4 ((f, _) :: (P, tabObj ps') :: (a, listOf #[Value.ref XF.l, Value.int seat2 t12, Value.int rest2 t22] n2) :: (L' + 1 + 1, oT2) :: (L' + 1, oA2) :: tl3) := newsSub N9' fun q hq => by
              rcases obmc hq with rfl | hq
              · exact .head _
              · rcases obmc hq with rfl | hq
                · exact .tail _ hPm
                · exact .tail _ (hsub q hq)
            clear N3z N9' hsub hPm
            have O5 := fun q hq => (N5 q hq).1
            have G5 := fun q hq => (N5 q hq).2.2
            walk_at "KS0"
            apply Stop.in
            have hJ4 : ∀ b o, hJ.get? b = some o → h4.get? b = some o := lat3.at F4 N5 (by walk_at "SUBT")
            have nZJ : ∀ {b : Addr} {o : Obj}, hJ.get? b = some o → b ∉ [L', a, P, L' + 1 + 1, L' + 1, L] := fun e hb => by rw [hJe, hideAll_none _ hb] at e; cases e
            obtain ⟨es1, ⟨ts0, ts1, ts2, ts3, es2⟩, nS, es3⟩ := id S3z
            have hfr1 : frs [env] = [L] := by simp [frs, hf]
            obtain ⟨ypre, yx, eys, pyp, pyx⟩ : ∃ ypre yx, ys = ypre ++ [yx] ∧ Paired (FrameAt w hJ) ypre (fpre2 ++ [fq]) ∧ FrameAt w hJ yx fx := by
              have z := py3z
              rw [hfs] at z
              exact psnoc_inv z
            obtain ⟨ypre2, yq, eyp, pyq, pyqx⟩ := psnoc_inv pyp
            subst eyp
            subst eys
            have lyp := pyq.length
            have lyr : ypre2.length = rpre2.length := lyp.trans lrq.symm
            obtain ⟨vq, nq, eyq, pvq⟩ := pyqx.regs
            have hvq : vq.length = 11 := pvq.length.trans hfq.1
            obtain ⟨nR1, nR2, nR3⟩ := nodup_last2 ap2.nR
            obtain ⟨-, -, nC3⟩ := nodup_last2 ap2.nC
            have gsd := gz _ fs2
            have gyR := gz _ (ap2.fR yq (by walk_at "SI"))
            refine' use_sph (heard_sp (f := f) (mn := [(sd2, dictOf [ent w.params "frames" ts0 (.ref fl2), ent w.params "next_number" ts1 (.int 9 ts3), ent w.params "rooms" ts2 (.ref rl2)] 3), (yq.R, listOf vq.toArray nq)]) (Post := (fun h' v h => ∃ h0, Keep [] h' h0 ∧ (v = .ref st2 ∧ (∀ z ∈ allW (leftFs fpre2 fq fx), z.pts (((ypre2.length + 2 : Nat) : Int) - 1) = false) ∧ ∃ D, h0.get? D = none ∧ StFix w.params h st2 sd2 D rl2 (ypre2 ++ [yq]) ∧ Paired (FrameAt w h) (ypre2 ++ [yq]) (leftFs fpre2 fq fx)))) (Err := (fun what q => q = at' ∧ what = "a pointer to a stack that goes" ∧ ∃ z ∈ allW (leftFs fpre2 fq fx), z.pts (((ypre2.length + 2 : Nat) : Int) - 1) = true)) (ei4 (O5 _ (.head _))) ?hfM ?hmn ?S ?hst) B' F4 X' T' Xb Tb ?uA ?uf ?uk ?uh ?ud ?uu ?uM ?_
            case uA => exact rfl
            case uf => exact rfl
            case uk => exact rfl
            case uh => exact rfl
            case ud => exact Nat.le_of_ble_eq_true rfl
            case uu => exact Nat.le_of_ble_eq_true rfl
            case hfM =>
              intro z
              have z2 := O5 _ (.head _)
              simp only [List.map_cons, List.map_nil, List.mem_cons, List.not_mem_nil, or_false] at z
              rcases z with z | z
              · rw [z, hJ4 _ _ es2] at z2
                have := congrArg Obj.data (Option.some.inj z2)
                cases this
              · rw [z, hJ4 _ _ eyq] at z2
                have := congrArg Obj.data (Option.some.inj z2)
                cases this
            case hmn =>
              intro q hq
              walk_at "FMq"
              · exact hJ4 _ _ es2
              · exact hJ4 _ _ eyq
            case S =>
              intro h' tk' k
              refine lam_leave (mn := [(sd2, _), (yq.R, _)]) (k.all (O5 _ (.head _))) (hrec.keeps fun _ _ => k.all) ⟨oA2, k.all (O5 _ (.tail _ (.tail _ (.tail _ (.tail _ (.head _)))))), dA2⟩ ⟨oT2, k.all (O5 _ (.tail _ (.tail _ (.tail _ (.head _))))), dT2⟩ (fun q hq => ?_) fun h'' tk'' k' => ?_
              · walk_at "FMq"
                · exact k.all (hJ4 _ _ es2)
                · exact k.all (hJ4 _ _ eyq)
              · have up : ∀ b o, hJ.get? b = some o → h''.get? b = some o := fun b o e => k'.all (k.all (hJ4 _ _ e))
                exact leave2_sp (N := 0) (S3z.all fun b o _ e => up b o e) (pmono (fun _ _ q => q.keep (KeepI.of up) (fun o e => up _ _ e) (fun o e => up _ _ e)) pyq) (pyqx.keep (KeepI.of up) (fun o e => up _ _ e) (fun o e => up _ _ e)) (pyx.keep (KeepI.of up) (fun o e => up _ _ e) (fun o e => up _ _ e)) nR1 nR2 (by omega) hcells hfw.1
            case hst =>
              intro h0 v h1 h2 k rq0
              obtain ⟨h00, k0, e1, e2, D, q1, s6, f7⟩ := rq0
              exact ⟨h00, k0, e1, e2, D, q1, s6.all (fun _ _ _ => k.all), pmono (fun _ _ q => q.all k) f7⟩
            case uM =>
              intro b hb
              simp only [List.map_cons, List.map_nil, List.mem_cons, List.not_mem_nil, or_false] at hb
              rcases hb with hb | hb
              · rw [hb]; exact ⟨gsd, fun z => nZJ es2 (by rw [show sd2 = L' from z]; simp)⟩
              · rw [hb]; exact ⟨gyR, fun z => nZJ eyq (by rw [show yq.R = L' from z]; simp)⟩
            intro v5 h5 tk5 g2 K5 up5 RB P5
            rw [hfr1] at K5 up5
            simp only [List.map_cons, List.map_nil, List.cons_append, List.nil_append] at K5
            have hMs : ∀ b ∈ [sd2, yq.R], ∃ o, hJ.get? b = some o ∧ ∀ vs, o.data ≠ .fields vs := fun b hb => by (simp only [List.mem_cons, List.not_mem_nil, or_false] at hb; rcases hb with hb | hb); (rw [hb]; exact ⟨_, es2, fun vs z => by cases z⟩); (rw [hb]; exact ⟨_, eyq, fun vs z => by cases z⟩)
            have hMF : ∀ b ∈ [sd2, yq.R], hF.get? b = none := fun b hb => by (simp only [List.mem_cons, List.not_mem_nil, or_false] at hb; rcases hb with hb | hb); (rw [hb]; exact hFz _ fs2); (rw [hb]; exact hFz _ (ap2.fR yq (by walk_at "SI")))
            obtain ⟨tl6, hH, oL5, hHe, g2L, N7, off6a, off6P, off6T, off6A, lat6, i5F, kJH, C3, exZ, frH0⟩ := heard6 (M := [sd2, yq.R]) hfr1 K5 RB F4 N5 hJe hJ4 hMs hgL hLnf hmD rfl (imm_cell dT2) (imm_cell dA2) (immL _ hoL) (fun _ z => by cases z) (fun _ z => by (first | exact obg z (dT2) | exact obg (dT2) z | (rw [dT2] at z; cases z))) (fun _ z => by (first | exact obg z (dA2) | exact obg (dA2) z | (rw [dA2] at z; cases z))) C4
            have F6 := RB.fr
            have hs4 : ∀ b, h4.get? b = none → s.heap.get? b = none := fun b e => by
              cases z : hB.get? b with
              | none => exact hsz b z
              | some o =>
                by_cases hb : b ∈ [L', a, P, L' + 1 + 1, L' + 1, L]
                · obtain ⟨o', e'⟩ := exZ b hb
                  rw [e] at e'; cases e'
                · have := hJ4 b o (kGG.all (hGe ▸ hideAll_get _ (K2.all z) hb))
                  (first | exact obg this (e) | exact obg (e) this | (rw [e] at this; cases this))
            have k0H : Keep [] hF hH := fun b o _ e => kJH _ _ (fun hb => by (first | exact obg e (hMF b hb) | exact obg (hMF b hb) e | (rw [hMF b hb] at e; cases e))) (k02z.all e)
            have V3 := V1.all k0H
            have B6 := RB.below
            have X6 := RB.inn
            have T6 := RB.top
            obtain ⟨T, rfl, gT, P5⟩ := P5
            have gTn := RB.none _ gT
            have hK5s : Keep (L :: a :: P :: muts I.xs I.rows) s.heap g2 := fun b o hb e => by
              rw [List.mem_cons, not_or] at hb
              rw [RB.out b (by rw [hfr1]; simpa using hb.1)]
              exact hkeep _ _ hb.2 e
            have hem3 := V3.em
            have hrm3 := V3.er2
            clear F4 N5 lat3 B' X' T' up5 RB K5
            have nzH : ∀ b ∈ [L', a, P, L' + 1 + 1, L' + 1, L], hH.get? b = none := fun b hb => by rw [hHe]; exact hideAll_none _ hb
            have nZH : ∀ {b : Addr} {o : Obj}, hH.get? b = some o → b ∉ [L, a, P] := fun e hb => by
              (first | exact obg e (nzH _ (ob36 hb)) | exact obg (nzH _ (ob36 hb)) e | (rw [nzH _ (ob36 hb)] at e; cases e))
            rcases P5 with ⟨u, tt, eT9, h0, k0, h01, k01, rfl, hno, D, y5, S5, f5⟩ | ⟨T9, what9, pl, tt, tw9, tp9, eT9, gT9, eT8, e19, er, -⟩
            · have := hno _ hwz
              rw [lyr, hwzp] at this
              cases this
            · cases er
              cases e19
              replace eT9 := i5F _ _ eT9 rfl
              replace eT8 := i5F _ _ eT8 rfl
              have eT2H : hH.get? T2 = some (tupObj [Value.str "a pointer to a stack that goes" tw, Value.int at' tq]) := kJH _ _ (fun hb => by
                walk_at "MOhb"
                rcases hb with hb | hb
                · rw [hb, es2] at eT2z; exact absurd (Value.type.inj (congrArg Obj.cls (Option.some.inj eT2z))) (by decide)
                · rw [hb, eyq] at eT2z; exact absurd (Value.type.inj (congrArg Obj.cls (Option.some.inj eT2z))) (by decide)) eT2z
              walk_at "KS0"
              apply Stop.in
              rename_i hx1 tkx D2 h8 F8 N8 lD2
              have H8 : ∀ b o, hH.get? b = some o → h8.get? b = some o := lat6.at F8 N8 (by walk_at "SUBT")
              refine eq_ref (reads_ref (H8 _ _ eT9) (H8 _ _ eT8)) (reads_ref (N8 _ (.head _)).1 (H8 _ _ eT2H)) (by decide +kernel) (Nat.le_of_ble_eq_true rfl) ?_
              walk_at "KS0"
              rename_i D7 h7 F7 N9 lD
              have k7 : Keep [] hH (hideAll h7 [L, a, P]) := fun b o _ e => hideAll_get _ (lat6.at F7 N9 (by walk_at "SUBT") _ _ e) (nZH e)
              have geL : ∀ D, @LT.lt Nat _ (L' + 1) D → s.heap.get? D = none := fun D h => hL' _ (Nat.le_of_lt (Nat.lt_trans (Nat.lt_succ_self _) h))
              exact hret h7 _ D7 I seat2 rest2 ps' n2 t12 t22 (keep_end hK5s F7) (fun o ho => ⟨oL5, F7.keep _ _ (by (first | exact imm_at (hoL) (g2L) _ ho | exact obw (hoL) ho (g2L) | (rw [hoL] at ho; cases ho; exact g2L)))⟩) (N9 _ (.head _)).1 (geL _ (by omega)) (N9 _ (.tail _ (.tail _ (.head _)))).1 p22 (by omega) r22 (N9 _ (.tail _ (.tail _ (.tail _ (.head _))))).1
                (V3.codes (M := []) (fun _ hb => nomatch hb) k7 C3) ((V3.all k7).mono (Nat.le_succ _)) (fun b hb => .inl hb)
 case qh0 => (try delta id oq1 oq2); exact fun h => h

end
end
section
theorem kg84 : True := trivial
theorem kgns : True := trivial
theorem kg85 : True := by
  k_with "Z85K_k_room" => (exact Nat.le_of_ble_eq_true rfl)
  k_with "Z85K_k_inst" => (case' zzhy => (refine' inst_base ?zzF ?zzh1 ?zzh2; (case zzF => k_asm); (case zzh1 => assumption); (case zzh2 => assumption)))
  k_with "Z85K_k_all" => (exact allLt_ne (by first | assumption | exact And.right (by assumption) | exact And.right (And.right (by assumption)) | exact And.right (And.right (And.right (by assumption)))))
  k_with "Z85K_k_all" => (assumption)
  k_with "Z85K_k_mem" => (assumption)
  k_with "Z85exec For Name Call cons nil" => (k_here; case' zzhy => ((rename Fr _ _ _ _ => zzlF'); (with_unfolding_all refine' For_invVF zzlF' ?zzk1 ?zzk2 ?_; (case zzk1 => exact rfl); (case zzk2 => exact rfl); k_whole)))
  k_with "Z85exec For Name Name cons nil" => (k_here; case' zzhy => ((rename Fr _ _ _ _ => zzlF'); (with_unfolding_all refine' For_invVF zzlF' ?zzk1 ?zzk2 ?_; (case zzk1 => exact rfl); (case zzk2 => exact rfl); k_whole)))
  k_with "Z85exec For Name Attribute cons nil" => (k_here; case' zzhy => ((rename Fr _ _ _ _ => zzlF'); (with_unfolding_all refine' For_invVF zzlF' ?zzk1 ?zzk2 ?_; (case zzk1 => exact rfl); (case zzk2 => exact rfl); k_whole)))
  k_with "Z85exec For Name Subscript cons nil" => (k_here; case' zzhy => ((rename Fr _ _ _ _ => zzlF'); (with_unfolding_all refine' For_invVF zzlF' ?zzk1 ?zzk2 ?_; (case zzk1 => exact rfl); (case zzk2 => exact rfl); k_whole)))
  k_with "Z85exec For Name BinOp cons nil" => (k_here; case' zzhy => ((rename Fr _ _ _ _ => zzlF'); (with_unfolding_all refine' For_invVF zzlF' ?zzk1 ?zzk2 ?_; (case zzk1 => exact rfl); (case zzk2 => exact rfl); k_whole)))
  k_with "Z85pyIter ref" => (refine Stop.out ?_)
  k_with "Z85call type:range" => (k_here; case' zzhy => (k_dflt (first | ((with_reducible show wpAny _ _ (call _ [Value.int _ _]) _ _ _); refine' range1_rows ?zzzF ?zzzN ?_; (case zzzF => k_asm); (case zzzN => k_asm); k_whole) | ((with_reducible show wpAny _ _ (call _ [Value.int _ _, Value.int _ _]) _ _ _); refine' range2_rows ?zzzF ?zzzN ?_; (case zzzF => k_asm); (case zzzN => k_asm); k_whole)); intro zzh' zztk' zzt1' zzu1' zzv1' zzR' zzF' zzN' zzk'))
  k_with "Z85call ref" => (k_here; (with_reducible show wpAny _ _ (call (Value.ref 700) _) _ _ _); case' zzhy => (k_dflt (refine' call_eq (f' := Value.ref 700) (vs' := [Value.ref _, Value.int _ _]) ?zzca ?zzcb ?_; (case zzca => exact rfl); (case zzcb => exact rfl)); refine Stop.out ?_))
  k_with "Z85K_k_room" => (exact Nat.le_of_ble_eq_true rfl)
  k_with "Z85K_k_inst" => (case' zzhy => (refine' inst_base ?zzF ?zzh1 ?zzh2; (case zzF => k_asm); (case zzh1 => assumption); (case zzh2 => assumption)))
  k_with "Z85K_k_all" => (exact allLt_ne (by first | assumption | exact And.right (by assumption) | exact And.right (And.right (by assumption)) | exact And.right (And.right (And.right (by assumption)))))
  k_with "Z85K_k_all" => (assumption)
  k_with "Z85K_k_mem" => (assumption)
  k_with "Z85call ref" => (k_here; (with_reducible show wpAny _ _ (call (Value.ref 700) _) _ _ _); case' zzhy => (k_dflt ( (refine' call_eq (f' := Value.ref 700) (vs' := [Value.ref _, Value.int _ _]) ?zzca ?zzcb ?_; (case zzca => exact rfl); (case zzcb => exact rfl)); (refine' use_sp (draw_sp ?zzp0 ?zzp1 ?zzp2 ?zzp3) ?zzuB ?zzuF ?zzuX ?zzuT ?zzuA ?zzuf ?zzuk ?zzuh ?zzud ?zzuu ?zzuM ?_; (case zzuA => exact rfl); (case zzuf => exact rfl); (case zzuk => exact rfl); (case zzuF => k_asm); (case zzuB => k_asm); (case zzuX => k_asm); (case zzuT => k_asm); (case zzp0 => exact pen_later (Later.at (by assumption) (by k_asm) (by k_asm) (by walk_at "SUBT")) (by k_asm) (by k_mem) (by assumption) (by assumption) (by assumption) (by assumption) (by omega) (by omega)); (case zzp1 => omega); (case zzp2 => omega); (case zzp3 => omega); (case zzuh => exact rfl); (case zzud => exact Nat.le_of_ble_eq_true rfl); (case zzuu => exact Nat.le_of_ble_eq_true rfl); (case zzuM => exact newsHid (by k_asm) (by k_mem)); k_whole); (intro zzv' zzh' zztk' zzK' zzF' zzP'); (obtain ⟨zzd', zzu', zzseat', zzrest', zze', zzd0, zzd1, zzsl, zzpe⟩ := zzP'); (obtain ⟨⟨zzn', zzt1', zzt2', zzpe⟩, zzhl2, zzhi2, zzhne2, zzfew2, zzp2, zzr2⟩ := zzpe); subst zze'; (refine' (fun zzN' => ?_) (newsUpd ?zzuN ?zzuU zzK' zzpe); (case zzuN => k_asm); (case zzuU => k_upd); clear zzhl2 zzhi2 zzhne2 zzfew2 zzpe zzK'; (try dsimp only at zzN')); (try dsimp only))))
  k_with "Z85SUBT" => (case' zzhy => (intro zzq hq; repeat (first | exact hq | apply List.Mem.tail)))
  k_with "Z85subscriptTail" => (k_here; (with_reducible show wpAny _ _ (subscriptTail _ _ (Value.ref _) (Value.str _ _)) _ _ _); case' zzhy => (k_dflt (refine' getitem_dictS ?zzzD ?zzzl ?_ ?zzzs; (case zzzD => exact Mine.Heap.DictOf.keepF (by assumption) (Later.at (by assumption) (by k_asm) (by k_asm) (by walk_at "SUBT"))); (case zzzl => rfl); (case zzzs => with_unfolding_all rfl); k_whole); (try dsimp only)))
  k_with "Z85subscriptTail" => (k_here; (with_reducible show wpAny _ _ (subscriptTail _ _ (Value.ref _) (Value.int _ _)) _ _ _); case' zzhy => (k_dflt (refine' item_tupleT ?zzt ?zza ?zzb ?zzc ?zzd ?_; (case zzt => exact tup_later (Later.at (by assumption) (by k_asm) (by k_asm) (by walk_at "SUBT")) (by assumption)); (case zza => decide); (case zzb => decide); (case zzc => rfl); (case zzd => rfl); k_whole)))
  k_with "Z85getMethod ref" => (k_here; (with_reducible show wpAny _ _ (getMethod (Value.ref _) (PySem.Str.ofString "values") _) _ _ _); case' zzhy => (k_dflt (refine' getMethod_values ?zzzD ?_; (case zzzD => exact dictOf_keep (by assumption) (fun _ => (Later.at (by assumption) (by k_asm) (by k_asm) (by walk_at "SUBT")) _ _)); k_whole)))
  k_with "Z85call builtin:dict.values" => (k_here; case' zzhy => (k_dflt (refine' call_values ?zzzF ?zzzN ?zzzl ?zzzD ?_; (case zzzF => k_asm); (case zzzN => k_asm); (case zzzl => assumption); (case zzzD => exact dictOf_keep (by assumption) (fun _ => (Later.at (by assumption) (by k_asm) (by k_asm) (by walk_at "SUBT")) _ _)); k_whole); intro zzD' zzh' zzF' zzN' zzl1'; k_lt zzl1'))
  k_with "Z85call type:list" => (k_here; (with_reducible show wpAny _ _ (call (Value.type _) [Value.ref _]) _ _ _); case' zzhy => (k_dflt (refine' list_values ?zzzF ?zzzN ?zzzh ?zzzv ?zzzD ?zzzz ?_; (case zzzF => k_asm); (case zzzN => k_asm); (case zzzh => exact rfl); (case zzzv => k_mem); (case zzzD => exact dictOf_keep (by assumption) (fun _ => (Later.at (by assumption) (by k_asm) (by k_asm) (by walk_at "SUBT")) _ _)); (case zzzz => omega); k_whole); intro zzD' zzc' zzh' zztk' zzF' zzN' zzl1'; k_lt zzl1'))
  k_with "Z85ISLIST" => (first | exact listOf_base (by k_asm) (by assumption) | exact list_news (by k_asm) (by k_mem) | exact list_later (Later.at (by assumption) (by k_asm) (by k_asm) (by walk_at "SUBT")) (by assumption))
  k_with "Z85call type:list" => (k_here; (with_reducible show wpAny _ _ (call (Value.type _) [Value.ref _]) _ _ _); case' zzhy => (k_dflt (refine' list_copySym ?zzzF ?zzzN ?zzzl ?zzzz ?_; (case zzzF => k_asm); (case zzzN => k_asm); (case zzzl => walk_at "ISLIST"); (case zzzz => omega); k_whole); intro zzD' zzc' zzh' zzF' zzN' zzl1'; k_lt zzl1'))
  k_with "Z85subscriptTail" => (k_here; (with_reducible show wpAny _ _ (subscriptTail _ (PySem.Expr.Slice _ _ none _) (Value.ref _) (Value.ref _)) _ _ _); case' zzhy => (k_dflt (refine' slice_tmpK ?zzzF ?zzzN ?zzzl ?zzzp ?zzzq ?zzze ?zzzz ?_ ?zzzs; (case zzzF => k_asm); (case zzzN => k_asm); (case zzzl => walk_at "ISLIST"); (case zzzp => kmk_part); (case zzzq => kmk_part); (case zzze => first | exact pick_upto (by omega) | exact pick_last | exact pick_from); (case zzzs => with_unfolding_all rfl); (case zzzz => first | omega | (simp only [List.length_map, List.length_append, List.length_cons, List.length_nil]; omega)); k_whole); intro zzD' zzh' zzF' zzN' zzl1'; k_lt zzl1'))
  k_with "Z85subscriptTail Name Slice ref ref" => (k_here; (with_reducible show wpAny _ _ (subscriptTail _ (PySem.Expr.Slice _ _ none _) (Value.ref _) (Value.ref _)) _ _ _); case' zzhy => (k_dflt (refine' slice_symK ?zzzF ?zzzN ?zzzl ?zzzp ?zzzq ?zzze ?zzzz ?_ ?zzzs ?zzzt; (case zzzF => k_asm); (case zzzN => k_asm); (case zzzl => walk_at "ISLIST"); (case zzzp => kmk_part); (case zzzq => kmk_part); (case zzze => first | exact pick_upto (by omega) | exact pick_last | exact pick_from); (case zzzs => with_unfolding_all rfl); (case zzzt => kmk_pure); (case zzzz => first | omega | (simp only [List.length_map, List.length_append, List.length_cons, List.length_nil]; omega)); k_whole); intro zzD' zzh' zzF' zzN' zzl1'; k_lt zzl1'))
  k_with "Z85ISLIST" => (first | exact listOf_base (by k_asm) (by assumption) | exact list_news (by k_asm) (by k_mem))
  k_with "Z85LOOK" => ((try dsimp only); first | assumption | exact if_pos rfl | (refine (if_neg (by decide)).trans ?_; walk_at "LOOK") | exact rfl)
  k_with "Z85eval Name" => (k_here; case' zzhy => (k_dflt (refine' nameX_L ?zzzF ?zzzv ?_ ?zzza ?zzzb ?zzzc; (case zzza => exact rfl); (case zzzb => exact rfl); (case zzzc => decide); (case zzzF => k_asm); (case zzzv => walk_at "LOOK"); k_whole)))
  k_with "Z85GrownAll" => (refine Stop.out ?_)
  k_with "Z85K_k_inst" => (case' zzhy => (refine' inst_lat_mix (Later.at (by assumption) (by k_asm) (by k_asm) (by walk_at "SUBT")) ?zzN ?zzh1 ?zzh2; (case zzN => k_asm); (case zzh1 => assumption); (case zzh2 => k_mem)))
  k_with "Z85binaryOp Mult ref int" => (k_here; (with_reducible show wpAny _ _ (binaryOp Operator.Mult (Value.ref _) (Value.int _ _)) _ _ _); case' zzhy => (k_dflt (refine' PySem.W.KMa.mul (vs := [_]) ?zzF ?zzN ?zzl ?zzlo ?zzhi ?zzz ?zze ?_; (case zzF => k_asm); (case zzN => k_asm); (case zzl => exact list_newsS (by k_asm) (by k_mem)); (case zzlo => decide); (case zzhi => decide); (case zzz => exact Nat.le_of_ble_eq_true rfl); (case zze => (simp only [Int.reduceToNat, List.replicate_succ, List.replicate_zero, List.flatten_cons, List.flatten_nil, List.cons_append, List.nil_append, List.append_nil]; first | done | exact rfl)); k_whole); intro zzD' zzh' zzF' zzN' zzl1; (try k_lt zzl1)))
  k_with "Z85binaryOp Add ref ref" => (k_here; (with_reducible show wpAny _ _ (binaryOp Operator.Add (Value.ref _) (Value.ref _)) _ _ _); case' zzhy => (k_dflt ((refine' add_symK ?zzk1 ?zzk2 ?zzk3 ?zzk4 ?zzk5 ?_; (case zzk1 => k_asm); (case zzk2 => k_asm); (case zzk3 => walk_at "ISLIST"); (case zzk4 => walk_at "ISLIST"); (case zzk5 => first | omega | (simp only [List.length_append, List.length_cons, List.length_nil, List.length_drop, List.length_map]; omega)); k_whole); intro zzD' zzh' zzF' zzN' zzl1; k_lt zzl1)))
  k_with "Z85exec For Name Call cons nil" => (k_here; case' zzhy => ((rename Fr _ _ _ _ => zzlF'); (with_unfolding_all refine' For_invVF zzlF' ?zzk1 ?zzk2 ?_; (case zzk1 => exact rfl); (case zzk2 => exact rfl); k_whole)))
  k_with "Z85exec For Name Name cons nil" => (k_here; case' zzhy => ((rename Fr _ _ _ _ => zzlF'); (with_unfolding_all refine' For_invVF zzlF' ?zzk1 ?zzk2 ?_; (case zzk1 => exact rfl); (case zzk2 => exact rfl); k_whole)))
  k_with "Z85exec For Name Attribute cons nil" => (k_here; case' zzhy => ((rename Fr _ _ _ _ => zzlF'); (with_unfolding_all refine' For_invVF zzlF' ?zzk1 ?zzk2 ?_; (case zzk1 => exact rfl); (case zzk2 => exact rfl); k_whole)))
  k_with "Z85exec For Name Subscript cons nil" => (k_here; case' zzhy => ((rename Fr _ _ _ _ => zzlF'); (with_unfolding_all refine' For_invVF zzlF' ?zzk1 ?zzk2 ?_; (case zzk1 => exact rfl); (case zzk2 => exact rfl); k_whole)))
  k_with "Z85exec For Name BinOp cons nil" => (k_here; case' zzhy => ((rename Fr _ _ _ _ => zzlF'); (with_unfolding_all refine' For_invVF zzlF' ?zzk1 ?zzk2 ?_; (case zzk1 => exact rfl); (case zzk2 => exact rfl); k_whole)))
  k_with "Z85pyIter ref" => (refine Stop.out ?_)
  k_with "Z85call type:range" => (k_here; case' zzhy => (k_dflt (first | ((with_reducible show wpAny _ _ (call _ [Value.int _ _]) _ _ _); refine' range1_rows ?zzzF ?zzzN ?_; (case zzzF => k_asm); (case zzzN => k_asm); k_whole) | ((with_reducible show wpAny _ _ (call _ [Value.int _ _, Value.int _ _]) _ _ _); refine' range2_rows ?zzzF ?zzzN ?_; (case zzzF => k_asm); (case zzzN => k_asm); k_whole)); intro zzh' zztk' zzt1' zzu1' zzv1' zzR' zzF' zzN' zzk'))
  k_with "Z85call ref" => (k_here; (with_reducible show wpAny _ _ (call (Value.ref 597) _) _ _ _); case' zzhy => (k_dflt (refine' call_eq (f' := Value.ref 597) (vs' := []) ?zzca ?zzcb ?_; (case zzca => exact rfl); (case zzcb => exact rfl)); refine Stop.out ?_))
  k_with "Z85call ref" => (k_here; (with_reducible show wpAny _ _ (call (Value.ref 747) _) _ _ _); case' zzhy => (k_dflt (refine' call_eq (f' := Value.ref 747) (vs' := [Value.ref _, Value.ref _, Value.ref _, Value.ref _]) ?zzca ?zzcb ?_; (case zzca => exact rfl); (case zzcb => exact rfl)); refine Stop.out ?_))
  k_with "Z85call ref" => (k_here; (with_reducible show wpAny _ _ (call (Value.ref 726) _) _ _ _); case' zzhy => (k_dflt (refine' call_eq (f' := Value.ref 726) (vs' := [Value.ref _, Value.ref _, Value.ref _]) ?zzca ?zzcb ?_; (case zzca => exact rfl); (case zzcb => exact rfl)); refine Stop.out ?_))
  trivial
theorem cw : PySem.Challenge.rw_ok0174_01.Holds := hd (by
 refine no_implicit_lambda% ((?qf0 : @Wit ?qp0 ?qe0 → ?qp0) (wit2 ?q00 ?qh0))
 case qf0 => exact fun _ => ?qe0
 case q00 =>
  k_go0
  rename_i w s₀ s₁ mg mb G Y fa o pm cd doc kV ho hcd hg X V T B TE TW xs hs hlay0 hLa hr1 hl2 q1 q2 sc vals q3 hL ra w1 r0 hI hrr hc1 hc2 hD h₁ X' T' K' F' N' l0
  clear hD ho hcd hL ra w1 r0 hrr V B TE TW X T G Y hs hlay0 hLa hr1 hl2 hT8 hT9
  obtain ⟨g, hgE⟩ : ∃ g, g = ghostOf s₁.heap [(746, 742)] := ⟨_, rfl⟩
  rw [← hgE] at X' T' K' F' N' lifted codeHd
  obtain ⟨L, hLe⟩ : ∃ L, L = s₁.heap.objs.size := ⟨_, rfl⟩
  rw [← hLe] at F' N' l0 ⊢
  have hC : CodeHd g 746 742 := codeHd
  obtain ⟨P, hP⟩ : ∃ P : Addr, P = 742 := ⟨_, rfl⟩
  rw [← hP] at N' l0 hC
  clear codeHd
  walk_at "KS0"
  apply Stop.in
  rename_i D1 ws1 hx4 hIa hCa hLa lD1 kl1 kl2 gx hI8 hL8 Dp hx3 tkp o1 pen hx2 l2 hx1 lr hx F1 N1 l1
  obtain ⟨ln, eln⟩ : ∃ ln, LCg.lst ys = listOf ys.toArray ln := ⟨_, rfl⟩
  rw [eln] at N1
  have N2 : News g L hx [(pen, listOf #[Value.ref Dp, Value.int 0 tkp, Value.int 0 (tkp + 1)] 0), (P, tabObj #[])] := newsSub N1 fun q hq => by
    walk_at "FMq" <;> walk_at "SI"
  have lDp : @LT.lt Nat _ Dp pen := l2.1
  have lPp : @LT.lt Nat _ P pen := l2.2.2
  have lPr : @LT.lt Nat _ P lr := l1.2.2.2
  have lpr : @LT.lt Nat _ pen lr := l1.1
  have nDp : @Ne Nat Dp P := fun z => o1.2 z.symm
  have nDL := (N1 _ (.tail _ (.tail _ (.head _)))).2.1
  have nrL := (N1 _ (.head _)).2.1
  obtain ⟨tl, N3, off, lat, -, -⟩ := later F1 N2
  have offa : ∀ p ∈ tl, p.1 ≠ pen := off _ (.head _)
  have offP : ∀ p ∈ tl, p.1 ≠ P := off _ (.tail _ (.head _))
  clear off
  simp only [List.cons_append, List.nil_append, List.map_cons, List.map_nil] at N3 lat
  obtain ⟨hF, hFe⟩ : ∃ hF, hF = hideAll hx [L, pen, P] := ⟨_, rfl⟩
  rw [← hFe] at lat
  have el : hF.get? Dp = some (listOf ys.toArray ln) := hFe ▸ hideAll_get _ (N1 _ (.tail _ (.tail _ (.head _)))).1 (by
    walk_at "NM"
    exact ⟨nDL, Nat.ne_of_lt lDp, nDp⟩)
  have elr : hF.get? lr = some (listOf [Value.int 4 tk, Value.int 6 (tk + 1)].toArray 0) := hFe ▸ hideAll_get _ (N1 _ (.head _)).1 (by
    walk_at "NM"
    exact ⟨nrL, Nat.ne_of_gt lpr, Nat.ne_of_gt lPr⟩)
  have fpen : ∀ b, hx.get? b = none → b ∉ [L, pen, P] := fun b e hb => by
    revert e; walk_at "FMb" <;> intro e
    · exact fr_neL F1 e rfl
    · first | exact obg e ((N2 _ (.head _)).1) | (rw [(N2 _ (.head _)).1] at e; cases e)
    · first | exact obg e ((N2 _ (.tail _ (.head _))).1) | (rw [(N2 _ (.tail _ (.head _))).1] at e; cases e)
  have hxs : xs.length ≤ 63 := by omega
  have few : (List.map (fun k' => k') (List.take 40 xs)).length ≤ 40 := by simp; omega
  have nDpen : Dp ≠ pen := Nat.ne_of_lt lDp
  clear N1 N2 o1 l1 l2
  walk_at "KS0"
  apply Stop.in
  rename_i tk0 d3 u3 seat1 rest1 d0 d1 sl1 p21 r21 n1 t11 t12 rm hx6 lrm h6 F6 N6
  obtain ⟨rvs, hrv, rns, hrns, fewr⟩ : ∃ rvs, rvs = List.take d3.toNat [Value.int 4 _, Value.int 6 _] ∧ ∃ rns, IntsAre rvs rns ∧ rns.length ≤ 2 := ⟨_, rfl, _, IntsAre.take (IntsAre.cons _ _ (IntsAre.cons _ _ .nil)) _, by simp; omega⟩
  rw [← hrv] at N6
  clear hrv elr
  have hrl : rvs.length = rns.length := ints_len hrns
  have el6 : h6.get? Dp = some (listOf ys.toArray ln) := lat.at F6 N6 (by walk_at "SUBT") _ _ el
  clear lat el
  refine' use_sp (first_sp) K' F6 X' T' ?uA ?uf ?uk ?uh ?ud ?uu (fun _ ha => nomatch ha) ?_
  case uA => exact rfl
  case uf => exact rfl
  case uk => exact rfl
  case uh => exact rfl
  case ud => exact Nat.le_of_ble_eq_true rfl
  case uu => exact Nat.le_of_ble_eq_true rfl
  intro v7 h7 tk7 K7 F7 P7
  obtain ⟨st, sd, fl, rl, x, t0, t1, t2, u, rfl, s1, s2, s3, s4, s5, e1, e2, ⟨nf, e3⟩, fx⟩ := P7
  have hrmp : @LT.lt Nat _ pen rm := lrm.1
  have hrmP : @LT.lt Nat _ P rm := lrm.2.1
  have frZ6 : ∀ b, h6.get? b = none → b ∉ [L, rm, pen, P] := fun b e hb => by
    revert e; walk_at "FMb" <;> intro e
    · exact fr_neL F6 e rfl
    · first | exact obg e ((N6 _ (.head _)).1) | (rw [(N6 _ (.head _)).1] at e; cases e)
    · first | exact obg e ((N6 _ (.tail _ (.head _))).1) | (rw [(N6 _ (.tail _ (.head _))).1] at e; cases e)
    · first | exact obg e ((N6 _ (.tail _ (.tail _ (.head _)))).1) | (rw [(N6 _ (.tail _ (.tail _ (.head _)))).1] at e; cases e)
  have N6s : News g L h6 [(rm, listOf rvs.toArray 0), (pen, listOf #[Value.ref Dp, Value.int seat1 t11, Value.int rest1 t12] n1), (P, tabObj #[])] := newsSub N6 fun q hq => by
    walk_at "FMq" <;> walk_at "SI"
  have N7s := newsCons e2 (fr_none F6 s2) (fr_neL F6 s2) (newsKeep (M := []) N6s (fun _ _ => List.not_mem_nil) K7)
  obtain ⟨tl7, N7, off7, lat7, -, mem7⟩ := later F7 N7s
  have off7b : ∀ p ∈ tl7, p.1 ≠ sd := off7 _ (.head _)
  have off7c : ∀ p ∈ tl7, p.1 ≠ rm := off7 _ (.tail _ (.head _))
  have off7d : ∀ p ∈ tl7, p.1 ≠ pen := off7 _ (.tail _ (.tail _ (.head _)))
  have off7e : ∀ p ∈ tl7, p.1 ≠ P := off7 _ (.tail _ (.tail _ (.tail _ (.head _))))
  clear off7
  simp only [List.cons_append, List.nil_append, List.map_cons, List.map_nil] at N7 lat7
  have hR7 := fx.regs.isL
  have hC7 := fx.cells.isD
  have i7F : KeepI h7 (hideAll h7 [L, sd, rm, pen, P]) := hideI fun b hb o e => by
    revert e; walk_at "FMb" <;> intro e
    · exact imm_ns F7.ns (by walk_at "RARZ") _ e
    · first | exact imm_at (e2) rfl _ e | (rw [e2] at e; cases e; rfl)
    · first | exact imm_at ((N7s _ (.tail _ (.head _))).1) rfl _ e | (rw [(N7s _ (.tail _ (.head _))).1] at e; cases e; rfl)
    · first | exact imm_at ((N7s _ (.tail _ (.tail _ (.head _)))).1) rfl _ e | (rw [(N7s _ (.tail _ (.tail _ (.head _)))).1] at e; cases e; rfl)
    · first | exact imm_at ((N7s _ (.tail _ (.tail _ (.tail _ (.head _))))).1) rfl _ e | (rw [(N7s _ (.tail _ (.tail _ (.tail _ (.head _))))).1] at e; cases e; rfl)
  have off7L : ∀ b, h6.get? b = none → b ≠ sd → b ∉ [L, sd, rm, pen, P] := fun b e z2 hb => by
    have := frZ6 b e
    simp only [List.mem_cons, List.not_mem_nil, or_false, not_or] at hb this
    rcases hb with h | h | h | h | h
    · exact this.1 h
    · exact z2 h
    · exact this.2.1 h
    · exact this.2.2.1 h
    · exact this.2.2.2 h
  obtain ⟨hF7, hF7e⟩ : ∃ hF7, hF7 = hideAll h7 [L, sd, rm, pen, P] := ⟨_, rfl⟩
  rw [← hF7e] at lat7 i7F
  have isdD : IsD h7 sd := ⟨_, e2, rfl⟩
  have el7 : hF7.get? Dp = some (listOf ys.toArray ln) := hF7e ▸ hideAll_get _ (K7.all el6) (by
    walk_at "NM"
    exact ⟨nDL, fun z => (by rw [z, s2] at el6; cases el6), Nat.ne_of_lt (Nat.lt_trans lDp hrmp), nDpen, nDp⟩)
  have est7 : hF7.get? st = some (instObj 581 sd) := hF7e ▸ hideAll_get _ e1 (off7L _ s1 (fun z => by rw [z, e2] at e1; cases e1))
  have efl7 : hF7.get? fl = some (listOf #[Value.ref x.fr] nf) := hF7e ▸ hideAll_get _ e3 (off7L _ s3 (ne_LD (isL e3) isdD))
  have fx7 : FrameAt w hF7 x ⟨firstWs, [], -1⟩ := fx.keep i7F (fun o e => hF7e ▸ hideAll_get _ e (off7L _ s4 (ne_LD fx.regs.isL isdD))) (fun o e => hF7e ▸ hideAll_get _ e (off7L _ s5 (fun z => by
    obtain ⟨_, kv, DD, _⟩ := fx.cells
    exact ne_sd e2 DD z.symm)))
  have nq1 : @Ne Nat rm sd := fun z => by have := (N6s _ (.head _)).1; rw [show rm = sd from z, s2] at this; cases this
  have nq2 : @Ne Nat pen sd := fun z => by have := (N6s _ (.tail _ (.head _))).1; rw [show pen = sd from z, s2] at this; cases this
  have nq3 : @Ne Nat P sd := fun z => by have := (N6s _ (.tail _ (.tail _ (.head _)))).1; rw [show P = sd from z, s2] at this; cases this
  have nq4 := nq1.symm
  have nq5 := nq2.symm
  have nq6 := nq3.symm
  have mR7 : ∃ o, (x.R, o) ∈ tl7 := by
    obtain ⟨vs, nn, e, _⟩ := fx.regs
    have z := off7L _ s4 (ne_LD fx.regs.isL isdD)
    simp only [List.mem_cons, List.not_mem_nil, or_false, not_or] at z
    exact ⟨_, mem7 (x.R, _) e (fr_none F6 s4) z.1 (by simp [z])⟩
  have mC7 : ∃ o, (x.C, o) ∈ tl7 := by
    obtain ⟨_, kv, DD, _⟩ := fx.cells
    obtain ⟨oC, esC, epC, eC, _⟩ := id DD
    have z := off7L _ s5 (fun z => ne_sd e2 DD z.symm)
    simp only [List.mem_cons, List.not_mem_nil, or_false, not_or] at z
    exact ⟨_, mem7 (x.C, _) eC (fr_none F6 s5) z.1 (by simp [z])⟩
  have gxR := fr_none F6 s4
  have gxC := fr_none F6 s5
  clear mem7
  have fR6 := s4
  have fC6 := s5
  clear N6 F6 N6s N7s e1 e3 isdD
  walk_at "KS0"
  rename_i h20 rl2 cr h19 lrl h18 tka h17 _ dr h16 odr lodr hdr0 ldr Dn1 h15 lDn1 Dcx h14 lDcx la3 h13 lla3 Dn2 h12 lDn2 la2 h11 lla2 D3a h10 lD3a D2a h9 lD2a Dst h8 lDst la1 h7x lla1 DR h6x lDR dS h5 oS loS hsS fsS hiS fiS ldS h4 orow hdrow ml h3 lml h2 lF9 N9a h1 tk1 F9a dn un seat2 rest2 dn0 dn1 sl2 p22 r22 n2 t21 t22 N9b h9z tk9 tr1 tr2 tr3 hR F9 N9 k9
  have N9s : News g L h9z [(pen, listOf #[Value.ref Dp, Value.int seat2 t21, Value.int rest2 t22] n2), (P, tabObj #[])] := newsSub N9 fun q hq => by
    walk_at "FMq" <;> walk_at "SI"
  obtain ⟨tl9, N10, off9, lat9, -, -⟩ := later F9 N9s
  have off9a : ∀ p ∈ tl9, p.1 ≠ pen := off9 _ (.head _)
  have off9P : ∀ p ∈ tl9, p.1 ≠ P := off9 _ (.tail _ (.head _))
  clear off9
  simp only [List.cons_append, List.nil_append, List.map_cons, List.map_nil] at N10 lat9
  obtain ⟨hF9, hF9e⟩ : ∃ hF9, hF9 = hideAll h9z [L, pen, P] := ⟨_, rfl⟩
  rw [← hF9e] at lat9
  have put : ∀ q : Addr × Obj, (h9z.get? q.1 = some q.2 ∧ q.1 ≠ L ∧ g.get? q.1 = none) → @LT.lt Nat _ pen q.1 → @LT.lt Nat _ P q.1 → hF9.get? q.1 = some q.2 := fun q h1 h2 h3 => hF9e ▸ hideAll_get _ h1.1 (by
    walk_at "NM"
    exact ⟨h1.2.1, Nat.ne_of_gt h2, Nat.ne_of_gt h3⟩)
  have eml := put _ (N9 _ (.head _)) (by walk_at "CJD") (by walk_at "CJD")
  have edS := put _ (N9 _ (.tail _ (.head _))) (by walk_at "CJD") (by walk_at "CJD")
  have eDR := put _ (N9 _ (.tail _ (.tail _ (.head _)))) (by walk_at "CJD") (by walk_at "CJD")
  have eDst := put _ (N9 _ (.tail _ (.tail _ (.tail _ (.tail _ (.head _)))))) (by walk_at "CJD") (by walk_at "CJD")
  have eDn2 := put _ (N9 _ (.tail _ (.tail _ (.tail _ (.tail _ (.tail _ (.tail _ (.tail _ (.tail _ (.head _)))))))))) (by walk_at "CJD") (by walk_at "CJD")
  have eDcx := put _ (N9 _ (.tail _ (.tail _ (.tail _ (.tail _ (.tail _ (.tail _ (.tail _ (.tail _ (.tail _ (.tail _ (.head _)))))))))))) (by walk_at "CJD") (by walk_at "CJD")
  have eDn1 := put _ (N9 _ (.tail _ (.tail _ (.tail _ (.tail _ (.tail _ (.tail _ (.tail _ (.tail _ (.tail _ (.tail _ (.tail _ (.head _))))))))))))) (by walk_at "CJD") (by walk_at "CJD")
  have edr := put _ (N9 _ (.tail _ (.tail _ (.tail _ (.tail _ (.tail _ (.tail _ (.tail _ (.tail _ (.tail _ (.tail _ (.tail _ (.tail _ (.head _)))))))))))))) (by walk_at "CJD") (by walk_at "CJD")
  have erl := put _ (N9 _ (.tail _ (.tail _ (.tail _ (.tail _ (.tail _ (.tail _ (.tail _ (.tail _ (.tail _ (.tail _ (.tail _ (.tail _ (.tail _ (.head _))))))))))))))) (by walk_at "CJD") (by walk_at "CJD")
  have erm := put _ (N9 _ (.tail _ (.tail _ (.tail _ (.tail _ (.tail _ (.tail _ (.tail _ (.tail _ (.tail _ (.tail _ (.tail _ (.tail _ (.tail _ (.tail _ (.tail _ (.head _))))))))))))))))) (by walk_at "CJD") (by walk_at "CJD")
  have esd := N9 _ (.tail _ (.tail _ (.tail _ (.tail _ (.tail _ (.tail _ (.tail _ (.tail _ (.tail _ (.tail _ (.tail _ (.tail _ (.tail _ (.tail _ (.head _)))))))))))))))
  replace esd := hF9e ▸ hideAll_get [L, pen, P] esd.1 (by
    walk_at "NM"
    exact ⟨esd.2.1, nq5, nq6⟩)
  have k79 : Keep [] hF7 hF9 := fun b o _ e => by
    rw [hF9e]
    refine hideAll_get _ (lat7.at F9 N9 (by walk_at "SUBT") _ _ e) fun hb => ?_
    rw [hF7e, hideAll_none _ (by
      simp only [List.mem_cons, List.not_mem_nil, or_false] at hb ⊢
      rcases hb with h | h | h <;> simp [h])] at e
    cases e
  have ltR : ∀ D, AllLt D tl7 → @LT.lt Nat _ x.R D := fun D h => by
    obtain ⟨o, hm⟩ := mR7
    exact allLt_mem h _ hm
  have ltC : ∀ D, AllLt D tl7 → @LT.lt Nat _ x.C D := fun D h => by
    obtain ⟨o, hm⟩ := mC7
    exact allLt_mem h _ hm
  have neR : x.R ≠ DR := Nat.ne_of_lt (ltR _ (by have z := lDR; repeat (first | exact z | replace z := z.2)))
  have neC : x.C ≠ dS := Nat.ne_of_lt (ltC _ (by have z := ldS; repeat (first | exact z | replace z := z.2)))
  have hz6 : IsWord hF9 (.ref Dn2) .none := ⟨Dn2, rfl, _, eDn2, .none _⟩
  have hrow : RowAt w hF9 ⟨dr, DR, dS⟩ ⟨firstWs, [], -1⟩ := by
    refine ⟨⟨_, Heap.dictOf_iff.mpr ⟨orow, edr, hdrow⟩⟩, ⟨_, 0, eDR, ?_⟩, loS, [], Heap.dictOf_iff.mpr ⟨oS, edS, hiS⟩, .nil⟩
    exact .cons ⟨Dn1, rfl, _, eDn1, .none _⟩ (.cons ⟨Dcx, rfl, _, eDcx, .ctx _⟩ (.cons hz6 (.cons hz6 (.cons hz6 (.cons hz6 (.cons hz6 (.cons hz6 (.cons hz6 (.cons hz6 (.cons ⟨Dst, rfl, _, eDst, .stack _ _ _ _ _⟩ .nil))))))))))
  obtain ⟨XF, hXF⟩ : ∃ XF : Fx, XF = { l := Dp, vals := ys, ns0 := List.map (fun k' => k') (List.take 40 xs), ln := ln, rm := rm, rs2 := rvs, nl := 0, ns := rns } := ⟨_, rfl⟩
  have V0 : Inv w hF9 XF { st := st, sd := sd, fl := fl, rl := rl2, ml := ml, xs := [x], rows := [⟨dr, DR, dS⟩], fs := [⟨firstWs, [], -1⟩], nm := 0, nr := cr, rs := rvs } 0 := by
    subst hXF
    refine ⟨⟨k79.all est7, ⟨_, _, _, _, esd⟩, ⟨_, k79.all efl7⟩⟩, .cons (fx7.all k79) .nil, .cons hrow .nil, eml, erl, erm, k79.all el7, hI8, hrns, hrns, few, fewr, ?_, by simp, by simp, by simp, by simp, by simp, by simp, ?_, ?_⟩
    · intro f hf
      rcases List.mem_singleton.mp hf with rfl
      exact ⟨rfl, Nat.le_refl _⟩
    · intro y hy r hr
      rw [List.mem_singleton.mp hy, List.mem_singleton.mp hr]
      exact neR
    · intro y hy r hr
      rw [List.mem_singleton.mp hy, List.mem_singleton.mp hr]
      exact neC
  have hg0 : ∀ b ∈ muts [x] [⟨dr, DR, dS⟩], g.get? b = none := fun b hb => by
    simp only [muts, List.map_cons, List.map_nil, List.cons_append, List.nil_append, List.mem_cons, List.not_mem_nil, or_false] at hb
    rcases oqs4 hb with rfl | rfl | rfl | rfl
    · exact gxR
    · exact gxC
    · exact (N9 _ (.tail _ (.tail _ (.head _)))).2.2
    · exact (N9 _ (.tail _ (.head _))).2.2
  have eXl : XF.l = Dp := by rw [hXF]
  have eXm : XF.rm = rm := by rw [hXF]
  have nz9 : ∀ b ∈ [L, pen, P], hF9.get? b = none := fun b hb => by rw [hF9e]; exact hideAll_none _ hb
  have hrm9 : ∀ y ∈ rare, (fun y => if y = Str.ofString "model" then some (Value.ref ml) else if y = Str.ofString "state" then some (Value.ref st) else if y = Str.ofString "rooms" then some (Value.ref rm) else if y = Str.ofString "pen" then some (Value.ref pen) else List.lookup y [(Str.ofString "script", Value.ref sc)].reverse) y = none := fun y hy => by
    simp only [rare, List.mem_cons, List.not_mem_nil, or_false] at hy
    rcases hy with rfl | rfl | rfl | rfl | rfl | rfl <;> rfl
  clear lat7 est7 efl7 fx7 el7 hF7e k79 put N9s eml edS eDR eDst eDn2 eDcx eDn1 edr erl erm esd hrow hz6
  apply Stop.in
  refine loop_rangeC (n := dn.toNat) (fun i m news => ∃ (I : IV) (ps : Array Value) (seat rest : Int) (t1 t2 : Tok) (n : Nat) (tl : List (Addr × Obj)) (hF : Heap), (∀ y ∈ rare, m y = none) ∧ m (Str.ofString "pen") = some (.ref pen) ∧ m (Str.ofString "state") = some (.ref I.st) ∧ m (Str.ofString "model") = some (.ref I.ml) ∧ m (Str.ofString "rooms") = some (.ref rm) ∧ news = (pen, listOf #[Value.ref Dp, Value.int seat t1, Value.int rest t2] n) :: (P, tabObj ps) :: tl ∧ Later g L tl hF ∧ (∀ b ∈ [L, pen, P], hF.get? b = none) ∧ Inv w hF XF I i ∧ CodesOk hF lamQual lamPos ps ∧ 0 ≤ seat ∧ seat ≤ 2 + 20 * (i : Int) ∧ 0 ≤ rest ∧ ∀ b ∈ muts I.xs I.rows, g.get? b = none) rfl hR ?small ?size F9 N10 ?h0 ?step ?done
  case small => exact small_n dn0 dn1
  case size => exact size_n dn0 dn1
  case h0 => exact (ei9 ⟨hrm9, rfl, rfl, rfl, rfl, rfl, lat9, nz9, V0, codes_none, p22, by omega, r22, hg0⟩)
  case step =>
    intro i tk0 m₁ news₁ It oI h₂ tk₂ hi rq0 hne hoI F2 N2
    obtain ⟨I, ps, seat, rest, t1, t2, n, tl, hF, r1, r2, r3, r4, r5, rfl, lat, nz, V, C, s0, s1, s2, hgm⟩ := rq0
    replace hoI : IterO oI := hoI
    clear V0 hg0 hR F9 N10 lat9 nz9 hrm9 hI8 ltR ltC
    have nIp : @Ne Nat It pen := fun z => hne _ (.head _) z.symm
    have nIP : @Ne Nat It P := fun z => hne _ (.tail _ (.head _)) z.symm
    obtain ⟨m2, F3, rr0, rr1, rr2, rr3, rr4⟩ : ∃ m2, Fr g L h₂ m2 ∧ (∀ y ∈ rare, m2 y = none) ∧ m2 (Str.ofString "pen") = some (.ref pen) ∧ m2 (Str.ofString "state") = some (.ref I.st) ∧ m2 (Str.ofString "model") = some (.ref I.ml) ∧ m2 (Str.ofString "rooms") = some (.ref rm) := ⟨_, F2, (by walk_at "RARE"), by walk_at "LOOK", by walk_at "LOOK", by walk_at "LOOK", by walk_at "LOOK"⟩
    clear F2 r1 r2 r3 r4 r5
    have hF2 : ∀ b o, hF.get? b = some o → h₂.get? b = some o := fun b o e => lat h₂ (newsSub N2 fun q hq => .tail _ (.tail _ (.tail _ hq))) F3.keep b o e
    have hI2 : h₂.get? It = some oI := (N2 _ (.head _)).1
    have nIm : ∀ b ∈ muts I.xs I.rows, b ≠ It := fun b hb => by
      rcases V.mutable b hb with ⟨o, e, c⟩ | ⟨o, e, c⟩
      · exact hoI.list hI2 ⟨o, hF2 _ _ e, c⟩
      · exact hoI.dict hI2 ⟨o, hF2 _ _ e, c⟩
    have exM : ∀ b ∈ muts I.xs I.rows, ∃ o, hF.get? b = some o := fun b hb => by
      rcases V.mutable b hb with ⟨o, e, _⟩ | ⟨o, e, _⟩ <;> exact ⟨o, e⟩
    have hi17 : i ≤ 17 := by omega
    have k2 : Keep [] hF (hideAll h₂ [L, pen, P]) := fun b o _ e => hideAll_get _ (hF2 _ _ e) fun hb => by (first | exact obg e (nz _ hb) | exact obg (nz _ hb) e | (rw [nz _ hb] at e; cases e))
    walk_at "KS0"
    apply Stop.in
    refine call_eq (f' := .ref 747) (vs' := [.ref pen, .ref I.st, .ref I.ml, .ref XF.rm]) rfl (by rw [eXm]) ?_
    refine wpAny_call (code_lev (A' := lev 4 [_]) (deed_sp (a := pen) (P := P) (L := L) (XF := XF) (I := I) (c := i) (n := n) (seat := seat) (rest := rest) (t1 := t1) (t2 := t2) (ps := ps) (m := m2) (A₀ := callerA) (base := g) (h₀ := g) ?ea s0 (by omega) s2 ?eP K' F3 X' T' X' T' rfl rfl rr0 ?hM hC (V.all k2) (V.codes (M := []) (fun _ hb => nomatch hb) k2 C) hi17 ?hret) rfl (Nat.le_of_ble_eq_true rfl) rfl rfl (Nat.le_of_ble_eq_true rfl))
    case ea => rw [eXl]; exact (N2 _ (.tail _ (.head _))).1
    case eP => exact (N2 _ (.tail _ (.tail _ (.head _)))).1
    case hM =>
      intro b hb
      rcases List.mem_cons.mp hb with hb | hb
      · rw [hb]; exact ⟨(N2 _ (.tail _ (.head _))).2.2, (N2 _ (.tail _ (.head _))).2.1⟩
      rcases List.mem_cons.mp hb with hb | hb
      · rw [hb]; exact ⟨(N2 _ (.tail _ (.tail _ (.head _)))).2.2, (N2 _ (.tail _ (.tail _ (.head _)))).2.1⟩
      exact ⟨hgm b hb, fun z => by obtain ⟨o, e⟩ := exM b hb; rw [z, nz L (.head _)] at e; cases e⟩
    case hret =>
    intro h3 tk3 Tt I' seat' rest' ps' n' t1' t2' hk hup eT fT ea' q0 q1 q2 eP' C' V' hm
    have F4 : Fr g L h3 m2 := by
      obtain ⟨o, es, ep, ho, r⟩ := F3.ns
      obtain ⟨sl, e⟩ := hup o ho
      refine ⟨⟨_, es, ep, e, r⟩, fun b o' e' => hk b o' (fun hb => ?_) (F3.keep b o' e'), F3.above⟩
      rcases List.mem_cons.mp hb with hb | hb
      · rw [hb, Heap.get?_none_of_le F3.above] at e'; cases e'
      rcases List.mem_cons.mp hb with hb | hb
      · rw [hb, (N2 _ (.tail _ (.head _))).2.2] at e'; cases e'
      rcases List.mem_cons.mp hb with hb | hb
      · rw [hb, (N2 _ (.tail _ (.tail _ (.head _)))).2.2] at e'; cases e'
      rw [hgm b hb] at e'; cases e'
    have hI3 : h3.get? It = some oI := hk _ _ (fun hb => by
      rcases List.mem_cons.mp hb with hb | hb
      · exact (N2 _ (.head _)).2.1 hb
      rcases List.mem_cons.mp hb with hb | hb
      · exact nIp hb
      rcases List.mem_cons.mp hb with hb | hb
      · exact nIP hb
      exact nIm _ hb rfl) hI2
    have hnIt : It ∉ [L, pen, P] := by
      walk_at "NM"
      exact ⟨(N2 _ (.head _)).2.1, nIp, nIP⟩
    have N4 : News g L h3 [(It, oI), (pen, listOf #[Value.ref Dp, Value.int seat' t1', Value.int rest' t2'] n'), (P, tabObj ps')] := fun q hq => by
      walk_at "FMq"
      · exact ⟨hI3, (N2 _ (.head _)).2⟩
      · exact ⟨eXl ▸ ea', (N2 _ (.tail _ (.head _))).2⟩
      · exact ⟨eP', (N2 _ (.tail _ (.tail _ (.head _)))).2⟩
    obtain ⟨tl3, N5, off3, lat3, -, -⟩ := later F4 N4
    have off3I : ∀ p ∈ tl3, p.1 ≠ It := off3 _ (.head _)
    simp only [List.cons_append, List.nil_append, List.map_cons, List.map_nil] at N5 lat3
    have keepU : ∀ b o, (hideAll (hideAll h3 [L, pen, P]) [It]).get? b = some o → (hideAll h3 [L, It, pen, P]).get? b = some o := fun b o e => by
      obtain ⟨e1, e2⟩ := hide_some e
      obtain ⟨e3, e4⟩ := hide_some e1
      refine hideAll_get _ e3 ?_
      simp only [List.mem_cons, List.not_mem_nil, or_false, not_or] at e2 e4 ⊢
      exact ⟨e4.1, e2, e4.2⟩
    have V3 := (V'.off (hideAll_get _ hI3 hnIt) hoI).all (Keep.of [] keepU)
    have C3 := (C'.off (hideAll_get _ hI3 hnIt) hoI).keeps fun c' x => x.keeps keepU
    have nz3 : ∀ b ∈ [L, pen, P], (hideAll h3 [L, It, pen, P]).get? b = none := fun b hb => hideAll_none _ (by
      walk_at "FMb" <;> walk_at "SI")
    obtain ⟨hF3, hF3e⟩ : ∃ hF3, hF3 = hideAll h3 [L, It, pen, P] := ⟨_, rfl⟩
    rw [← hF3e] at lat3 V3 C3 nz3
    have N6 := newsCons eT (fr_none F3 fT) (fr_neL F3 fT) N5
    have hg3 : ∀ b ∈ muts I'.xs I'.rows, g.get? b = none := fun b hb => by
      rcases hm b hb with h | h
      · exact hgm b h
      · exact fr_none F3 h
    clear V V' C C' N5 N4 N2 F3 lat hk hup hm k2 exM nIm hF2 eT ea' eP' off3 hF3e keepU nz hgm
    (try dsimp only)
    walk_at "KS0"
    apply Stop.in
    rename_i h6x h5x h4x F7 N7
    have V4 := V3.all (Keep.of [] (lat3.at F7 N7 (by walk_at "SUBT")))
    refine call_eq (f' := .ref 726) (vs' := [.ref I'.st, .ref I'.ml, .ref XF.rm]) rfl (by rw [eXm]) ?_
    refine' use_sp (stands_sp (N := I'.fs.length) V4.S V4.fr V4.ro rfl (by have := V4.n8; omega) (fun f hf => ⟨(V4.ws f hf).1, Nat.le_trans (V4.ws f hf).2 (by omega)⟩) V4.em V4.er V4.er2 V4.i1 V4.i2) K' F7 X' T' ?uA ?uf ?uk ?uh ?ud ?uu (fun _ ha => nomatch ha) ?_
    case uA => exact rfl
    case uf => exact rfl
    case uk => exact rfl
    case uh => exact rfl
    case ud => exact Nat.le_of_ble_eq_true rfl
    case uu => exact Nat.le_of_ble_eq_true rfl
    intro v8 h8 tk8 K8 F8 P8
    subst P8
    have N8 := newsKeep (M := []) N7 (fun _ _ => List.not_mem_nil) K8
    clear V4 N7 F7
    walk_at "KS0"
    refine (ei3 ⟨(pen, listOf #[Value.ref Dp, Value.int seat' t1', Value.int rest' t2'] n') :: (P, tabObj ps') :: tl3, rfl, by assumption, newsSub N8 fun q hq => .tail _ hq, ?_, I', ps', seat', rest', t1', t2', n', tl3, hF3, ?_, ?_, ?_, ?_, ?_, rfl, lat3, nz3, V3, C3, q0, by omega, q2, hg3⟩)
    · intro p hp
      rcases obmc hp with rfl | hp
      · exact nIp.symm
      rcases obmc hp with rfl | hp
      · exact nIP.symm
      exact off3I p hp
    · intro y hy
      have h0 := rr0 y hy
      simp only [rare, List.mem_cons, List.not_mem_nil, or_false] at hy
      rcases hy with rfl | rfl | rfl | rfl | rfl | rfl <;> walk_at "LOOK"
    · walk_at "LOOK"
    · walk_at "LOOK"
    · walk_at "LOOK"
    · walk_at "LOOK"
  case done =>
    intro h' tk' m' news' F' N' rq0
    obtain ⟨I, ps, seat, rest, t1, t2, n, tl, hF', q1, q2, q3, q4, q5, rfl, -⟩ := rq0
    clear V0 hg0 hR
    walk_at "KS0"
    · subst hP
      refine ⟨.inl ⟨_, _, [], rfl, fun _ => rfl, ReadsW.bool true, ?_, fun _ => ⟨List.nodup_nil, fun _ hm => nomatch hm⟩⟩, fun b o e => F'.keep b o (hgE ▸ e), rfl, hg⟩
      kernel_rfl
    · apply Stop.in
      subst hP
      exact ⟨GrownAt.of N' (.tail _ (.head _)), trivial⟩
 case qh0 => (try delta id oq1 oq2); exact fun h => h)
end
end Mine

set_option maxRecDepth 100000 in
theorem PySem.Challenge.cw_ok0174_01_holds : PySem.Challenge.rw_ok0174_01.Holds :=
  Mine.cw
