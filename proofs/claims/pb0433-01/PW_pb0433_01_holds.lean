import PyProof.Rows.All
import Wide.All
import OpenK.AllK
import Wide.FinOn
import KE.KNestM
import Lean
import PySem.Challenge.RW_pb0433_01
namespace Mine
theorem nnE {α : Type} {d : α} (h : none = some d) : False := nomatch h
theorem nsE {α : Type} {d : α} (h : some d = none) : False := nomatch h
theorem ftE (h : false = true) : False := nomatch h
theorem tfE (h : true = false) : False := nomatch h
end Mine
local macro_rules | `(tactic| rfl') => `(tactic| kernel_rfl)
local macro_rules | `(tactic| cases $h:ident) => `(tactic| first | with_reducible exact (Mine.nnE $h).elim | with_reducible exact (Mine.nsE $h).elim | exact (Mine.ftE $h).elim | exact (Mine.tfE $h).elim | (have e := Eq.symm $h; clear $h; subst e) | (have e := (Option.some.inj $h).symm; clear $h; subst e) | (have e := Prod.mk.inj (Option.some.inj $h); clear $h; have a := e.1.symm; have b := e.2.symm; clear e; subst a; subst b) | cases ($h))
section
open PySem PySem.W PyProof.Rows
set_option Elab.async false
set_option maxRecDepth 100000
set_option maxHeartbeats 0
namespace Mine
noncomputable section
noncomputable abbrev pw : Program := PySem.Challenge.pw_pb0433_01
noncomputable def bodyW : List Stmt := behindTheImports pw
noncomputable def envW : Env := { scope := pw.main.scope, locals := mainNs, globals := mainNs, cells := [], code := .ref 13, frame := some 14 }
noncomputable def p0 : Pos := ⟨0, 0, 0, 0⟩
noncomputable def pZ : Pos := ⟨789, 0, 808, 115⟩
noncomputable def codeW : Code := .body bodyW envW
noncomputable def B0 : List Frame := [topFrame p0]
noncomputable def annW : Option Value := some (.ref 6)
noncomputable def o11 : Obj := { cls := .type "tuple", data := .seq #[] }
noncomputable def o12 : Obj := { cls := .none, data := .fields #[] }
noncomputable def o13 : Obj := { cls := .type "code", data := .fields #[.str (Str.ofString "<module>") 182, .str (Str.ofString "<module>") 183, .str (Str.ofString "/claim/cut.py") 184, .int 1 0, .int 0 0, .int 0 0, .int 0 0, .int 0 0, .ref 11, .bool false, .int 181 0, .ref 12, .none, .none, .none, .none, .int 185 0, .int 1 0, .str (Str.ofString "/claim/cut.py") 186] }
noncomputable def o14 : Obj := { cls := .type "frame", data := .plain, slots := #[some (.ref 13), some (.ref 3), some (.ref 3), none, some (.str (Str.ofString "__main__") 164), none, some (.ref 0)] }
noncomputable def insAll : BT -> Nat -> List Obj -> BT
 | t, _, [] => t
 | t, n, o :: r => insAll (t.ins n o) (n + 1) r
noncomputable def T0 (P : Params) : BT := insAll .nil 0 [boot_o_0 P, boot_o_1 P, boot_o_2 P, boot_o_3 P, boot_o_4 P, boot_o_5 P, boot_o_6 P, boot_o_7 P, boot_o_8 P, boot_o_9 P, boot_o_10 P, o11, o12, o13, o14]
noncomputable def S0 (w : World) (os : OsState) : SharedT := ⟨T0 w.params, 15, {}, #[], {}, 187, os⟩
theorem pre (w : World) (os : OsState) : topGo treeTable pw w 11 annW 12 ⟨boot_heap w.params, Array.mk [], boot_drawn, boot_toks, os⟩ (topStub pw) = some ((S0 w os).abs, ⟨denote treeTable codeW, codeW, p0, B0⟩) := by
 rw [PySem.W.Fast.te15667345088766844465, PySem.W.Fast.te11892475500146522536, PySem.W.Fast.te14364793385576792824]
 rfl'
theorem block (w : World) (os : OsState) : segRun treeTable pw w 11 annW 1 1 (S0 w os).abs (blockOf bodyW envW codeW p0 B0) = some (.next, (S0 w os).abs, codeW, p0) := by
 rw [PySem.W.Fast.te14374325043358763698, PySem.W.Fast.te14364793385576792824]
 rfl'
theorem fin (w : World) (s : Shared) (p : Pos) : topRun treeTable pw w 11 annW 2 s ⟨doneF .next, codeW, p, B0⟩ = some s := by
 obtain ⟨h, g, d, t, os⟩ := s
 rfl'
noncomputable def thW : Thread := piecesOf bodyW envW codeW p0 B0
noncomputable def isN : Flow -> Bool
 | .next => true
 | _ => false
noncomputable def outB {α : Type} (looks : Shared -> α) (r : Option (Flow × SharedT × Code × Pos)) : Option (α × Code × Pos) := r.bind fun x => cond (isN x.1) (some (looks x.2.1.abs, x.2.2)) none
theorem outB_of {α : Type} {looks : Shared -> α} {r : Option (Flow × SharedT × Code × Pos)} {a : α} {c : Code} {p : Pos} (h : outB looks r = some (a, c, p)) : ∃ S, r = some (.next, S, c, p) ∧ looks S.abs = a := by
 obtain ⟨⟨f, S, q⟩, rfl, h⟩ := Option.bind_eq_some_iff.mp h
 cases f with
 | next =>
  cases h
  exact ⟨S, rfl, rfl⟩
 | _ => cases h
noncomputable def qv : Program := { pw with main := { pw.main with body := pw.main.body.drop 122 } }
noncomputable def looseV : List Str := pw.boundNames.filter (fun n => n != Str.ofString "law")
noncomputable def looks (w : World) (s : Shared) := ((staticsOk (importedModules pw.main.body) (boot_heap w.params) s.heap && namesBound pw s.heap && gensDone s && laidKept (boot_heap w.params) s.heap), openSeen qv looseV (importedModules pw.main.body) (fun _ => true) true s)
end
end Mine
end
section
open PySem PySem.W PyProof.Rows
set_option Elab.async false
set_option maxRecDepth 100000
set_option maxHeartbeats 0
set_option linter.all false
set_option genInjectivity false
set_option genSizeOf false
namespace Mine
noncomputable section
noncomputable def zX (i : Nat) : Stmt := (pw.main.body[i]?).getD (.Pass p0)
structure FDv where
 n : Str
 ps : Arguments
 b : List Stmt
 sc : Scope
 ln : Nat
noncomputable def fdv : Stmt -> FDv
 | .FunctionDef n ps b _ _ _ sc _ _ p => ⟨n, ps, b, sc, p.line⟩
 | _ => ⟨Str.ofString "", default, [], default, 0⟩
noncomputable def fnName (s : Stmt) : Str := (fdv s).n
noncomputable def fnParams (s : Stmt) : Arguments := (fdv s).ps
noncomputable def zG (s : Stmt) : List Stmt := (fdv s).b
noncomputable def zD (s : Stmt) : Scope := (fdv s).sc
noncomputable def clsSt (i : Nat) (n : String) : Stmt := match zX i with
 | .ClassDef _ _ _ b _ _ _ _ _ _ _ => (b.find? fun s => fnName s == Str.ofString n).getD (.Pass p0)
 | _ => .Pass p0
noncomputable def fnO (s : Stmt) (qual : String) (dV pm cdv : Value) : Obj := { cls := .type "function", data := .func { name := fnName s, qualname := Str.ofString qual, params := fnParams s, body := .stmts (zG s), scope := zD s, globals := 3, closure := [], defaults := dV, kwdefaults := .none, doc := .none, pyModule := pm, annotations := none, code := cdv, closureTuple := .none, builtins := 0 } }
noncomputable def sv (s : String) (t : Nat) : Value := .str (Str.ofString s) t
noncomputable def mo1 : Value := sv "octetmint.basics" 194
noncomputable def mo2 : Value := sv "octetmint.forms" 326
noncomputable def mo3 : Value := sv "octetmint.operands" 525
noncomputable def mo4 : Value := sv "octetmint.modrm" 839
noncomputable def mo5 : Value := sv "octetmint.prefixes" 1049
noncomputable def mo6 : Value := sv "octetmint.encoder" 1174
noncomputable def mo7 : Value := sv "octetmint.iset" 1468
noncomputable def mo8 : Value := sv "octetmint.registers" 1572
noncomputable def mo9 : Value := sv "law_pb0433_01" 1675
structure FnR where
 f : Nat
 st : Stmt
 qual : String
 dV : Value
 pm : Value
 ar : Nat
 t : Nat
 dt : Nat
 alt : Bool
noncomputable abbrev fA (f : Nat) (st : Stmt) (q : String) (pm : Value) (ar t dt : Nat) : FnR := ⟨f, st, q, .none, pm, ar, t, dt, true⟩
noncomputable abbrev fB (f : Nat) (st : Stmt) (q : String) (pm : Value) (ar t dt : Nat) : FnR := ⟨f, st, q, .none, pm, ar, t, dt, false⟩
noncomputable abbrev FnR.cdv (r : FnR) : Nat := r.f - 1
noncomputable def r36 : FnR := ⟨36, clsSt 2 "__init__", "MintError.__init__", (.ref 29), mo1, 2, 208, 7, false⟩
noncomputable def r122 : FnR := fB 122 (zX 11) "little" mo1 2 315 9
noncomputable def r199 : FnR := fB 199 (zX 26) "takes" mo2 3 409 7
noncomputable def r268 : FnR := fB 268 (zX 28) "matches" mo2 2 501 8
noncomputable def r296 : FnR := fB 296 (clsSt 34 "__init__") "Operand.__init__" mo3 2 543 6
noncomputable def r681 : FnR := fB 681 (zX 63) "memory_shapes" mo4 1 1030 6
noncomputable def r688 : FnR := fB 688 (zX 64) "lay" mo4 3 1038 9
noncomputable def r829 : FnR := fB 829 (clsSt 80 "length") "Encoding.length" mo6 1 1251 5
noncomputable def r855 : FnR := fB 855 (zX 82) "shapes_of" mo6 1 1287 5
noncomputable def r862 : FnR := fB 862 (zX 83) "shapes_for" mo6 2 1294 6
noncomputable def r904 : FnR := fB 904 (zX 89) "modrm_part" mo6 5 1351 12
noncomputable def r909 : FnR := fA 909 (zX 90) "need_shape" mo6 2 1365 4
noncomputable def r924 : FnR := ⟨924, zX 92, "encode", (.ref 917), mo6, 3, 1379, 22, false⟩
noncomputable def r931 : FnR := fB 931 (zX 93) "sizes_of_memory" mo6 2 1403 11
noncomputable def r936 : FnR := fA 936 (zX 94) "forms_for" mo6 2 1416 4
noncomputable def r943 : FnR := fB 943 (zX 95) "tried" mo6 3 1422 8
noncomputable def r950 : FnR := fB 950 (zX 96) "need_one" mo6 2 1432 6
noncomputable def r955 : FnR := fA 955 (zX 97) "encodings" mo6 2 1440 4
noncomputable def r962 : FnR := fB 962 (zX 98) "least" mo6 2 1446 12
noncomputable def r969 : FnR := fB 969 (zX 99) "instruction_length" mo6 2 1460 6
noncomputable def r974 : FnR := fA 974 (zX 101) "codes_of" mo7 1 1470 4
noncomputable def r988 : FnR := fB 988 (clsSt 102 "__init__") "InstructionSet.__init__" mo7 2 1488 9
noncomputable def r1000 : FnR := fB 1000 (clsSt 102 "find") "InstructionSet.find" mo7 2 1505 6
noncomputable def r1140 : FnR := fB 1140 (zX 114) "_law_chosen" mo9 1 1684 10
noncomputable def r1147 : FnR := fB 1147 (zX 115) "_law_worth" mo9 1 1696 6
noncomputable def r1152 : FnR := fA 1152 (zX 116) "_law_bears" mo9 2 1704 4
noncomputable def r1159 : FnR := fB 1159 (zX 117) "_law_register_rows" mo9 3 1710 13
noncomputable def r1164 : FnR := fA 1164 (zX 118) "_law_shape_lengths" mo9 2 1725 4
noncomputable def r1171 : FnR := fB 1171 (zX 119) "_law_memory_rows" mo9 4 1731 14
noncomputable def r1178 : FnR := fB 1178 (zX 120) "_law_heard" mo9 2 1747 6
noncomputable def r1185 : FnR := fB 1185 (zX 121) "_law_least" mo9 2 1755 7
noncomputable def fnLL : List (List FnR) := [[r36, fB 80 (zX 5) "mask" mo1 1 266 5, fB 87 (zX 6) "wrap" mo1 2 273 6, fB 94 (zX 7) "signed" mo1 2 281 7, fB 101 (zX 8) "fits_signed" mo1 2 290 7, fB 108 (zX 9) "fits_unsigned" mo1 2 299 6, fB 115 (zX 10) "fits_either" mo1 2 307 6, r122],
 [fB 129 (zX 16) "is_fixed" mo2 1 334 5, fB 136 (zX 17) "is_immediate" mo2 1 341 5, fB 143 (zX 18) "is_relative" mo2 1 348 5, fB 150 (zX 19) "takes_memory" mo2 1 355 5, fB 157 (zX 20) "kind_size" mo2 1 362 5, fB 164 (zX 21) "kind_width" mo2 1 369 5, fB 171 (zX 22) "slot_of" mo2 1 376 5, fB 178 (zX 23) "takes_register" mo2 2 383 6, fB 185 (zX 24) "takes_worth" mo2 3 391 8, r199, ⟨212, clsSt 27 "__init__", "Form.__init__", (.ref 207), mo2, 7, 435, 4, true⟩, fB 226 (clsSt 27 "slots") "Form.slots" mo2 1 448 5, fB 240 (clsSt 27 "has_plus") "Form.has_plus" mo2 1 462 5],
 [r268, r296, fB 338 (clsSt 35 "__init__") "Reg.__init__" mo3 2 593 6, ⟨372, clsSt 36 "__init__", "Imm.__init__", (.ref 365), mo3, 2, 633, 7, false⟩],
 [⟨406, clsSt 37 "__init__", "Mem.__init__", (.ref 399), mo3, 6, 677, 12, false⟩, fB 432 (clsSt 37 "is_rip") "Mem.is_rip" mo3 1 713 5, ⟨459, clsSt 38 "__init__", "Instruction.__init__", (.ref 452), mo3, 3, 751, 8, false⟩, fB 506 (zX 39) "is_address_register" mo3 1 811 5],
 [fB 513 (zX 40) "check_base" mo3 1 818 5, fB 520 (zX 41) "check_index" mo3 1 825 5, fB 527 (zX 42) "check_mem" mo3 1 832 5, fB 534 (zX 48) "pack_three" mo4 3 849 7, fB 541 (zX 49) "unpack_three" mo4 1 858 5, fB 548 (zX 50) "pack_modrm" mo4 3 865 7, fB 555 (zX 51) "pack_sib" mo4 3 874 7, fB 562 (zX 52) "unpack_sib" mo4 1 883 5, fB 569 (zX 53) "shift_of" mo4 1 890 6, fB 583 (clsSt 54 "__init__") "Shape.__init__" mo4 7 910 11, fB 590 (clsSt 54 "told") "Shape.told" mo4 1 923 5, fB 611 (clsSt 54 "length") "Shape.length" mo4 1 944 5, fB 625 (zX 55) "register_shape" mo4 1 965 5, fB 632 (zX 56) "mod_of" mo4 1 972 5, fB 639 (zX 57) "widths_for" mo4 1 979 6],
 [fB 646 (zX 58) "sib_for" mo4 1 987 6, fB 653 (zX 59) "needs_sib" mo4 1 995 5, fB 660 (zX 60) "extended_bit" mo4 1 1002 5, fB 667 (zX 61) "based_shapes" mo4 1 1009 9, fB 674 (zX 62) "has_needless_sib" mo4 1 1020 8, r681, r688, fB 695 (zX 73) "rex_octet" mo5 4 1065 9, fB 709 (zX 75) "is_rex" mo5 1 1083 5, ⟨731, clsSt 77 "__init__", "Prefixes.__init__", (.ref 724), mo5, 6, 1113, 10, false⟩, fB 766 (clsSt 77 "octets") "Prefixes.octets" mo5 1 1153 6],
 [fB 822 (clsSt 80 "__init__") "Encoding.__init__" mo6 5 1240 9, r829, fB 848 (zX 81) "operand_in" mo6 3 1276 9, r855, r862, fB 869 (zX 84) "is_extended" mo6 1 1302 5, fB 876 (zX 85) "rex_for" mo6 5 1309 16, fB 883 (zX 86) "repeat_for" mo6 2 1327 6, fB 890 (zX 87) "locks" mo6 2 1335 7],
 [r904, r909, fB 916 (zX 91) "need_no_nop" mo6 2 1371 6, r924, r931, r936, r943, r950, r955, r962, r969, r974, r988, r1000],
 [fB 1063 (clsSt 108 "__init__") "Register.__init__" mo8 5 1594 9, fB 1070 (clsSt 108 "code") "Register.code" mo8 1 1605 5, fB 1077 (clsSt 108 "is_extended") "Register.is_extended" mo8 1 1612 5, fB 1091 (clsSt 108 "needs_rex") "Register.needs_rex" mo8 1 1626 5, fB 1098 (clsSt 108 "told") "Register.told" mo8 1 1633 5, fB 1112 (zX 109) "early_names" mo8 1 1652 5, fB 1119 (zX 110) "late_ending" mo8 1 1659 5, fB 1126 (zX 111) "gpr" mo8 2 1666 7, fB 1133 (zX 113) "_law_pool" mo9 0 1677 5, r1140, r1147],
 [r1152, r1159, r1164, r1171, r1178, r1185]]
noncomputable def zAk : List FnR := fnLL.flatten
noncomputable def cutS (t : Nat) : Value := sv "/claim/cut.py" t
noncomputable def FnR.code (r : FnR) : Obj :=
 let c := r.f
 let l : List Value := [.str (fnName r.st) r.t, sv r.qual (r.t + 1), cutS (r.t + 2), .int (fdv r.st).ln 0, .int (fnParams r.st).args.length 0, .int 0 0, .int 0 0, .int 3 0]
 let m : List Value := bif r.alt then [.ref (c - 4), .bool true, .int 181 0, .ref (c - 3), .none, .none, .none, .ref (c - 2)] else [.ref (c - 6), .bool true, .int 181 0, .ref (c - 5), .none, .ref (c - 4), .ref (c - 3), .ref (c - 2)]
 { cls := .type "code", data := .fields (l ++ m ++ [.int (r.t + r.dt - 1) 0, .int (fdv r.st).ln 0, cutS (r.t + r.dt)]).toArray }
noncomputable def FnR.ob (r : FnR) : Obj := fnO r.st r.qual r.dV r.pm (.ref r.cdv)
noncomputable def kf : List FnR -> Frag
 | [] => []
 | r :: t => (r.cdv, r.code) :: (r.f, r.ob) :: kf t
structure KE where
 k : String
 t : Nat
 v : Value
noncomputable abbrev kr (k : String) (t a : Nat) : KE := ⟨k, t, .ref a⟩
noncomputable def dO (P : Params) (c : Value) (n : Nat) (l : List KE) : Obj := { cls := c, data := .dict (l.map fun e => ⟨PyData.keyHash P (Str.ofString e.k), .str (Str.ofString e.k) e.t, e.v⟩).toArray n }
noncomputable def tO (l : List Value) : Obj := { cls := .type "tuple", data := .seq l.toArray 0 }
noncomputable def cO (n : String) (a : Nat) (bs m : List Value) (sub : List Value) (sl : List (Option Value)) : Obj :=
 { cls := .type "type", data := .cls { name := Str.ofString n, bases := bs, mro := .ref a :: m, ns := a - 1, qualname := Str.ofString n, hasDict := true, subclasses := sub, abstract := false, hasDel := false }, slots := sl.toArray }
noncomputable def ob2 (P : Params) : Obj := dO P .none 2 [⟨"type.__subclasses__.Exception.0", 230, (.int 46 0)⟩, ⟨"type.__subclasses__.Exception.n", 231, (.int 1 0)⟩]
noncomputable def gl3 : List KE := [⟨"__name__", 165, mo9⟩, ⟨"__doc__", 166, .none⟩, ⟨"__package__", 167, .none⟩, ⟨"__loader__", 168, (.builtin "__main__.__loader__#opaque")⟩, ⟨"__spec__", 169, .none⟩, kr "__annotations__" 170 6, kr "__builtins__" 171 4, ⟨"__file__", 173, (sv "/claim/cut.py" 172)⟩, ⟨"__cached__", 174, .none⟩, kr "_wall" 193 21, kr "MintError" 233 46, kr "OperandError" 249 59, kr "EncodeError" 265 71, kr "mask" 272 80, kr "wrap" 280 87, kr "signed" 289 94, kr "fits_signed" 298 101, kr "fits_unsigned" 306 108, kr "fits_either" 314 115, kr "little" 325 122, ⟨"LOCKED", 329, (sv "add adc and or sbb sub xor inc dec neg not xchg xadd cmpxchg bts btr btc" 328)⟩, ⟨"MOVED", 331, (sv "movsb movsw movsd movsq stosb stosw stosd stosq lodsb lodsw lodsd lodsq" 330)⟩, ⟨"COMPARED", 333, (sv "cmpsb cmpsw cmpsd cmpsq scasb scasw scasd scasq" 332)⟩, kr "is_fixed" 340 129, kr "is_immediate" 347 136, kr "is_relative" 354 143, kr "takes_memory" 361 150, kr "kind_size" 368 157, kr "kind_width" 375 164, kr "slot_of" 382 171, kr "takes_register" 390 178, kr "takes_worth" 400 185, kr "takes_distance" 408 192, kr "takes" 417 199, kr "Form" 500 257, kr "matches" 510 268, kr "can_lock" 517 275, kr "repeats" 524 282, ⟨"MEMORY_SIZES", 528, (sv "0 8 16 32 64 128" 527)⟩, ⟨"SCALES", 530, (sv "1 2 4 8" 529)⟩, kr "Operand" 580 320, kr "Reg" 619 355, kr "Imm" 661 389, kr "Mem" 737 442, kr "Instruction" 810 495, kr "is_address_register" 817 506, kr "check_base" 824 513, kr "check_index" 831 520, kr "check_mem" 838 527, ⟨"NO_INDEX", 842, (.int 4 841)⟩, ⟨"NO_BASE", 844, (.int 5 843)⟩, ⟨"WITH_SIB", 846, (.int 4 845)⟩, ⟨"FROM_RIP", 848, (.int 5 847)⟩, kr "pack_three" 857 534, kr "unpack_three" 864 541, kr "pack_modrm" 873 548, kr "pack_sib" 882 555, kr "unpack_sib" 889 562, kr "shift_of" 897 569, kr "Shape" 964 614, kr "register_shape" 971 625, kr "mod_of" 978 632, kr "widths_for" 986 639, kr "sib_for" 994 646, kr "needs_sib" 1001 653, kr "extended_bit" 1008 660, kr "based_shapes" 1019 667, kr "has_needless_sib" 1029 674, kr "memory_shapes" 1037 681, kr "lay" 1048 688, ⟨"FS", 1052, (.int 100 1051)⟩, ⟨"GS", 1054, (.int 101 1053)⟩, ⟨"DATA", 1056, (.int 102 1055)⟩, ⟨"REPNE", 1058, (.int 242 1057)⟩, ⟨"REP", 1060, (.int 243 1059)⟩, ⟨"LOCK", 1062, (.int 240 1061)⟩, ⟨"REX", 1064, (.int 64 1063)⟩, kr "rex_octet" 1075 695, kr "rex_bits" 1082 702, kr "is_rex" 1089 709, kr "segment_octet" 1096 716, kr "Prefixes" 1173 769, kr "Fixup" 1227 804, kr "Encoding" 1275 837, kr "operand_in" 1286 848, kr "shapes_of" 1293 855, kr "shapes_for" 1301 862, kr "is_extended" 1308 869, kr "rex_for" 1326 876, kr "repeat_for" 1334 883, kr "locks" 1343 890, kr "way_of" 1350 897, kr "modrm_part" 1364 904, kr "need_shape" 1370 909, kr "need_no_nop" 1378 916, kr "encode" 1402 924, kr "sizes_of_memory" 1415 931, kr "forms_for" 1421 936, kr "tried" 1431 943, kr "need_one" 1439 950, kr "encodings" 1445 955, kr "least" 1459 962, kr "instruction_length" 1467 969, kr "codes_of" 1475 974, kr "InstructionSet" 1571 1045, ⟨"NAMES_8", 1575, (sv "al cl dl bl spl bpl sil dil" 1574)⟩, ⟨"NAMES_16", 1577, (sv "ax cx dx bx sp bp si di" 1576)⟩, ⟨"NAMES_32", 1579, (sv "eax ecx edx ebx esp ebp esi edi" 1578)⟩, ⟨"NAMES_64", 1581, (sv "rax rcx rdx rbx rsp rbp rsi rdi" 1580)⟩, kr "Register" 1651 1101, kr "early_names" 1658 1112, kr "late_ending" 1665 1119, kr "gpr" 1674 1126, kr "_law_pool" 1683 1133, kr "_law_chosen" 1695 1140, kr "_law_worth" 1703 1147, kr "_law_bears" 1709 1152, kr "_law_register_rows" 1724 1159, kr "_law_shape_lengths" 1730 1164, kr "_law_memory_rows" 1746 1171, kr "_law_heard" 1754 1178, kr "_law_least" 1763 1185, kr "law" 1769 1190]
noncomputable def ob3 (P : Params) : Obj := dO P (.type "dict") 123 gl3
noncomputable def ob29 : Obj := tO [.none]
noncomputable def ob45 (P : Params) : Obj := dO P (.type "dict") 3 [⟨"__module__", 203, mo1⟩, ⟨"__firstlineno__", 207, (.int 5 206)⟩, kr "__init__" 216 36, kr "told" 223 43, kr "__static_attributes__" 226 44, kr "__weakref__" 228 47, ⟨"__doc__", 229, .none⟩]
noncomputable def ob46 : Obj := cO "MintError" 46 [(.type "Exception")] [(.type "Exception"), (.type "BaseException"), (.type "object")] [(.ref 59), (.ref 71)] [some (.ref 22), none, some (sv "MintError" 196), some (sv "MintError" 204), some (.builtin "Exception.__new__"), some (.bool true)]
noncomputable def ob58 (P : Params) : Obj := dO P (.type "dict") 2 [⟨"__module__", 241, mo1⟩, ⟨"__firstlineno__", 245, (.int 16 244)⟩, kr "__static_attributes__" 246 57, ⟨"__doc__", 247, .none⟩]
noncomputable def ob59 : Obj := cO "OperandError" 59 [(.ref 46)] [(.ref 46), (.type "Exception"), (.type "BaseException"), (.type "object")] [] [some (.ref 50), none, some (sv "OperandError" 234), some (sv "OperandError" 242), some (.builtin "Exception.__new__"), some (.bool true)]
noncomputable def ob207 : Obj := tO [(.int 0 430), (.int (-1) 432), (.int 0 433), (.int 0 434), (.bool false)]
noncomputable def ob256 (P : Params) : Obj := dO P (.type "dict") 4 [⟨"__module__", 425, mo2⟩, ⟨"__firstlineno__", 429, (.int 116 428)⟩, kr "__init__" 440 212, kr "told" 447 219, kr "slots" 454 226, kr "has_modrm" 461 233, kr "has_plus" 468 240, kr "memory_size" 475 247, kr "needs_memory" 482 254, kr "__static_attributes__" 493 255, kr "__dict__" 495 258, kr "__weakref__" 497 259, ⟨"__doc__", 498, .none⟩]
noncomputable def ob257 : Obj := cO "Form" 257 [(.type "object")] [(.type "object")] [] [none, none, some (sv "Form" 418), some (sv "Form" 426), some (.builtin "object.__new__"), some (.bool true)]
noncomputable def ob319 (P : Params) : Obj := dO P (.type "dict") 4 [⟨"__module__", 538, mo3⟩, ⟨"__firstlineno__", 542, (.int 163 541)⟩, kr "__init__" 550 296, kr "told" 557 303, kr "symbol" 564 310, kr "registers" 571 317, kr "__static_attributes__" 573 318, kr "__dict__" 575 321, kr "__weakref__" 577 322, ⟨"__doc__", 578, .none⟩]
noncomputable def ob320 : Obj := cO "Operand" 320 [(.type "object")] [(.type "object")] [(.ref 355), (.ref 389), (.ref 442)] [none, none, some (sv "Operand" 531), some (sv "Operand" 539), some (.builtin "object.__new__"), some (.bool true)]
noncomputable def ob354 (P : Params) : Obj := dO P (.type "dict") 2 [⟨"__module__", 588, mo3⟩, ⟨"__firstlineno__", 592, (.int 176 591)⟩, kr "__init__" 600 338, kr "told" 607 345, kr "registers" 614 352, kr "__static_attributes__" 616 353, ⟨"__doc__", 617, .none⟩]
noncomputable def ob355 : Obj := cO "Reg" 355 [(.ref 320)] [(.ref 320), (.type "object")] [] [some (.ref 325), none, some (sv "Reg" 581), some (sv "Reg" 589), some (.builtin "object.__new__"), some (.bool true)]
noncomputable def ob365 : Obj := tO [(sv "" 632)]
noncomputable def ob388 (P : Params) : Obj := dO P (.type "dict") 2 [⟨"__module__", 627, mo3⟩, ⟨"__firstlineno__", 631, (.int 187 630)⟩, kr "__init__" 641 372, kr "told" 648 379, kr "symbol" 655 386, kr "__static_attributes__" 658 387, ⟨"__doc__", 659, .none⟩]
noncomputable def ob389 : Obj := cO "Imm" 389 [(.ref 320)] [(.ref 320), (.type "object")] [] [some (.ref 358), none, some (sv "Imm" 620), some (sv "Imm" 628), some (.builtin "object.__new__"), some (.bool true)]
noncomputable def ob399 : Obj := tO [(.int 0 674), (sv "" 675), (sv "" 676)]
noncomputable def ob441 (P : Params) : Obj := dO P (.type "dict") 2 [⟨"__module__", 669, mo3⟩, ⟨"__firstlineno__", 673, (.int 199 672)⟩, kr "__init__" 690 406, kr "told" 699 413, kr "symbol" 706 420, kr "registers" 712 425, kr "is_rip" 719 432, kr "is_absolute" 726 439, kr "__static_attributes__" 734 440, ⟨"__doc__", 735, .none⟩]
noncomputable def ob442 : Obj := cO "Mem" 442 [(.ref 320)] [(.ref 320), (.type "object")] [] [some (.ref 392), none, some (sv "Mem" 662), some (sv "Mem" 670), some (.builtin "object.__new__"), some (.bool true)]
noncomputable def ob452 : Obj := tO [(sv "" 750)]
noncomputable def ob494 (P : Params) : Obj := dO P (.type "dict") 4 [⟨"__module__", 745, mo3⟩, ⟨"__firstlineno__", 749, (.int 227 748)⟩, kr "__init__" 760 459, kr "told" 766 464, kr "memory_at" 775 471, kr "memory" 783 478, kr "symbols" 790 485, kr "replaced" 799 492, kr "__static_attributes__" 803 493, kr "__dict__" 805 496, kr "__weakref__" 807 497, ⟨"__doc__", 808, .none⟩]
noncomputable def ob495 : Obj := cO "Instruction" 495 [(.type "object")] [(.type "object")] [] [none, none, some (sv "Instruction" 738), some (sv "Instruction" 746), some (.builtin "object.__new__"), some (.bool true)]
noncomputable def ob613 (P : Params) : Obj := dO P (.type "dict") 4 [⟨"__module__", 905, mo4⟩, ⟨"__firstlineno__", 909, (.int 302 908)⟩, kr "__init__" 922 583, kr "told" 929 590, kr "is_register" 936 597, kr "has_sib" 943 604, kr "length" 950 611, kr "__static_attributes__" 957 612, kr "__dict__" 959 615, kr "__weakref__" 961 616, ⟨"__doc__", 962, .none⟩]
noncomputable def ob614 : Obj := cO "Shape" 614 [(.type "object")] [(.type "object")] [] [none, none, some (sv "Shape" 898), some (sv "Shape" 906), some (.builtin "object.__new__"), some (.bool true)]
noncomputable def ob724 : Obj := tO [(sv "" 1109), (.bool false), (.int 0 1110), (.bool false), (.int (-1) 1112)]
noncomputable def ob768 (P : Params) : Obj := dO P (.type "dict") 4 [⟨"__module__", 1104, mo5⟩, ⟨"__firstlineno__", 1108, (.int 411 1107)⟩, kr "__init__" 1124 731, kr "told" 1131 738, kr "has_rex" 1138 745, kr "bits" 1145 752, kr "count" 1152 759, kr "octets" 1160 766, kr "__static_attributes__" 1166 767, kr "__dict__" 1168 770, kr "__weakref__" 1170 771, ⟨"__doc__", 1171, .none⟩]
noncomputable def ob769 : Obj := cO "Prefixes" 769 [(.type "object")] [(.type "object")] [] [none, none, some (sv "Prefixes" 1097), some (sv "Prefixes" 1105), some (.builtin "object.__new__"), some (.bool true)]
noncomputable def ob836 (P : Params) : Obj := dO P (.type "dict") 4 [⟨"__module__", 1235, mo6⟩, ⟨"__firstlineno__", 1239, (.int 466 1238)⟩, kr "__init__" 1250 822, kr "length" 1257 829, kr "told" 1263 834, kr "__static_attributes__" 1268 835, kr "__dict__" 1270 838, kr "__weakref__" 1272 839, ⟨"__doc__", 1273, .none⟩]
noncomputable def ob837 : Obj := cO "Encoding" 837 [(.type "object")] [(.type "object")] [] [none, none, some (sv "Encoding" 1228), some (sv "Encoding" 1236), some (.builtin "object.__new__"), some (.bool true)]
noncomputable def ob917 : Obj := tO [.none]
noncomputable def ob1044 (P : Params) : Obj := dO P (.type "dict") 4 [⟨"__module__", 1483, mo7⟩, ⟨"__firstlineno__", 1487, (.int 627 1486)⟩, kr "__init__" 1498 988, kr "told" 1504 993, kr "find" 1512 1000, kr "has" 1520 1007, kr "at" 1530 1014, kr "names" 1537 1021, kr "codes" 1544 1028, kr "counts" 1552 1035, kr "memory_sizes" 1560 1042, kr "__static_attributes__" 1564 1043, kr "__dict__" 1566 1046, kr "__weakref__" 1568 1047, ⟨"__doc__", 1569, .none⟩]
noncomputable def ob1045 : Obj := cO "InstructionSet" 1045 [(.type "object")] [(.type "object")] [] [none, none, some (sv "InstructionSet" 1476), some (sv "InstructionSet" 1484), some (.builtin "object.__new__"), some (.bool true)]
noncomputable def ob1100 (P : Params) : Obj := dO P (.type "dict") 4 [⟨"__module__", 1589, mo8⟩, ⟨"__firstlineno__", 1593, (.int 672 1592)⟩, kr "__init__" 1604 1063, kr "code" 1611 1070, kr "is_extended" 1618 1077, kr "is_high" 1625 1084, kr "needs_rex" 1632 1091, kr "told" 1639 1098, kr "__static_attributes__" 1644 1099, kr "__dict__" 1646 1102, kr "__weakref__" 1648 1103, ⟨"__doc__", 1649, .none⟩]
noncomputable def ob1101 : Obj := cO "Register" 1101 [(.type "object")] [(.type "object")] [] [none, none, some (sv "Register" 1582), some (sv "Register" 1590), some (.builtin "object.__new__"), some (.bool true)]
noncomputable def KS (P : Params) : Frag := [(2, ob2 P), (3, ob3 P), (29, ob29), (45, ob45 P), (46, ob46), (58, ob58 P), (59, ob59), (207, ob207), (256, ob256 P), (257, ob257), (319, ob319 P), (320, ob320), (354, ob354 P), (355, ob355), (365, ob365), (388, ob388 P), (389, ob389), (399, ob399), (441, ob441 P), (442, ob442), (452, ob452), (494, ob494 P), (495, ob495), (613, ob613 P), (614, ob614), (724, ob724), (768, ob768 P), (769, ob769), (836, ob836 P), (837, ob837), (917, ob917), (1044, ob1044 P), (1045, ob1045), (1100, ob1100 P), (1101, ob1101)]
noncomputable def KW (P : Params) : Frag := KS P ++ kf zAk
noncomputable def kAs : List Addr := [2, 3, 29, 45, 46, 58, 59, 207, 256, 257, 319, 320, 354, 355, 365, 388, 389, 399, 441, 442, 452, 494, 495, 613, 614, 724, 768, 769, 836, 837, 917, 1044, 1045, 1100, 1101]
noncomputable def pick : List Addr -> Nat -> List Obj -> List Obj
 | [], _, _ => []
 | _ :: _, _, [] => []
 | a :: as, i, o :: os => match Nat.beq a i with
  | true => o :: pick as (i + 1) os
  | false => pick (a :: as) (i + 1) os
theorem sub_step (a i : Nat) (h : i + 1 ≤ a) : a - i = (a - (i + 1)) + 1 := (Nat.succ_pred_eq_of_pos (Nat.sub_pos_of_lt h)).symm
theorem pick_at : ∀ (os : List Obj) (K : Frag) (i : Nat), pick (K.map (·.1)) i os = K.map (·.2) -> ∀ p ∈ K, i ≤ p.1 ∧ os[p.1 - i]? = some p.2
 | _, [], _, _ => fun p hp => (nomatch hp)
 | [], q :: K, i, h => by simp [pick] at h
 | o :: os, q :: K, i, h => by
  rw [List.map_cons, List.map_cons] at h
  unfold pick at h
  cases e : Nat.beq q.1 i with
  | true =>
   rw [e] at h
   have e' : q.1 = i := Nat.eq_of_beq_eq_true e
   simp only [List.cons.injEq] at h
   obtain ⟨h1, h2⟩ := h
   intro p hp
   rcases List.mem_cons.mp hp with rfl | hp
   ·subst e'
    exact ⟨Nat.le_refl _, by rw [Nat.sub_self, List.getElem?_cons_zero, h1]⟩
   ·have z := pick_at os K (i + 1) h2 p hp
    refine ⟨Nat.le_of_succ_le z.1, ?_⟩
    rw [sub_step _ _ z.1, List.getElem?_cons_succ]; exact z.2
  | false =>
   rw [e] at h
   have z0 := pick_at os (q :: K) (i + 1) (by rw [List.map_cons, List.map_cons]; exact h)
   intro p hp
   have z := z0 p hp
   refine ⟨Nat.le_of_succ_le z.1, ?_⟩
   rw [sub_step _ _ z.1, List.getElem?_cons_succ]; exact z.2
noncomputable def notFreed (o : Obj) : Bool := match o.data with
 | .freed => false
 | _ => true
noncomputable def TW : Frag := [(676, X.tableObj #[]), (952, X.tableObj #[])]
noncomputable def looksK (w : World) (s : Shared) := (looks w s, ((pick kAs 0 s.heap.objs.toList, pick ((kf zAk).map (·.1)) 0 s.heap.objs.toList), pick [676, 952] 0 s.heap.objs.toList))
noncomputable def goodK (w : World) := ((true, openGood qv looseV), (((KS w.params).map (·.2), (kf zAk).map (·.2)), TW.map (·.2)))
theorem body2 (w : World) (os : OsState) : outB (looksK w) (segRunT treeTable pw w 11 annW 1 7800 (S0 w os) thW) = some (goodK w, codeW, pZ) := by
 unfold looksK looks
 rw [PySem.W.Fast.te10110043849684766642, PySem.W.Fast.te14364793385576792824, PySem.W.Fast.te4187177175401517315]
 rfl'
theorem get_of {h : Heap} {a : Addr} {o : Obj} (e : h.objs.toList[a]? = some o) (hf : notFreed o = true) : h.get? a = some o := by
 unfold Heap.get?
 rw [Array.getElem?_toList] at e
 rw [e]
 obtain ⟨c, d, dt, sl⟩ := o
 cases dt <;> first | rfl | cases hf
theorem in_of {h : Heap} {K : Frag} (e : pick (K.map (·.1)) 0 h.objs.toList = K.map (·.2)) (al : K.all (fun p => notFreed p.2) = true) (p : Addr × Obj) (hm : p ∈ K) : h.get? p.1 = some p.2 :=
 get_of (pick_at _ K 0 e p hm).2 (List.all_eq_true.mp al p hm)
theorem mem_lk {K : Frag} {a : Addr} {o : Obj} (h : K.lookup a = some o) : (a, o) ∈ K := by
 obtain ⟨l₁, l₂, e, _⟩ := List.lookup_eq_some_iff.mp h
 rw [e]
 exact List.mem_append_right _ (.head _)
theorem kW_in {w : World} {h : Heap} (e : (pick kAs 0 h.objs.toList, pick ((kf zAk).map (·.1)) 0 h.objs.toList) = ((KS w.params).map (·.2), (kf zAk).map (·.2))) : (KW w.params).In h := fun a o hl =>
 (List.mem_append.mp (mem_lk hl)).elim
  (in_of (K := KS w.params) (congrArg Prod.fst e) (show (KS w.params).all (fun p => notFreed p.2) = true by rfl') (a, o))
  (in_of (K := kf zAk) (congrArg Prod.snd e) (show (kf zAk).all (fun p => notFreed p.2) = true by rfl') (a, o))
theorem tW_in {h : Heap} (e : pick [676, 952] 0 h.objs.toList = TW.map (·.2)) : ∀ p ∈ TW, h.get? p.1 = some p.2 := in_of (K := TW) e rfl
noncomputable def nd : List Nat -> Bool
 | [] => true
 | a :: l => !l.any (Nat.beq a) && nd l
theorem lk_mem : ∀ {K : Frag} {a : Addr} {o : Obj}, nd (K.map (·.1)) = true -> (a, o) ∈ K -> K.lookup a = some o
 | [], _, _, _, h => nomatch h
 | (b, q) :: K, a, o, hn, h => by
  have hn := (Bool.and_eq_true _ _).mp hn
  rw [List.lookup_cons]
  rcases List.mem_cons.mp h with e | h2
  ·cases e
   rw [beq_self_eq_true]
  ·have : (a == b) = false := by
    cases q : a == b with
    | false => rfl
    | true =>
     obtain rfl := beq_iff_eq.mp q
     exact absurd (Nat.beq_refl a) (List.any_eq_false.mp ((Bool.not_eq_true' _).mp hn.1) a ((List.mem_map (f := fun p : Addr × Obj => p.1)).mpr ⟨(a, o), h2, rfl⟩))
   rw [this]
   exact lk_mem hn.2 h2
theorem kf_mem {r : FnR} : ∀ {l : List FnR}, r ∈ l -> (r.f, r.ob) ∈ kf l
 | x :: l, h => (List.mem_cons.mp h).elim (fun e => e ▸ .tail _ (.head _)) fun h => .tail _ (.tail _ (kf_mem h))
theorem nd_ok (P : Params) : nd ((KW P).map (·.1)) = true := by rfl'
end
end Mine
end
section
open PySem PySem.W PyProof.Rows
set_option Elab.async false
namespace Mine
set_option maxRecDepth 100000
set_option maxHeartbeats 0
theorem wsaid : PySem.Challenge.rw_pb0433_01.wellSaid = true :=
 (congrFun PySem.W.Fast.te9446332074065402090 PySem.Challenge.rw_pb0433_01).trans (by rfl')
end Mine
end
section
open PySem PySem.W PyProof.Rows
set_option Elab.async false
set_option maxRecDepth 100000
set_option maxHeartbeats 0
set_option linter.all false
namespace Mine
noncomputable section
noncomputable def M0 : Nat := 12 + (1 + (7800 + 2))
theorem split3 {α β γ : Type} {a a' : α} {b b' : β} {c c' : γ} (h : ((a, b), c) = ((a', b'), c')) : a = a' ∧ b = b' ∧ c = c' := by
 simp only [Prod.mk.injEq] at h
 exact ⟨h.1.1, h.1.2, h.2⟩
section
variable {p q : Program} {loose : List Str} {Xt : Shared -> Bool} {α : Type} {Yf : Shared -> α} {Ya : World -> α} {N : Nat} {g0 : Bool} {H₀ : Params -> Heap} {gs₀ : Array GenState} {d₀ : Drawn} {k₀ : Nat} {m₀ : Nat} {ann : Option Value} {M : Nat}
theorem left_of (open_ : ∀ w : World, (fencedOpening treeTable p w N).map (fun s => (s.heap, s.gens, s.drawn, s.toks)) = some (H₀ w.params, gs₀, d₀, k₀))
  (size : ∀ w : World, ((H₀ w.params).isNs mainGlobals && gs₀.size == 0, (H₀ w.params).objs.size, (H₀ w.params).nsMap mainGlobals "__annotations__") = (true, m₀, ann))
  (run : ∀ (w : World) (os : OsState), ∃ S : Shared, topRun treeTable p w m₀ ann M ⟨H₀ w.params, gs₀, d₀, k₀, os⟩ (topStub p) = some S ∧
   (staticsOk (importedModules p.main.body) (H₀ w.params) S.heap && namesBound p S.heap && gensDone S && laidKept (H₀ w.params) S.heap) = true ∧ openSeen q loose (importedModules p.main.body) Xt g0 S = openGood q loose ∧ Yf S = Ya w)
  (le : Nat.ble M N = true) : LeftO p q loose Xt Yf Ya N g0 := fun w => by
 obtain ⟨⟨h, gs, d, k, os⟩, e, e'⟩ := Option.map_eq_some_iff.mp (open_ w)
 obtain ⟨rfl, rfl, rfl, rfl⟩ : h = H₀ w.params ∧ gs = gs₀ ∧ d = d₀ ∧ k = k₀ := by simpa using e'
 obtain ⟨z1, z2, z3⟩ : _ ∧ _ ∧ _ := by simpa only [Prod.mk.injEq] using size w
 obtain ⟨S, hr, l1, l2, l3⟩ := run w os
 have r := topRun_mono (N - M) _ _ _ _ hr
 rw [show M + (N - M) = N by have := Nat.le_of_ble_eq_true le; omega] at r
 have t : topFrom treeTable p w N ⟨H₀ w.params, gs, d, k, os⟩ = some S := by
  unfold topFrom
  dsimp only
  rw [z1, z2, z3, r]
  show (match staticsOk (importedModules p.main.body) (H₀ w.params) S.heap && namesBound p S.heap && gensDone S && laidKept (H₀ w.params) S.heap with | true => _ | false => _) = _
  rw [l1]
 unfold openEnds
 rw [e]
 show (topFrom treeTable p w N _).map _ = _
 rw [t]
 exact congrArg some (Prod.ext l2 l3)
theorem run_of {a b n : Nat} {w : World} {body : List Stmt} {env : Env} {c : Code} {q p' : Pos} {S₀ : Shared} {s s' : SharedT} {t : Thread} (hc : c = .body body env)
  (pre : topGo treeTable p w m₀ ann a S₀ t = some (s.abs, ⟨denote treeTable c, c, q, [topFrame q]⟩)) (block : segRun treeTable p w m₀ ann 1 b s.abs (blockOf body env c q [topFrame q]) = some (.next, s.abs, c, q))
  (hr : segRunT treeTable p w m₀ ann 1 n s (piecesOf body env c q [topFrame q]) = some (.next, s', c, p')) (fin : topRun treeTable p w m₀ ann 2 s'.abs ⟨doneF .next, c, p', [topFrame q]⟩ = some s'.abs) :
  topRun treeTable p w m₀ ann (a + (b + (n + 2))) S₀ t = some s'.abs := by
 subst hc
 have hb := piece_app (l := body) (rest := []) (env := env) (q := q) (segRun_of hr) (piece_nil fin)
 rw [List.append_nil] at hb
 exact go_top pre (piece_block block hb)
end
noncomputable def YfW (s : Shared) := ((pick kAs 0 s.heap.objs.toList, pick ((kf zAk).map (·.1)) 0 s.heap.objs.toList), pick [676, 952] 0 s.heap.objs.toList)
noncomputable def YaW (w : World) := (((KS w.params).map (·.2), (kf zAk).map (·.2)), TW.map (·.2))
theorem run_ex (w : World) (os : OsState) : ∃ S : Shared, topRun treeTable pw w 11 annW M0 ⟨boot_heap w.params, Array.mk [], boot_drawn, boot_toks, os⟩ (topStub pw) = some S ∧
   (staticsOk (importedModules pw.main.body) (boot_heap w.params) S.heap && namesBound pw S.heap && gensDone S && laidKept (boot_heap w.params) S.heap) = true ∧ openSeen qv looseV (importedModules pw.main.body) (fun _ => true) true S = openGood qv looseV ∧ YfW S = YaW w := by
 obtain ⟨S, hr, hl⟩ := outB_of (body2 w os)
 exact ⟨S.abs, run_of (p := pw) (m₀ := 11) (ann := annW) (a := 12) (b := 1) (n := 7800) (q := p0) (p' := pZ) (body := bodyW) (env := envW) (c := codeW) (s := S0 w os) rfl (pre w os) (block w os) hr (fin w S.abs pZ), split3 hl⟩
theorem fence (s : Shared) : fenceModules? pw s = some s := by rfl'
theorem opens : opening pw = plainProg pw.main.scope.names := by rfl'
theorem size0 (w : World) : ((boot_heap w.params).isNs mainGlobals && (Array.mk [] : Array GenState).size == 0, (boot_heap w.params).objs.size, (boot_heap w.params).nsMap mainGlobals "__annotations__") = (true, 11, annW) := by rfl'
theorem leM : Nat.ble M0 8000 = true := by rfl'
theorem left : LeftO pw qv looseV (fun _ => true) YfW YaW 8000 true :=
 left_of (p := pw) (q := qv) (H₀ := boot_heap) (m₀ := 11) (ann := annW) (M := M0) (boot_open (p := pw) (N := 8000) opens rfl fence) size0 run_ex leM
noncomputable def YPW (w : World) (h : Heap) : Prop := (KW w.params).In h ∧ ∀ p ∈ TW, h.get? p.1 = some p.2
noncomputable abbrev lawRow : OpenRow := PySem.Challenge.rw_pb0433_01.row
theorem headBy {d : DefRec} {kwd : List (Str × Expr)} (hdef : defOf qv lawRow.name = some (d, kwd)) (hp : pw.theDef lawRow.name = some (d.params, d.body, d.scope)) (hk : kwWritten? d.params.kwonlyargs d.params.kw_defaults = some kwd)
  (ok : (chainsOk qv && opensWell pw && (frees lawRow.toRowW && lawRow.toRowW.within.isEmpty)) = true) (hb : pw.bare) (hw : lawRow.toRowW.promised)
  (call : WalkO qv looseV (fun _ _ => True) YPW lawRow.toRowW d kwd fun f vs => PySem.call f vs) : PySem.Challenge.rw_pb0433_01.Holds :=
 holds_law wsaid fun said => holds_open (r := lawRow) (q := qv) (loose := looseV) (Xt := fun _ => true) (XP := fun _ _ => True) (Yf := YfW) (Ya := YaW) (YP := YPW) (N := 8000) left
  (fun w s e => ⟨kW_in (congrArg Prod.fst e), tW_in (congrArg Prod.snd e)⟩)
  (fun w h h' y k => ⟨y.1.keeps k, fun p hp => k _ _ (y.2 p hp)⟩) (fun _ _ => trivial) (fun _ _ _ _ _ => trivial) hdef hp hk (fun s _ => recFacts_nil rfl) rfl said ok hb hw call
noncomputable def dLaw : DefRec := { name := Str.ofString "law", params := fnParams (zX 122), body := zG (zX 122), scope := zD (zX 122), pos := ⟨789, 0, 808, 115⟩ }
theorem hdef : defOf qv lawRow.name = some (dLaw, []) := by rfl'
theorem hthe : pw.theDef lawRow.name = some (dLaw.params, dLaw.body, dLaw.scope) := by rfl'
theorem hkw : kwWritten? dLaw.params.kwonlyargs dLaw.params.kw_defaults = some [] := by rfl'
theorem hok : (chainsOk qv && opensWell pw && (frees lawRow.toRowW && lawRow.toRowW.within.isEmpty)) = true := by rfl'
theorem hbare : pw.bare := ⟨rfl, rfl, rfl, rfl, rfl, by decide +kernel⟩
theorem hprom : lawRow.toRowW.promised := ⟨[ofPy (PyData.list [])], by decide +kernel, by decide +kernel⟩
theorem hdA (walk : WalkO qv looseV (fun _ _ => True) YPW lawRow.toRowW dLaw [] fun f vs => PySem.call f vs) : PySem.Challenge.rw_pb0433_01.Holds :=
 headBy hdef hthe hkw hok hbare hprom walk
end
end Mine
end
section
open PySem PySem.W PyProof.Rows
set_option Elab.async false
set_option maxRecDepth 100000
set_option linter.all false
namespace Mine
inductive D where
 | none | any | at (a : Addr)
 | bool (b : Bool) | int (i : Int) | str (s : Str) | bytes (b : List UInt8)
 | tup (ds : List D) | lst (ds : List D)
 | inst (C : Nat) (ns : List Str) (ds : List D)
 | dict (ns : List Str) (ds : List D)
 deriving Inhabited
inductive LV where
 | val (d : D) | own (ds : List D) | obj (C : Nat) (ns : List Str) (ds : List D)
 deriving Inhabited
noncomputable abbrev Led := List (Addr × Obj)
noncomputable abbrev Inc (a b : Led) : Prop := ∀ p, p ∈ a -> p ∈ b
theorem Inc.trans {a b c} (h : Inc a b) (k : Inc b c) : Inc a c := fun p hp => k p (h p hp)
noncomputable abbrev sw (s : Shared) (h : Heap) (t : Nat) : Shared := { s with heap := h, toks := t }
noncomputable abbrev tupOf (vs : List Value) : Obj := { cls := .type "tuple", data := .seq vs.toArray }
noncomputable def zAe : List DictEntry -> List Str -> Prop
 | [], ns => ns = []
 | e :: es, ns => ∃ n r, ns = n :: r ∧ (∃ t, e.key = .str n t) ∧ zAe es r
class HashFn where
 hf : Str -> Int
variable [hF : HashFn]
mutual
noncomputable def R (led : Led) : D -> Value -> Prop
 | .none, v => v = .none
 | .any, v => handedIn v = true
 | .at a, v => v = .ref a
 | .bool b, v => v = .bool b
 | .int i, v => ∃ t, v = .int i t
 | .str x, v => ∃ t, v = .str x t
 | .bytes b, v => ∃ t, v = .bytes b.toArray t
 | .tup ds, v => ∃ a vs, v = .ref a ∧ (a, tupOf vs) ∈ led ∧ Rs led ds vs
 | .lst ds, v => ∃ a vs c, v = .ref a ∧ (a, listOf vs.toArray c) ∈ led ∧ Rs led ds vs
 | .inst C ns ds, v => ∃ a dx es n vs, v = .ref a ∧ (a, instObj C dx) ∈ led ∧ (dx, dictOf es n) ∈ led ∧ zAe es ns ∧ es.map (·.val) = vs ∧ Rs led ds vs
 | .dict ns ds, v => ∃ a es n vs, v = .ref a ∧ (a, dictOf es n) ∈ led ∧ (zAe es ns ∧ (∀ e ∈ es, ∀ x t, e.key = .str x t -> e.hash = HashFn.hf x) ∧ (a == sysModules) = false) ∧ es.map (·.val) = vs ∧ Rs led ds vs
noncomputable def Rs (led : Led) : List D -> List Value -> Prop
 | [], vs => vs = []
 | d :: ds, vs => ∃ v r, vs = v :: r ∧ R led d v ∧ Rs led ds r
end
theorem Rs.cons {led d v} {ds vs} (h : R led d v) (t : Rs led ds vs) : Rs led (d :: ds) (v :: vs) :=
 show ∃ w r, v :: vs = w :: r ∧ R led d w ∧ Rs led ds r from ⟨v, vs, rfl, h, t⟩
theorem Rs.nil {led} : Rs led [] [] := show [] = [] from rfl
theorem R_tup {led ds a vs} (h : (a, tupOf vs) ∈ led) (r : Rs led ds vs) : R led (.tup ds) (.ref a) :=
 show ∃ b ws, Value.ref a = .ref b ∧ (b, tupOf ws) ∈ led ∧ Rs led ds ws from ⟨a, vs, rfl, h, r⟩
theorem R_lst {led ds a vs} {c : Nat} (h : (a, listOf vs.toArray c) ∈ led) (r : Rs led ds vs) : R led (.lst ds) (.ref a) :=
 show ∃ b ws k, Value.ref a = .ref b ∧ (b, listOf ws.toArray k) ∈ led ∧ Rs led ds ws from ⟨a, vs, c, rfl, h, r⟩
theorem R_inst {led} {C : Nat} {ns ds a dx es} {n : Nat} (h : (a, instObj C dx) ∈ led) (h2 : (dx, dictOf es n) ∈ led) (k : zAe es ns) (r : Rs led ds (es.map (·.val))) : R led (.inst C ns ds) (.ref a) :=
 show ∃ b dx es n vs, Value.ref a = .ref b ∧ (b, instObj C dx) ∈ led ∧ (dx, dictOf es n) ∈ led ∧ zAe es ns ∧ es.map (·.val) = vs ∧ Rs led ds vs from ⟨a, dx, es, n, _, rfl, h, h2, k, rfl, r⟩
theorem R_dict {led ns ds v} (h : ∃ a es n vs, v = .ref a ∧ (a, dictOf es n) ∈ led ∧ (zAe es ns ∧ (∀ e ∈ es, ∀ x t, e.key = .str x t -> e.hash = HashFn.hf x) ∧ (a == sysModules) = false) ∧ es.map (·.val) = vs ∧ Rs led ds vs) : R led (.dict ns ds) v := h
mutual
theorem R.mono {led led'} (h : Inc led led') : ∀ {d v}, R led d v -> R led' d v
 | .none, _, x => x
 | .any, _, x => x
 | .at a, _, x => x
 | .bool b, _, x => x
 | .int i, _, x => x
 | .str i, _, x => x
 | .bytes i, _, x => x
 | .tup ds, _, x => by
  obtain ⟨a, vs, e, m, r⟩ := x
  exact e ▸ R_tup (h _ m) (Rs.mono h r)
 | .lst ds, _, x => by
  obtain ⟨a, vs, c, e, m, r⟩ := x
  exact e ▸ R_lst (h _ m) (Rs.mono h r)
 | .inst C ns ds, v, x => by
  obtain ⟨a, dx, es, n, vs, e, m, m2, k, ev, r⟩ := x
  exact e ▸ R_inst (h _ m) (h _ m2) k (ev ▸ Rs.mono h r)
 | .dict ns ds, v, x => by
  obtain ⟨a, es, n, vs, e, m, k, ev, r⟩ := x
  exact R_dict ⟨a, es, n, vs, e, h _ m, k, ev, Rs.mono h r⟩
theorem Rs.mono {led led'} (h : Inc led led') : ∀ {ds vs}, Rs led ds vs -> Rs led' ds vs
 | [], _, x => x
 | d :: ds, _, x => by
  obtain ⟨v, r, e, a, b⟩ := x
  exact e ▸ Rs.cons (R.mono h a) (Rs.mono h b)
end
theorem Rs.length {led} : ∀ {ds vs}, Rs led ds vs -> ds.length = vs.length
 | [], _, x => by obtain rfl : _ = [] := x; rfl
 | d :: ds, _, x => by
  obtain ⟨v, r, rfl, _, b⟩ := x
  simp [Rs.length b]
theorem Rs.append {led} : ∀ {ds es vs ws}, Rs led ds vs -> Rs led es ws -> Rs led (ds ++ es) (vs ++ ws)
 | [], _, _, _, x, y => by obtain rfl : _ = [] := x; exact y
 | d :: ds, es, _, _, x, y => by
  obtain ⟨v, r, rfl, a, b⟩ := x
  show Rs led (d :: (ds ++ es)) (v :: (r ++ _))
  exact Rs.cons a (Rs.append b y)
theorem Rs.one {led d v} (h : R led d v) : Rs led [d] [v] := Rs.cons h Rs.nil
theorem Rs.get {led} : ∀ {ds vs} {i : Nat} {d}, Rs led ds vs -> ds[i]? = some d -> ∃ v, vs[i]? = some v ∧ R led d v
 | [], _, _, _, _, e => by simp at e
 | d :: ds, _, 0, d', x, e => by
  obtain ⟨v, r, rfl, a, b⟩ := x
  simp at e; subst e
  exact ⟨v, rfl, a⟩
 | d :: ds, _, i + 1, d', x, e => by
  obtain ⟨v, r, rfl, a, b⟩ := x
  simp at e
  obtain ⟨u, e1, e2⟩ := Rs.get b e
  exact ⟨u, by simpa using e1, e2⟩
theorem R.handed {led d v} (x : R led d v) : handedIn v = true := by
 cases d
 ·obtain rfl : v = .none := x; rfl
 ·exact x
 ·obtain rfl : v = .ref _ := x; rfl
 ·obtain rfl : v = .bool _ := x; rfl
 ·obtain ⟨t, rfl⟩ := x; rfl
 ·obtain ⟨t, rfl⟩ := x; rfl
 ·obtain ⟨t, rfl⟩ := x; rfl
 ·obtain ⟨_, _, rfl, _⟩ := x; rfl
 ·obtain ⟨_, _, _, rfl, _⟩ := x; rfl
 ·obtain ⟨_, _, _, _, _, rfl, _⟩ := x; rfl
 ·obtain ⟨_, _, _, _, rfl, _⟩ := x; rfl
noncomputable def keyL (l : Led) : List Addr := l.map (·.1)
theorem zCi {d o} : ∀ {l}, (keyL l).Nodup -> (d, o) ∈ l -> ∃ g, UpdF d o l g ∧ ∀ o' p, p ∈ g o' ↔ p = (d, o') ∨ (p ∈ l ∧ p.1 ≠ d)
 | [], _, h => nomatch h
 | q :: l, nd, h => by
  have nd' : q.1 ∉ keyL l ∧ (keyL l).Nodup := by simpa [keyL] using nd
  rcases List.mem_cons.mp h with rfl | h
  ·have hne : ∀ p ∈ l, p.1 ≠ d := fun p hp e => nd'.1 (List.mem_map.mpr ⟨p, hp, e⟩)
   refine ⟨_, UpdF.head hne, fun o' p => ?_⟩
   constructor
   ·intro hp
    rcases List.mem_cons.mp hp with e | hp
    ·exact .inl e
    ·exact .inr ⟨.tail _ hp, hne p hp⟩
   ·rintro (e | ⟨hp, hn⟩)
    ·exact e ▸ .head _
    ·rcases List.mem_cons.mp hp with e | hp
     ·exact absurd (by rw [e]) hn
     ·exact .tail _ hp
  ·obtain ⟨g, U, hg⟩ := zCi nd'.2 h
   have hqd : q.1 ≠ d := fun e => nd'.1 (List.mem_map.mpr ⟨(d, o), h, e.symm⟩)
   refine ⟨_, UpdF.tail hqd U, fun o' p => ?_⟩
   constructor
   ·intro hp
    rcases List.mem_cons.mp hp with e | hp
    ·exact .inr ⟨e ▸ .head _, e ▸ hqd⟩
    ·rcases (hg o' p).mp hp with e | ⟨a, b⟩
     ·exact .inl e
     ·exact .inr ⟨.tail _ a, b⟩
   ·rintro (e | ⟨hp, hn⟩)
    ·exact .tail _ ((hg o' p).mpr (.inl e))
    ·rcases List.mem_cons.mp hp with e | hp
     ·exact e ▸ .head _
     ·exact .tail _ ((hg o' p).mpr (.inr ⟨hp, hn⟩))
theorem le_k {a b c : Nat} (h : a ≤ b) (k : Nat.ble b c = true) : a ≤ c := Nat.le_trans h (Nat.le_of_ble_eq_true k)
theorem lt_k {a b c : Nat} (h : a < b) (k : Nat.ble b c = true) : a < c := Nat.lt_of_lt_of_le h (Nat.le_of_ble_eq_true k)
theorem lt_4 {i k m : Nat} (h : i < 0 + k) (hk : k ≤ 4) (hm : Nat.ble 4 m = true) : i < m := Nat.lt_of_lt_of_le (Nat.zero_add k ▸ h) (le_k hk hm)
theorem lenP {α : Type} {a b : List α} {m n : Nat} (h : a.length ≤ m) (k : b.length ≤ n) : (a ++ b).length ≤ m + n := by
 rw [List.length_append]
 exact Nat.add_le_add h k
theorem len1 {α : Type} {b : Bool} {a : α} : (if b = true then [a] else []).length ≤ 1 := by
 cases b
 ·exact Nat.zero_le 1
 ·exact Nat.le_refl 1
theorem all_ite {α : Type} {b : Bool} {a : α} {P : α -> Prop} (h : P a) (x : α) (hx : x ∈ (if b = true then [a] else [])) : P x := by
 cases b
 ·exact nomatch hx
 ·exact List.mem_singleton.mp hx ▸ h
theorem all_app {α : Type} {a b : List α} {P : α -> Prop} (h : ∀ x, x ∈ a -> P x) (k : ∀ x, x ∈ b -> P x) (x : α) (hx : x ∈ a ++ b) : P x := (List.mem_append.mp hx).elim (h x) (k x)
theorem add_shift {a i k : Nat} (h : a < i + 1 + k) : a < i + (k + 1) := by
 rw [Nat.add_assoc, Nat.add_comm 1 k] at h
 exact h
theorem updF_keys {d o l} {g : Obj -> Led} (U : UpdF d o l g) (o' : Obj) : keyL (g o') = keyL l := by
 induction U with
 | head _ => rfl
 | tail _ _ ih => exact congrArg (List.cons _) ih
theorem zCh {d o o' l} {g : Obj -> Led} (U : UpdF d o l g) : Upd d o o' l (g o') := by
 induction U with
 | head h => exact .head h
 | tail h _ ih => exact .tail h ih
end Mine
end
section
open PySem PySem.W PyProof.Rows PySem.Calls PyProof
set_option Elab.async false
set_option maxRecDepth 100000
set_option linter.all false
namespace Mine
variable [hF : HashFn]
noncomputable def tabs : List Addr := [676, 952]
noncomputable def tabPos (P : Nat) : Pos := if Nat.beq P 676 then ⟨372, 29, 372, 84⟩ else ⟨605, 47, 605, 83⟩
noncomputable def zCj (P : Nat) : Str := if Nat.beq P 676 then Str.ofString "memory_shapes.<locals>.<lambda>" else Str.ofString "encodings.<locals>.<lambda>"
noncomputable def TabGood (led : Led) (P : Addr) (ps : Array Value) : Prop :=
 ps = #[] ∨ ∃ c' oc vs t, ps = #[rawInt (tabPos P).line, rawInt (tabPos P).col, .ref c'] ∧ (c', oc) ∈ led ∧ oc.data = .fields vs ∧ vs[1]? = some (.str (zCj P) t)
theorem TabGood.mono {led led' P} {ps : Array Value} (h : TabGood led P ps) (i : Inc led led') : TabGood led' P ps := by
 rcases h with h | ⟨c', oc, vs, t, a, b, c, d⟩
 ·exact .inl h
 ·exact .inr ⟨c', oc, vs, t, a, i _ b, c, d⟩
noncomputable def TabOK (led l : Led) : Prop := ∀ P ∈ tabs, P ∉ led.map (·.1) ∧ ∃ ps, (P, X.tableObj ps) ∈ l ∧ TabGood led P ps
noncomputable def looseT : List Str := looseW qv looseV ++ (recsOf qv).map (·.name) ++ (litsOf qv).map (·.1) ++ (clssOf qv (looseW qv looseV)).map (·.name)
inductive FrOK (A : Around) (h₀ : Heap) (L : Addr) : Prop
 | mk (A₀ : Around) (base : Heap) (outer : List Env) (fenv : Env) : Below A₀ base outer h₀ -> A.frames = some (fenv :: outer) -> fenv.frame = some L -> fenv.scope.kind = .function -> FrOK A h₀ L
structure Sit (w : World) (A : Around) (env : Env) (h₀ : Heap) (L : Addr) (n : Nat) : Prop where
 fr : FrOK A h₀ L
 kd : env.scope.kind = .function
 gl : env.globals = mainGlobals
 bl : env.builtins = builtinsNs
 X : (KW w.params).In h₀
 T : ∃ mean mg mb, Top topProg looseT mean mg mb h₀
 hd : A.handled = none
 dp : A.depth + n < recursionLimit
 un : A.units + 8 * n < cLine
 hs : ∀ x, HashFn.hf x = hashStr w x
theorem Sit.le {w A env h₀ L n k} (S : Sit w A env h₀ L n) (h : k ≤ n) : Sit w A env h₀ L k :=
 ⟨S.fr, S.kd, S.gl, S.bl, S.X, S.T, S.hd, Nat.lt_of_le_of_lt (Nat.add_le_add_left h _) S.dp, Nat.lt_of_le_of_lt (Nat.add_le_add_left (Nat.mul_le_mul_left 8 h) _) S.un, S.hs⟩
section
variable {w : World} {A : Around} {env : Env} {h₀ : Heap} {L : Addr} {n : Nat}
theorem Sit.d0 (S : Sit w A env h₀ L n) : A.depth < recursionLimit := Nat.lt_of_le_of_lt (Nat.le_add_right _ _) S.dp
theorem Sit.d1 (S : Sit w A env h₀ L (n + 1)) : A.depth + 1 + n < recursionLimit := by
 rw [Nat.add_assoc, Nat.add_comm 1 n]
 exact S.dp
theorem Sit.uk (S : Sit w A env h₀ L (n + 1)) (k : Nat) (h : Nat.ble k 8 = true) : A.units + k + 8 * n < cLine := by
 refine Nat.lt_of_le_of_lt ?_ S.un
 rw [Nat.mul_succ, Nat.add_assoc, Nat.add_comm k]
 exact Nat.add_le_add_left (Nat.add_le_add_left (Nat.le_of_ble_eq_true h) _) _
theorem Sit.u0 (S : Sit w A env h₀ L (n + 1)) (k : Nat) (h : Nat.ble k 8 = true) : A.units + k < cLine := Nat.lt_of_le_of_lt (Nat.le_add_right _ _) (S.uk k h)
end
noncomputable abbrev Loc := List (Str × LV)
noncomputable def keyN : List Nat -> Nat
 | [] => 0
 | c :: r => 2 ^ c * (2 * keyN r + 1)
theorem odd_pos {c n : Nat} : 0 < 2 ^ c * (2 * n + 1) := Nat.mul_pos (Nat.pow_pos Nat.two_pos) (Nat.succ_pos _)
theorem even_odd {a b : Nat} (h : 2 * a = 2 * b + 1) : False := by
 have := congrArg (· % 2) h
 simp only [Nat.mul_mod_right, Nat.mul_add_mod] at this
 exact nomatch this
theorem dbl {x m : Nat} : 2 ^ (x + 1) * m = 2 * (2 ^ x * m) := by rw [Nat.pow_succ, Nat.mul_comm (2 ^ x) 2, Nat.mul_assoc]
theorem pow_inj : ∀ {a b m n : Nat}, 2 ^ a * (2 * m + 1) = 2 ^ b * (2 * n + 1) -> a = b ∧ m = n
 | 0, 0, m, n, h => by
  rw [Nat.pow_zero, Nat.one_mul, Nat.one_mul] at h
  exact ⟨rfl, Nat.eq_of_mul_eq_mul_left Nat.two_pos (Nat.succ.inj h)⟩
 | 0, b + 1, m, n, h => by
  rw [dbl, Nat.pow_zero, Nat.one_mul] at h
  exact (even_odd h.symm).elim
 | a + 1, 0, m, n, h => by
  rw [dbl, Nat.pow_zero, Nat.one_mul] at h
  exact (even_odd h).elim
 | a + 1, b + 1, m, n, h => by
  rw [dbl, dbl] at h
  exact (pow_inj (Nat.eq_of_mul_eq_mul_left Nat.two_pos h)).imp_left (congrArg (· + 1))
theorem keyN_inj : ∀ {a b : List Nat}, keyN a = keyN b -> a = b
 | [], [], _ => rfl
 | [], c :: r, h => absurd (show 0 = 2 ^ c * (2 * keyN r + 1) from h) (Nat.ne_of_lt odd_pos)
 | c :: r, [], h => absurd (show 2 ^ c * (2 * keyN r + 1) = 0 from h) (Nat.ne_of_gt odd_pos)
 | c :: r, d :: t, h => by
  obtain ⟨rfl, e⟩ := pow_inj h
  rw [keyN_inj e]
noncomputable def keyS (s : Str) : Nat := keyN s.cps.toList
noncomputable def eqS (a b : Str) : Bool := Nat.beq (keyS a) (keyS b)
theorem zW {a b} : eqS a b = true ↔ a = b := by
 unfold eqS keyS
 constructor
 ·intro h
  have := keyN_inj (Nat.eq_of_beq_eq_true h)
  cases a; cases b
  congr
  simpa using this
 ·rintro rfl; exact Nat.beq_refl _
theorem zI (a : Str) : eqS a a = true := zW.mpr rfl
noncomputable def fnd {α : Type} (x : Str) : List (Str × α) -> Option α
 | [] => none
 | (y, l) :: r => if eqS x y then some l else fnd x r
noncomputable def put {α : Type} (x : Str) (l : α) : List (Str × α) -> List (Str × α)
 | [] => [(x, l)]
 | (y, k) :: r => if eqS x y then (y, l) :: r else (y, k) :: put x l r
theorem zN {α : Type} {x y} {l : α} : ∀ {ρ : List (Str × α)}, fnd y (put x l ρ) = if eqS y x then some l else fnd y ρ
 | [] => by simp only [put, fnd]
 | (z, k) :: r => by
  unfold put
  by_cases h : eqS x z = true
  ·rw [if_pos h]
   obtain rfl := zW.mp h
   simp only [fnd]
   split <;> rfl
  ·rw [if_neg h]
   simp only [fnd, zN (ρ := r)]
   by_cases hy : eqS y z = true
   ·rw [if_pos hy]
    obtain rfl := zW.mp hy
    rw [if_neg (fun q => h (by rw [zW] at q ⊢; exact q.symm)), if_pos hy]
   ·rw [if_neg hy, if_neg hy]
theorem zBu {α : Type} {x y} {l lv : α} {ρ : List (Str × α)} {G : Prop} (e : fnd y (put x l ρ) = some lv) (h : y = x -> l = lv -> G) (k : y ≠ x -> fnd y ρ = some lv -> G) : G := by
 rw [zN] at e
 by_cases q : eqS y x = true
 ·rw [if_pos q] at e
  exact h (zW.mp q) (Option.some.inj e)
 ·rw [if_neg q] at e
  exact k (fun h => q (h ▸ zI y)) e
inductive Vw (env : Env) (mm : Str -> Option Value) (ko : Led) (x : Str) (v : Value) : Prop
 | loc : env.kindOf x = some .local -> mm x = some v -> Vw env mm ko x v
 | cel (c : Addr) (o : Obj) : (env.kindOf x = some .cell ∨ env.kindOf x = some .free) -> env.cells.lookup x = some c -> (c, o) ∈ ko -> o.data = .cell (some v) -> Vw env mm ko x v
inductive OwnOK (led ko news : Led) (v : Value) (ds : List D) : Prop
 | mk (a : Addr) (vs : List Value) (c : Nat) : v = .ref a -> (a, listOf vs.toArray c) ∈ news -> Rs led ds vs -> a ∉ keyL led -> a ∉ keyL ko -> OwnOK led ko news v ds
inductive ObjOK (led ko news : Led) (v : Value) (C : Nat) (ns : List Str) (ds : List D) : Prop
 | mk (a dx : Addr) (es : List DictEntry) (n : Nat) (vs : List Value) : v = .ref a -> ko.head? = some (a, instObj C dx) -> (dx, dictOf es n) ∈ news -> zAe es ns -> es.map (·.val) = vs -> Rs led ds vs -> dx ∉ keyL led -> dx ∉ keyL ko -> ObjOK led ko news v C ns ds
noncomputable def LvOK (led ko news : Led) (v : Value) : LV -> Prop
 | .val d => R led d v
 | .own ds => OwnOK led ko news v ds
 | .obj C ns ds => ObjOK led ko news v C ns ds
inductive Lc (env : Env) (L : Addr) (m : Str -> Option Value) (ko : Led) (mm : Str -> Option Value) : Prop
 | fn : env.locals = L -> mm = m -> Lc env L m ko mm
 | comp (oC : Obj) : (env.locals, oC) ∈ ko -> LCg.NsObj oC mm -> Lc env L m ko mm
noncomputable def isVal : LV -> Bool
 | .val _ => true
 | _ => false
inductive LocAt (env : Env) (ko led news : Led) (mm : Str -> Option Value) (x : Str) (lv : LV) : Prop
 | mk (v : Value) : Vw env mm ko x v -> LvOK led ko news v lv -> (isVal lv = false -> env.kindOf x = some .local) -> LocAt env ko led news mm x lv
structure Locs (env : Env) (L : Addr) (m : Str -> Option Value) (ρ : Loc) (ko led news : Led) (mm : Str -> Option Value) : Prop where
 lc : Lc env L m ko mm
 at' : ∀ x lv, fnd x ρ = some lv -> LocAt env ko led news mm x lv
 inj : ∀ x y lx ly v, fnd x ρ = some lx -> fnd y ρ = some ly -> isVal lx = false -> isVal ly = false -> mm x = some v -> mm y = some v -> x = y
structure St (env : Env) (h₀ : Heap) (L : Addr) (h : Heap) (m : Str -> Option Value) (ρ : Loc) (ko led news : Led) : Prop where
 F : Fr h₀ L h m
 N : News h₀ L h news
 nd : (keyL news).Nodup
 kon : Inc ko news
 sub : Inc led news
 dis : ∀ a ∈ keyL ko, a ∉ keyL led ∧ a ∉ tabs
 tab : TabOK led news
 loc : ∃ mm, Locs env L m ρ ko led news mm
theorem zC {l a o} (h : (a, o) ∈ l) : a ∈ keyL l := List.mem_map.mpr ⟨_, h, rfl⟩
theorem keyL_sub {l l'} (h : Inc l l') {a} (m : a ∈ keyL l) : a ∈ keyL l' := by
 obtain ⟨p, hp, rfl⟩ := List.mem_map.mp m
 exact List.mem_map.mpr ⟨p, h p hp, rfl⟩
theorem zAm : ∀ {l a o o'}, (keyL l).Nodup -> (a, o) ∈ l -> (a, o') ∈ l -> o = o'
 | [], _, _, _, _, h, _ => nomatch h
 | q :: l, a, o, o', nd, h, h' => by
  have nd' : q.1 ∉ keyL l ∧ (keyL l).Nodup := by simpa [keyL] using nd
  rcases List.mem_cons.mp h with e | h <;> rcases List.mem_cons.mp h' with e' | h'
  ·exact congrArg Prod.snd (e.trans e'.symm)
  ·exact absurd (zC h') (by rw [show a = q.1 from congrArg Prod.fst e]; exact nd'.1)
  ·exact absurd (zC h) (by rw [show a = q.1 from congrArg Prod.fst e']; exact nd'.1)
  ·exact zAm nd'.2 h h'
theorem LvOK.mono {led ko news led' news' v} {lv : LV} (x : LvOK led ko news v lv) (hl : Inc led led') (hn : ∀ a o, (a, o) ∈ news -> a ∉ keyL led -> a ∉ keyL ko -> o.cls ≠ (X.tableObj #[]).cls -> (a, o) ∈ news' ∧ a ∉ keyL led') : LvOK led' ko news' v lv := by
 cases lv with
 | val d => exact R.mono hl x
 | own ds =>
  obtain ⟨a, vs, c, e, m, r, p, q⟩ := x
  have := hn _ _ m p q (by intro h; cases h)
  exact ⟨a, vs, c, e, this.1, Rs.mono hl r, this.2, q⟩
 | obj C ns ds =>
  obtain ⟨a, dx, es, n, vs, e, m, m2, k, ev, r, p2, q2⟩ := x
  have h2 := hn _ _ m2 p2 q2 (by intro h; cases h)
  exact ⟨a, dx, es, n, vs, e, m, h2.1, k, ev, Rs.mono hl r, h2.2, q2⟩
theorem St.grow {env h₀ L h h' m ρ ko led news} {new} (S : St env h₀ L h m ρ ko led news) (F : Fr h₀ L h' m) (N : News h₀ L h' (new ++ news)) (nd : (keyL (new ++ news)).Nodup) :
  St env h₀ L h' m ρ ko (new ++ led) (new ++ news) where
 F := F
 N := N
 nd := nd
 kon := fun p hp => List.mem_append_right _ (S.kon p hp)
 sub := fun p hp => (List.mem_append.mp hp).elim (fun h => List.mem_append_left _ h) fun h => List.mem_append_right _ (S.sub p h)
 dis := fun a ha => ⟨fun hl => by
  rcases List.mem_append.mp (show a ∈ keyL new ++ keyL led by simpa [keyL] using hl) with h1 | h1
  ·have : (keyL new ++ keyL news).Nodup := by simpa [keyL] using nd
   exact (List.nodup_append.mp this).2.2 a h1 a (keyL_sub S.kon ha) rfl
  ·exact (S.dis a ha).1 h1, (S.dis a ha).2⟩
 tab := fun P hP => by
  obtain ⟨hn, ps, h, g⟩ := S.tab P hP
  refine ⟨fun hm => ?_, ps, List.mem_append_right _ h, g.mono fun p hp => List.mem_append_right _ hp⟩
  rw [List.map_append] at hm
  rcases List.mem_append.mp hm with h1 | h1
  ·have : (keyL new ++ keyL news).Nodup := by simpa [keyL] using nd
   exact (List.nodup_append.mp this).2.2 P h1 P (zC h) rfl
  ·exact hn h1
 loc := by
  obtain ⟨mm, X⟩ := S.loc
  refine ⟨mm, X.lc, fun x lv e => ?_, X.inj⟩
  obtain ⟨v, V, O, k⟩ := X.at' x lv e
  refine ⟨v, V, O.mono (fun p hp => List.mem_append_right _ hp) (fun a o hm hn _ _ => ⟨List.mem_append_right _ hm, fun hl => ?_⟩), k⟩
  rcases List.mem_append.mp (show a ∈ keyL new ++ keyL led by simpa [keyL] using hl) with h1 | h1
  ·have : (keyL new ++ keyL news).Nodup := by simpa [keyL] using nd
   exact (List.nodup_append.mp this).2.2 a h1 a (zC hm) rfl
  ·exact hn h1
theorem St.apart {env h₀ L h h' m ρ ko led news} {new} (S : St env h₀ L h m ρ ko led news) (F : Fr h₀ L h' m) (N : News h₀ L h' (new ++ news)) (nd : (keyL (new ++ news)).Nodup) :
  St env h₀ L h' m ρ ko led (new ++ news) where
 F := F
 N := N
 nd := nd
 kon := fun p hp => List.mem_append_right _ (S.kon p hp)
 sub := fun p hp => List.mem_append_right _ (S.sub p hp)
 dis := S.dis
 tab := fun P hP => let ⟨hn, ps, h, g⟩ := S.tab P hP; ⟨hn, ps, List.mem_append_right _ h, g⟩
 loc := by
  obtain ⟨mm, X⟩ := S.loc
  refine ⟨mm, X.lc, fun x lv e => ?_, X.inj⟩
  obtain ⟨v, V, O, k⟩ := X.at' x lv e
  exact ⟨v, V, O.mono (fun p hp => hp) (fun a o hm hn _ _ => ⟨List.mem_append_right _ hm, hn⟩), k⟩
noncomputable def Apart (ρ : Loc) (mm : Str -> Option Value) (a : Addr) : Prop := ∀ y lv, fnd y ρ = some lv -> isVal lv = false -> mm y ≠ some (.ref a)
theorem zQ {a o news} (nd : (keyL news).Nodup) (h : ∀ p ∈ news, p.1 < a) : (keyL ([(a, o)] ++ news)).Nodup := by
 show (a :: keyL news).Nodup
 refine List.nodup_cons.mpr ⟨fun hm => ?_, nd⟩
 obtain ⟨p, hp, e⟩ := List.mem_map.mp hm
 exact Nat.lt_irrefl _ (e ▸ h p hp)
theorem zAw {α : Type} {l : List α} {x : α} (h : l.head? = some x) : x ∈ l := by
 cases l with
 | nil => cases h
 | cons y r => cases h; exact .head _
theorem apart_new {env L m ρ ko led news mm} {a} (hko : Inc ko news) (X : Locs env L m ρ ko led news mm) (hf : ∀ p ∈ news, p.1 < a) (hc : ∀ y lv v, fnd y ρ = some lv -> isVal lv = false -> Vw env mm ko y v -> mm y = some v) : Apart ρ mm a := by
 intro y lv e hv hm
 obtain ⟨v, V, O, k⟩ := X.at' y lv e
 have e1 := hc y lv v e hv V
 rw [hm] at e1
 cases e1
 cases lv with
 | val d => cases hv
 | own ds =>
  obtain ⟨a', vs, c, e2, hm', _⟩ := O
  cases e2
  exact Nat.lt_irrefl _ (hf _ hm')
 | obj C ns ds =>
  obtain ⟨a', dx, es, n, vs, e2, hm', _⟩ := O
  cases e2
  exact Nat.lt_irrefl _ (hf _ (hko _ (zAw hm')))
theorem Vw.local {env mm ko x v} (V : Vw env mm ko x v) (h : env.kindOf x = some .local) : mm x = some v := by
 cases V with
 | loc _ e => exact e
 | cel c o hk => rw [h] at hk; rcases hk with q | q <;> cases q
theorem Locs.apart {env L m ρ ko led news mm} {a} (hko : Inc ko news) (X : Locs env L m ρ ko led news mm) (hf : ∀ p ∈ news, p.1 < a) : Apart ρ mm a := by
 refine apart_new hko X hf fun y lv v e hv V => ?_
 obtain ⟨_, _, _, k⟩ := X.at' y lv e
 exact V.local (k hv)
theorem St.share {env h₀ L h m ρ ko led news mm} {a o} (S : St env h₀ L h m ρ ko led news) (X : Locs env L m ρ ko led news mm) (hm : (a, o) ∈ news) (hk : a ∉ keyL ko) (ht : a ∉ tabs) (ha : ∀ y lv, fnd y ρ = some lv -> isVal lv = false -> ∀ v, Vw env mm ko y v -> LvOK led ko news v lv -> LvOK ((a, o) :: led) ko news v lv) :
  St env h₀ L h m ρ ko ((a, o) :: led) news where
 F := S.F
 N := S.N
 nd := S.nd
 kon := S.kon
 sub := fun p hp => (List.mem_cons.mp hp).elim (fun e => e ▸ hm) fun h => S.sub p h
 dis := fun b hb => ⟨fun hl => by
  rcases List.mem_cons.mp (show b ∈ a :: keyL led from hl) with rfl | h1
  ·exact hk hb
  ·exact (S.dis b hb).1 h1, (S.dis b hb).2⟩
 tab := fun P hP => by
  obtain ⟨hn, ps, h, g⟩ := S.tab P hP
  refine ⟨fun hm => ?_, ps, h, g.mono fun p hp => .tail _ hp⟩
  rcases List.mem_cons.mp (show P ∈ a :: led.map (·.1) from hm) with e | h1
  ·exact ht (e ▸ hP)
  ·exact hn h1
 loc := by
  refine ⟨mm, X.lc, fun x lv e => ?_, X.inj⟩
  obtain ⟨v, V, O, k⟩ := X.at' x lv e
  refine ⟨v, V, ?_, k⟩
  cases hq : isVal lv with
  | false => exact ha x lv e hq v V O
  | true =>
   cases lv with
   | val d => exact R.mono (fun p hp => .tail _ hp) O
   | own => cases hq
   | obj => cases hq
theorem zU {a b o l} (h : b ∉ keyL l) (n : b ≠ a) : b ∉ keyL ((a, o) :: l) := by
 intro hl
 rcases List.mem_cons.mp (show b ∈ a :: keyL l from hl) with q | q
 ·exact n q
 ·exact h q
theorem St.shareList {env h₀ L h m ρ ko led news mm} {a} {vs c} (S : St env h₀ L h m ρ ko led news) (X : Locs env L m ρ ko led news mm) (hm : (a, listOf vs c) ∈ news) (hk : a ∉ keyL ko) (ha : Apart ρ mm a) :
  St env h₀ L h m ρ ko ((a, listOf vs c) :: led) news := by
 refine S.share X hm hk (fun ht => ?_) fun y lv e hv v V O => ?_
 ·obtain ⟨_, ps, h, _⟩ := S.tab a ht
  have q := congrArg Obj.cls (zAm S.nd hm h)
  cases q
 have hne : ∀ b, v = .ref b -> b ≠ a := by
  rintro b rfl rfl
  obtain ⟨_, _, _, k⟩ := X.at' y lv e
  exact ha y lv e hv (V.local (k hv))
 cases lv with
 | val d => cases hv
 | own ds =>
  obtain ⟨b, ws, c', e1, h1, r, p, q⟩ := O
  exact ⟨b, ws, c', e1, h1, Rs.mono (fun p hp => .tail _ hp) r, zU p (hne b e1), q⟩
 | obj C ns ds =>
  obtain ⟨b, dx, es, n, ws, e1, h1, h2, ke, ev, r, p2, q2⟩ := O
  refine ⟨b, dx, es, n, ws, e1, h1, h2, ke, ev, Rs.mono (fun p hp => .tail _ hp) r, zU p2 ?_, q2⟩
  rintro rfl
  have q := congrArg Obj.cls (zAm S.nd hm h2)
  simp at q
theorem TabOK.add {led news a o} (t : TabOK led news) (nd : (keyL news).Nodup) (hm : (a, o) ∈ news) (hc : o.cls ≠ (X.tableObj #[]).cls) : TabOK ((a, o) :: led) news := fun P hP => by
 obtain ⟨hn, ps, h, g⟩ := t P hP
 refine ⟨fun hq => ?_, ps, h, g.mono fun p hp => .tail _ hp⟩
 rcases List.mem_cons.mp (show P ∈ a :: led.map (·.1) from hq) with e | h1
 ·subst e
  exact hc ((congrArg Obj.cls (zAm nd hm h)).trans rfl)
 ·exact hn h1
end Mine
end
section
open PySem PySem.W PyProof.Rows PySem.Calls PyProof
set_option Elab.async false
set_option maxRecDepth 100000
set_option linter.all false
set_option genInjectivity false
set_option genSizeOf false
namespace Mine
noncomputable section
noncomputable def Sat {α : Type} (P : α -> Prop) (r : Option α) : Prop := ∀ d, r = some d -> P d
noncomputable def Is {α : Type} (r : Option α) (d : α) : Prop := r = some d
noncomputable def gd {β : Type} (c : Bool) (r : Option β) : Option β := cond c r none
noncomputable def orE {α β : Type} (r : Option α) (f : α -> Option β) (g : Option β) : Option β := r.rec g f
theorem gd_true {β : Type} {c : Bool} {r : Option β} (h : c = true) : gd c r = r := by rw [h]; rfl
section
variable {α β : Type} {P : α -> Prop} {Q : β -> Prop}
theorem Sat.none : Sat Q none := fun _ h => (nnE h).elim
theorem Sat.some {d : β} (h : Q d) : Sat Q (some d) := fun _ e => Option.some.inj e ▸ h
theorem Sat.is {r : Option α} : Sat (Is r) r := fun _ h => h
theorem Sat.bind {r : Option α} {f : α -> Option β} (h : Sat P r) (k : ∀ a, P a -> Sat Q (f a)) : Sat Q (r.bind f) := by
 cases r with
 | none => exact .none
 | some a => exact k a (h a rfl)
theorem Sat.map {r : Option α} {f : α -> β} (h : Sat P r) (k : ∀ a, P a -> Q (f a)) : Sat Q (r.map f) := by
 cases r with
 | none => exact .none
 | some a => exact .some (k a (h a rfl))
theorem Sat.orE {r : Option α} {f : α -> Option β} {g : Option β} (h : Sat P r) (k : ∀ a, P a -> Sat Q (f a)) (l : Sat Q g) : Sat Q (orE r f g) := by
 cases r with
 | none => exact l
 | some a => exact k a (h a rfl)
theorem Sat.cond {c : Bool} {a b : Option β} (h : c = true -> Sat Q a) (k : c = false -> Sat Q b) : Sat Q (cond c a b) := by
 cases c with
 | true => exact h rfl
 | false => exact k rfl
theorem Sat.gd {c : Bool} {r : Option β} (h : c = true -> Sat Q r) : Sat Q (gd c r) := .cond h fun _ => .none
theorem and2 {a b : Bool} {G : Prop} (h : (a && b) = true) (k : a = true -> b = true -> G) : G := by
 cases a with
 | true => exact k rfl h
 | false => cases h
theorem and3 {a b c : Bool} {G : Prop} (h : (a && b && c) = true) (k : a = true -> b = true -> c = true -> G) : G := and2 h fun h => and2 h k
theorem and5 {a b c d e : Bool} {G : Prop} (h : (a && b && c && d && e) = true) (k : a = true -> b = true -> c = true -> d = true -> e = true -> G) : G := and3 h fun h => and3 h k
theorem Sat.gd2 {a b : Bool} {r : Option β} (k : a = true -> b = true -> Sat Q r) : Sat Q (Mine.gd (a && b) r) := .gd fun h => and2 h k
theorem Sat.gd3 {a b c : Bool} {r : Option β} (k : a = true -> b = true -> c = true -> Sat Q r) : Sat Q (Mine.gd (a && b && c) r) := .gd fun h => and3 h k
theorem Sat.gd5 {a b c d e : Bool} {r : Option β} (k : a = true -> b = true -> c = true -> d = true -> e = true -> Sat Q r) : Sat Q (Mine.gd (a && b && c && d && e) r) := .gd fun h => and5 h k
theorem not_t {b : Bool} (h : (!b) = true) : b = false := by
 cases b with
 | false => rfl
 | true => cases h
noncomputable def onI (f : Int -> Option β) : D -> Option β
 | .int i => f i
 | _ => none
noncomputable def onB (f : Bool -> Option β) : D -> Option β
 | .bool i => f i
 | _ => none
noncomputable def onSO (f : Str -> Option β) (g : Nat -> List Str -> List D -> Option β) : D -> Option β
 | .str i => f i
 | .inst C ns ds => g C ns ds
 | _ => none
noncomputable def onLT (f g : List D -> Option β) : D -> Option β
 | .lst i => f i
 | .tup i => g i
 | _ => none
noncomputable def onLV (f : D -> Option β) (g : List D -> Option β) (k : Nat -> List Str -> List D -> Option β) : LV -> Option β
 | .val d => f d
 | .own d => g d
 | .obj C ns ds => k C ns ds
noncomputable def onN (r : Option β) : D -> Option β
 | .none => r
 | _ => none
noncomputable def onP (f : Int -> Option β) (g : Str -> Option β) (k : List UInt8 -> Option β) : D -> Option β
 | .int i => f i
 | .str i => g i
 | .bytes i => k i
 | _ => none
noncomputable def onSLT (f : Str -> Option β) (g k : List D -> Option β) : D -> Option β
 | .str i => f i
 | .lst i => g i
 | .tup i => k i
 | _ => none
noncomputable def i2 (f : Int -> Int -> Option β) (a b : D) : Option β := onI (fun a => onI (f a) b) a
noncomputable def noV {γ : Type} (_ : γ) : Option β := none
noncomputable def noO3 (_ : Nat) (_ : List Str) (_ : List D) : Option β := none
noncomputable def onV (f : Nat -> Option β) (g : String -> Option β) : Value -> Option β
 | .ref a => f a
 | .type t => g t
 | _ => none
variable {P : D -> Prop}
theorem Sat.onSO {f : Str -> Option β} {g : Nat -> List Str -> List D -> Option β} (k : ∀ i, P (.str i) -> Sat Q (f i)) (l : ∀ C ns ds, P (.inst C ns ds) -> Sat Q (g C ns ds)) : ∀ a, P a -> Sat Q (Mine.onSO f g a) := fun d h => by cases d <;> first | exact k _ h | exact l _ _ _ h | exact .none
theorem Sat.onN {P : D -> Prop} {r : Option β} (k : P .none -> Sat Q r) (d : D) (h : P d) : Sat Q (Mine.onN r d) := by cases d <;> first | exact k h | exact .none
theorem Sat.onI {P : D -> Prop} {f : Int -> Option β} (k : ∀ i, P (.int i) -> Sat Q (f i)) (d : D) (h : P d) : Sat Q (Mine.onI f d) := by cases d <;> first | exact k _ h | exact .none
theorem Sat.onB {P : D -> Prop} {f : Bool -> Option β} (k : ∀ i, P (.bool i) -> Sat Q (f i)) (d : D) (h : P d) : Sat Q (Mine.onB f d) := by cases d <;> first | exact k _ h | exact .none
theorem Sat.onP {P : D -> Prop} {f : Int -> Option β} {g : Str -> Option β} {o : List UInt8 -> Option β} (k : ∀ i, P (.int i) -> Sat Q (f i)) (l : ∀ i, P (.str i) -> Sat Q (g i)) (m : ∀ i, P (.bytes i) -> Sat Q (o i)) (d : D) (h : P d) : Sat Q (Mine.onP f g o d) := by cases d <;> first | exact k _ h | exact l _ h | exact m _ h | exact .none
theorem Sat.onSLT {P : D -> Prop} {f : Str -> Option β} {g o : List D -> Option β} (k : ∀ i, P (.str i) -> Sat Q (f i)) (l : ∀ i, P (.lst i) -> Sat Q (g i)) (m : ∀ i, P (.tup i) -> Sat Q (o i)) (d : D) (h : P d) : Sat Q (Mine.onSLT f g o d) := by cases d <;> first | exact k _ h | exact l _ h | exact m _ h | exact .none
theorem Sat.onIx {P : D -> β -> Prop} {f : Int -> Option β} (k : ∀ i, Sat (P (.int i)) (f i)) (d : D) : Sat (P d) (Mine.onI f d) := by cases d <;> first | exact k _ | exact .none
theorem Sat.bI {d : Option D} {f : Int -> Option β} (h : Sat P d) (k : ∀ i, P (.int i) -> Sat Q (f i)) : Sat Q (d.bind (Mine.onI f)) := h.bind (.onI k)
theorem Sat.bB {d : Option D} {f : Bool -> Option β} (h : Sat P d) (k : ∀ i, P (.bool i) -> Sat Q (f i)) : Sat Q (d.bind (Mine.onB f)) := h.bind (.onB k)
theorem Sat.onLTx {P : D -> β -> Prop} {f g : List D -> Option β} (k : ∀ i, Sat (P (.lst i)) (f i)) (l : ∀ i, Sat (P (.tup i)) (g i)) (d : D) : Sat (P d) (Mine.onLT f g d) := by cases d <;> first | exact k _ | exact l _ | exact .none
theorem Sat.onLT {P : D -> Prop} {f g : List D -> Option β} (k : ∀ i, P (.lst i) -> Sat Q (f i)) (l : ∀ i, P (.tup i) -> Sat Q (g i)) (d : D) (h : P d) : Sat Q (Mine.onLT f g d) := fun x e => Sat.onLTx (P := fun a x => P a -> Q x) (fun i x e h => k i h x e) (fun i x e h => l i h x e) d x e h
theorem Sat.onLV {P : LV -> Prop} {f : D -> Option β} {g : List D -> Option β} {o : Nat -> List Str -> List D -> Option β} (k : ∀ i, P (.val i) -> Sat Q (f i)) (l : ∀ i, P (.own i) -> Sat Q (g i)) (m : ∀ C ns ds, P (.obj C ns ds) -> Sat Q (o C ns ds)) : ∀ a, P a -> Sat Q (Mine.onLV f g o a) := fun d h => by
 cases d with
 | val => exact k _ h
 | own => exact l _ h
 | obj => exact m _ _ _ h
noncomputable def orO {α : Type} (a b : Option α) : Option α := Mine.orE a some b
theorem Sat.orO {α : Type} {Q : α -> Prop} {a b : Option α} (h : Sat Q a) (k : Sat Q b) : Sat Q (Mine.orO a b) := .orE h (fun _ h => .some h) k
theorem Sat.onV {P : Value -> Prop} {f : Nat -> Option β} {g : String -> Option β} (k : ∀ i, P (.ref i) -> Sat Q (f i)) (l : ∀ i, P (.type i) -> Sat Q (g i)) : ∀ a, P a -> Sat Q (Mine.onV f g a) := fun d h => by cases d <;> first | exact k _ h | exact l _ h | exact .none
end
inductive FV
 | name (x : Str) (p : Pos)
 | attr (v : Expr) (x : Str) (p : Pos)
 | tup (es : List Expr) (k : Nat) (p : Pos)
 | lst (es : List Expr) (p : Pos)
 | slice (a b c : Option Expr) (p : Pos)
 | call (f : Expr) (es : List Expr) (ks : List Keyword) (p : Pos)
 | other
noncomputable def fv : Expr -> FV
 | .Name x p => .name x p
 | .Attribute v x p => .attr v x p
 | .Tuple es k p => .tup es k p
 | .List es p => .lst es p
 | .Slice a b c p => .slice a b c p
 | .Call f es ks p => .call f es ks p
 | _ => .other
inductive FOK : Expr -> FV -> Prop
 | name {x p} : FOK (.Name x p) (.name x p)
 | attr {v x p} : FOK (.Attribute v x p) (.attr v x p)
 | tup {es k p} : FOK (.Tuple es k p) (.tup es k p)
 | lst {es p} : FOK (.List es p) (.lst es p)
 | slice {a b c p} : FOK (.Slice a b c p) (.slice a b c p)
 | call {f es ks p} : FOK (.Call f es ks p) (.call f es ks p)
 | other {e} : FOK e .other
theorem fv_ok (e : Expr) : FOK e (fv e) := by cases e <;> constructor
section
variable {β : Type}
noncomputable def onName (f : Str -> Pos -> Option β) (e : Expr) : Option β := match fv e with
 | .name x p => f x p
 | _ => none
noncomputable def onTup (f : List Expr -> Nat -> Pos -> Option β) (e : Expr) : Option β := match fv e with
 | .tup x k p => f x k p
 | _ => none
noncomputable def onNA (f : Str -> Pos -> Option β) (g : Expr -> Str -> Pos -> Option β) (k : List Expr -> Nat -> Pos -> Option β) (e : Expr) : Option β := match fv e with
 | .name x p => f x p
 | .attr v x p => g v x p
 | .tup x i p => k x i p
 | _ => none
noncomputable def onCall (f : Expr -> List Expr -> List Keyword -> Pos -> Option β) (e : Expr) : Option β := match fv e with
 | .call a b c d => f a b c d
 | _ => none
noncomputable def isNilE (e : Expr) : Bool := match fv e with
 | .lst es _ => es.isEmpty
 | _ => false
variable {P : Expr -> β -> Prop}
theorem Sat.onNA {f : Str -> Pos -> Option β} {g : Expr -> Str -> Pos -> Option β} {l : List Expr -> Nat -> Pos -> Option β} (h : ∀ x p, Sat (P (.Name x p)) (f x p)) (k : ∀ v x p, Sat (P (.Attribute v x p)) (g v x p)) (m : ∀ v x p, Sat (P (.Tuple v x p)) (l v x p)) (e : Expr) : Sat (P e) (onNA f g l e) := by
 have ok := fv_ok e
 unfold Mine.onNA
 generalize fv e = v at ok
 cases ok <;> first | exact h _ _ | exact k _ _ _ | exact m _ _ _ | exact .none
theorem Sat.onName {f : Str -> Pos -> Option β} (h : ∀ x p, Sat (P (.Name x p)) (f x p)) (e : Expr) : Sat (P e) (onName f e) := by
 have ok := fv_ok e
 unfold Mine.onName
 generalize fv e = v at ok
 cases ok <;> first | exact h _ _ | exact .none
theorem Sat.onTup {f : List Expr -> Nat -> Pos -> Option β} (h : ∀ x k p, Sat (P (.Tuple x k p)) (f x k p)) (e : Expr) : Sat (P e) (onTup f e) := by
 have ok := fv_ok e
 unfold Mine.onTup
 generalize fv e = v at ok
 cases ok <;> first | exact h _ _ _ | exact .none
theorem Sat.onCall {f : Expr -> List Expr -> List Keyword -> Pos -> Option β} (h : ∀ a b c d, Sat (P (.Call a b c d)) (f a b c d)) (e : Expr) : Sat (P e) (onCall f e) := by
 have ok := fv_ok e
 unfold Mine.onCall
 generalize fv e = v at ok
 cases ok <;> first | exact h _ _ _ _ | exact .none
theorem isNilE_ok {P : Prop} {e} (k : ∀ p, e = .List [] p -> P) (h : isNilE e = true) : P := by
 have ok := fv_ok e
 unfold isNilE at h
 generalize fv e = v at ok h
 cases ok with
 | @lst es p =>
  cases es with
  | nil => exact k p rfl
  | cons => cases h
 | _ => cases h
noncomputable def onNil {γ : Type} (r : Option β) : List γ -> Option β
 | [] => r
 | _ => none
theorem Sat.onNil {γ : Type} {P : List γ -> β -> Prop} {r : Option β} (h : Sat (P []) r) (l : List γ) : Sat (P l) (onNil r l) := by
 cases l with
 | nil => exact h
 | cons => exact .none
noncomputable def on012 {γ : Type} (r : Option β) (f : γ -> Option β) (g : γ -> γ -> Option β) : List γ -> Option β
 | [] => r
 | a :: l => match l with
  | [] => f a
  | b :: l => onNil (g a b) l
theorem Sat.on012 {γ : Type} {P : List γ -> β -> Prop} {r : Option β} {f : γ -> Option β} {g : γ -> γ -> Option β} (h : Sat (P []) r) (k : ∀ a, Sat (P [a]) (f a)) (m : ∀ a b, Sat (P [a, b]) (g a b)) (l : List γ) : Sat (P l) (on012 r f g l) := by
 cases l with
 | nil => exact h
 | cons a l =>
  cases l with
  | nil => exact k a
  | cons b l => exact .onNil (P := fun l => P (a :: b :: l)) (m a b) l
noncomputable def onCmp (f : CmpOp -> Expr -> Option β) (g : CmpOp -> CmpOp -> Expr -> Expr -> Option β) (ops : List CmpOp) (rs : List Expr) : Option β :=
 on012 none (fun a => on012 none (f a) (fun _ _ => none) rs) (fun a b => on012 none (fun _ => none) (g a b) rs) ops
theorem Sat.onCmp {P : List CmpOp -> List Expr -> β -> Prop} {f : CmpOp -> Expr -> Option β} {g : CmpOp -> CmpOp -> Expr -> Expr -> Option β} (h : ∀ a r, Sat (P [a] [r]) (f a r)) (k : ∀ a b r s, Sat (P [a, b] [r, s]) (g a b r s)) (ops : List CmpOp) (rs : List Expr) : Sat (P ops rs) (onCmp f g ops rs) :=
 .on012 (P := fun ops => P ops rs) .none (fun a => .on012 (P := P [a]) .none (h a) (fun _ _ => .none) rs) (fun a b => .on012 (P := P [a, b]) .none (fun _ => .none) (k a b) rs) ops
noncomputable def onSl (f g : Expr -> Option β) (e : Expr) : Option β := match fv e with
 | .slice a b c _ => orE c (fun _ => none) (orE a (fun u => orE b (fun _ => none) (g u)) (b.bind f))
 | _ => none
theorem Sat.onSl {f g : Expr -> Option β} (h : ∀ u p, Sat (P (.Slice .none (.some u) .none p)) (f u)) (k : ∀ u p, Sat (P (.Slice (.some u) .none .none p)) (g u)) (e : Expr) : Sat (P e) (onSl f g e) := by
 have ok := fv_ok e
 unfold Mine.onSl
 generalize fv e = v at ok
 cases ok with
 | @slice a b c p =>
  cases c with
  | some => exact .none
  | none => cases a with
   | none => cases b with
    | none => exact .none
    | some => exact h _ _
   | some => cases b with
    | none => exact k _ _
    | some => exact .none
 | _ => exact .none
noncomputable def onGen (f : Expr -> Expr -> List Expr -> Option β) : List Comprehension -> Option β
 | [] => none
 | c :: l => onNil (match c.is_async with
  | 0 => f c.target c.iter c.ifs
  | _ => none) l
theorem Sat.onGen {P : List Comprehension -> β -> Prop} {f : Expr -> Expr -> List Expr -> Option β} (h : ∀ t it ifs, Sat (P [⟨t, it, ifs, 0⟩]) (f t it ifs)) (l : List Comprehension) : Sat (P l) (onGen f l) := by
 cases l with
 | nil => exact .none
 | cons c l =>
  refine .onNil (P := fun l => P (c :: l)) ?_ l
  obtain ⟨t, it, ifs, a⟩ := c
  show Sat _ (match a with | 0 => _ | _ => _)
  split
  ·exact h t it ifs
  ·exact .none
end
noncomputable def on0s {γ β : Type} (r : Option β) (f : γ -> List γ -> Option β) : List γ -> Option β
 | [] => r
 | a :: l => f a l
theorem Sat.on0s {γ β : Type} {P : List γ -> β -> Prop} {r : Option β} {f : γ -> List γ -> Option β} (h : Sat (P []) r) (k : ∀ a l, Sat (P (a :: l)) (f a l)) (l : List γ) : Sat (P l) (on0s r f l) := by
 cases l with
 | nil => exact h
 | cons a l => exact k a l
end
end Mine
end
section
open PySem PySem.W PyProof.Rows PySem.Calls PyProof
set_option Elab.async false
set_option maxRecDepth 100000
set_option linter.all false
namespace Mine
variable [hF : HashFn]
theorem R_none {led} : R led .none .none := show Value.none = .none from rfl
theorem R_bool {led b} : R led (.bool b) (.bool b) := show Value.bool b = .bool b from rfl
theorem R_int {led i t} : R led (.int i) (.int i t) := show ∃ u, Value.int i t = .int i u from ⟨_, rfl⟩
theorem R_str {led i t} : R led (.str i) (.str i t) := show ∃ u, Value.str i t = .str i u from ⟨_, rfl⟩
theorem R_bytes {led i t} : R led (.bytes i) (.bytes i.toArray t) := show ∃ u, Value.bytes i.toArray t = .bytes i.toArray u from ⟨_, rfl⟩
theorem R_at {led a} : R led (.at a) (.ref a) := show Value.ref a = .ref a from rfl
theorem zBd {led b v} (h : R led (.bool b) v) : v = .bool b := h
theorem R_none_inv {led v} (h : R led .none v) : v = .none := h
theorem zS {led i v} (h : R led (.int i) v) : ∃ t, v = .int i t := h
theorem zAf {led i v} (h : R led (.str i) v) : ∃ t, v = .str i t := h
theorem zBz {led i v} (h : R led (.bytes i) v) : ∃ t, v = .bytes i.toArray t := h
noncomputable abbrev zT := List (Str × NameKind)
noncomputable def Kept (env : Env) (h₀ : Heap) (L : Addr) (m : Str -> Option Value) (ρ : Loc) (ko led : Led) (s : Shared) (P : Led -> Value -> Prop) (Q : Value -> Shared -> Prop) : Prop :=
 ∀ v h' tk led' news', St env h₀ L h' m ρ ko led' news' -> Inc led led' -> P led' v -> Q v (sw s h' tk)
noncomputable def EvE (sc : zT) (ρ : Loc) (n : Nat) (e : Expr) (d : D) : Prop :=
 ∀ (prog : Program) (w : World) (A : Around) (env : Env) (h₀ : Heap) (L : Addr) (s : Shared) (m : Str -> Option Value) (ko led news : Led) (Q E : Value -> Shared -> Prop),
  env.scope.names = sc -> Sit w A env h₀ L n -> St env h₀ L s.heap m ρ ko led news -> Kept env h₀ L m ρ ko led s (fun l v => R l d v) Q -> wpAny (model prog w) A (eval e env) Q E s
noncomputable def EvT (sc : zT) (ρ : Loc) (n : Nat) (e : Expr) (b : Bool) : Prop :=
 ∀ (prog : Program) (w : World) (A : Around) (env : Env) (h₀ : Heap) (L : Addr) (s : Shared) (m : Str -> Option Value) (ko led news : Led) (Q : Bool -> Shared -> Prop) (E : Value -> Shared -> Prop),
  env.scope.names = sc -> Sit w A env h₀ L n -> St env h₀ L s.heap m ρ ko led news ->
  (∀ h' tk led' news', St env h₀ L h' m ρ ko led' news' -> Inc led led' -> Q b (sw s h' tk)) -> wpAny (model prog w) A (isTrue e env (eval e env)) Q E s
theorem St.ns {env h₀ L h m ρ ko led news mm} (S : St env h₀ L h m ρ ko led news) (l : Lc env L m ko mm) : h.Ns env.locals mm := by
 cases l with
 | fn e q => rw [e, q]; exact S.F.ns
 | comp oC hm x => exact x.ns (S.N _ (S.kon _ hm)).1
theorem St.look {env h₀ L h m ρ ko led news} (S : St env h₀ L h m ρ ko led news) {x d} (e : fnd x ρ = some (.val d)) : ∃ mm v, Lc env L m ko mm ∧ Vw env mm ko x v ∧ R led d v := by
 obtain ⟨mm, X⟩ := S.loc
 obtain ⟨v, V, O, _⟩ := X.at' x _ e
 exact ⟨mm, v, X.lc, V, O⟩
noncomputable def zM (x : Str) : Bool := !eqS x (Str.ofString "__debug__") && !eqS x (Str.ofString "__classdict__")
theorem ne_of_notDbg {x} (h : zM x = true) : (x == ("__debug__" : Str)) = false ∧ (x == ("__classdict__" : Str)) = false := by
 unfold zM at h
 simp only [Bool.and_eq_true, Bool.not_eq_true', ← Bool.not_eq_true, zW] at h
 constructor
 ·simpa using h.1
 ·simpa using h.2
theorem load_vw {M : Model} {A E s env} {h₀ L m ρ ko led news mm} {x pos v Q} (kd : env.scope.kind = .function)
  (S : St env h₀ L s.heap m ρ ko led news) (l : Lc env L m ko mm) (V : Vw env mm ko x v) (hd : zM x = true) (h : Q v s) : wpAny M A (eval (.Name x pos) env) Q E s := by
 obtain ⟨h1, h2⟩ := ne_of_notDbg hd
 cases V with
 | loc hk e => exact wpAny_Name (wpAny_loadName_local kd hk (S.ns l) e h) h1
 | cel c o hk hc hm hd' =>
  have hi : s.heap.IsCell c (some v) := ⟨o, (S.N _ (S.kon _ hm)).1, hd'⟩
  rcases hk with hk | hk
  ·exact wpAny_Name (wpAny_loadName_cell kd hk hc hi h) h1
  ·exact wpAny_Name (wpAny_loadName_free kd hk hc hi h h2) h1
theorem zJ {sc ρ n x pos d} (e : fnd x ρ = some (.val d)) (hd : zM x = true) : EvE sc ρ n (.Name x pos) d := by
 intro prog w A env h₀ L s m ko led news Q E hs Si S k
 obtain ⟨mm, v, l, V, r⟩ := S.look e
 exact load_vw Si.kd S l V hd (k v s.heap s.toks led news S (fun _ h => h) r)
noncomputable def constD : Const -> Option D
 | .none => some .none
 | .bool b => some (.bool b)
 | .int i => some (.int i)
 | .str x => some (.str x)
 | .bytes b => some (.bytes b)
 | _ => none
theorem zAb {sc ρ n c k pos d} (e : constD c = some d) : EvE sc ρ n (.Constant c k pos) d := by
 intro prog w A env h₀ L s m ko led news Q E hs Si S K
 cases c with
 | none => exact Rows.Constant_none (K _ s.heap s.toks led news S (fun _ h => h) (Option.some.inj e ▸ R_none))
 | bool => exact Rows.Constant_bool (K _ s.heap s.toks led news S (fun _ h => h) (Option.some.inj e ▸ R_bool))
 | int => exact wpAny_Constant_int (K _ s.heap _ led news S (fun _ h => h) (Option.some.inj e ▸ R_int))
 | str => exact Calls.Constant_str (K _ s.heap _ led news S (fun _ h => h) (Option.some.inj e ▸ R_str))
 | bytes => exact Constant_bytes (K _ s.heap _ led news S (fun _ h => h) (Option.some.inj e ▸ R_bytes))
 | _ => cases e
noncomputable def bits64 (i : Int) : Bool := Nat.ble (Builtin.Int.intBits i) 64
noncomputable def small (i : Int) : Bool := Nat.blt i.natAbs (2 ^ 64)
noncomputable def binD (op : Operator) (a b : D) : Option D := match op with
 | .Add => onP (fun a => onI (fun b => some (.int (a + b))) b) (fun x => onSO (fun y => gd (Nat.ble (x.cps.size + y.cps.size) 1000000) (some (.str (x ++ y)))) noO3 b) (fun x => onP noV noV (fun y => gd (Nat.ble (x.length + y.length) 1000000) (some (.bytes (x ++ y)))) b) a
 | .Sub => i2 (fun a b => some (.int (a - b))) a b
 | .Mult => i2 (fun a b => gd (bits64 a || bits64 b) (some (.int (a * b)))) a b
 | .FloorDiv => i2 (fun a b => gd (b != 0 && !Builtin.divisionGoesByPylong a b) (some (.int (a.fdiv b)))) a b
 | .Mod => i2 (fun a b => gd (b != 0) (some (.int (a.fmod b)))) a b
 | .LShift => i2 (fun a b => gd (decide (0 ≤ b) && bits64 a && decide (b ≤ 1000)) (some (.int (a * 2 ^ b.toNat)))) a b
 | .RShift => i2 (fun a b => gd (decide (0 ≤ b)) (some (.int (a.fdiv (2 ^ b.toNat))))) a b
 | .BitAnd => i2 (fun a b => some (.int (Builtin.bitAnd a b))) a b
 | .Pow => i2 (fun a b => gd (decide (0 ≤ b) && decide (b ≤ 1000000) && small a) (some (.int (a ^ b.toNat)))) a b
 | _ => none
theorem small_pow {i : Int} (h : small i = true) : i.natAbs < 2 ^ 64 := by
 have := Nat.le_of_ble_eq_true (show Nat.ble (i.natAbs + 1) (2 ^ 64) = true from h)
 lia
section
variable {prog : Program} {w : World} {A : Around} {E : Value -> Shared -> Prop} {s : Shared} {led : Led} {Q : Value -> Shared -> Prop}
noncomputable def Bn (prog : Program) (w : World) (A : Around) (E : Value -> Shared -> Prop) (s : Shared) (led : Led) (op : Operator) (va vb : Value) (d : D) : Prop :=
 ∀ (Q : Value -> Shared -> Prop), (∀ v tk, R led d v -> Q v { s with toks := tk }) -> wpAny (model prog w) A (binaryOp op va vb) Q E s
theorem i2_ok {op : Operator} {a b va vb} {f : Int -> Int -> Option D} (ra : R led a va) (rb : R led b vb) (k : ∀ i j t u, Sat (Bn prog w A E s led op (.int i t) (.int j u)) (f i j)) : Sat (Bn prog w A E s led op va vb) (i2 f a b) :=
 .onI (P := fun a => R led a va) (fun i h => .onI (P := fun b => R led b vb) (fun j h2 => by
  obtain ⟨t, rfl⟩ := zS h
  obtain ⟨u, rfl⟩ := zS h2
  exact k i j t u) b rb) a ra
theorem str_line {x y : Str} (h : Nat.ble (x.cps.size + y.cps.size) 1000000 = true) : x.length + y.length ≤ sizeLine := Nat.le_trans (Nat.le_of_ble_eq_true h) (show 1000000 ≤ 2 ^ 24 by decide)
theorem lsh_room {i j : Int} (c2 : bits64 i = true) (c3 : decide (j ≤ 1000) = true) : (Builtin.Int.intBits i : Int) + j ≤ 2 ^ 27 :=
 Int.le_trans (Int.add_le_add (Int.ofNat_le.mpr (Nat.le_of_ble_eq_true c2)) (of_decide_eq_true c3)) (by decide)
theorem bin_ok {op : Operator} {a b : D} {va vb : Value} (ra : R led a va) (rb : R led b vb) : Sat (Bn prog w A E s led op va vb) (binD op a b) := by
 cases op with
 | Add => exact .onP (P := fun a => R led a va) (fun i h => .onI (P := fun b => R led b vb) (fun j h2 => by
   obtain ⟨t, rfl⟩ := zS h
   obtain ⟨u, rfl⟩ := zS h2
   exact .some fun Q k => add_int (k _ _ R_int)) b rb) (fun i h => .onSO (P := fun b => R led b vb) (fun j h2 => .gd fun c => by
   obtain ⟨t, rfl⟩ := zAf h
   obtain ⟨u, rfl⟩ := zAf h2
   exact .some fun Q k => SBL.add (fun _ _ _ => k _ _ R_str) (str_line c)) (fun _ _ _ _ => .none) b rb) (fun i h => .onP (P := fun b => R led b vb) (fun _ _ => .none) (fun _ _ => .none) (fun j h2 => .gd fun c => by
   obtain ⟨t, rfl⟩ := zBz h
   obtain ⟨u, rfl⟩ := zBz h2
   refine .some fun Q k => KBy.add_bytes (Nat.le_trans (Nat.le_of_ble_eq_true c) (by decide)) fun _ _ => k _ _ ?_
   rw [List.append_toArray]
   exact R_bytes) b rb) a ra
 | Sub => exact i2_ok ra rb fun i j t u => .some fun Q k => sub_int (k _ _ R_int)
 | Mult => exact i2_ok ra rb fun i j t u => .gd fun c => .some fun Q k => mul_int (k _ _ R_int) ((Bool.or_eq_true_iff.mp c).elim (fun q => .of_left (Nat.le_of_ble_eq_true q)) fun q => .of_right (Nat.le_of_ble_eq_true q))
 | FloorDiv => exact i2_ok ra rb fun i j t u => .gd2 fun c d => .some fun Q k => floordiv_int (bne_iff_ne.mp c) (k _ _ R_int) (.inl (not_t d))
 | Mod => exact i2_ok ra rb fun i j t u => .gd fun c => .some fun Q k => mod_int' (bne_iff_ne.mp c) (k _ _ R_int)
 | LShift => exact i2_ok ra rb fun i j t u => .gd3 fun c1 c2 c3 => .some fun Q k => lshift_int (of_decide_eq_true c1) (lsh_room c2 c3) (k _ _ R_int)
 | RShift => exact i2_ok ra rb fun i j t u => .gd fun c => .some fun Q k => rshift_int (of_decide_eq_true c) (k _ _ R_int)
 | BitAnd => exact i2_ok ra rb fun i j t u => .some fun Q k => and_int (k _ _ R_int)
 | Pow => exact i2_ok ra rb fun i j t u => .gd3 fun c1 c2 c3 => .some fun Q k => pow_int_small (of_decide_eq_true c1) (of_decide_eq_true c2) (small_pow c3) (k _ _ R_int)
 | _ => exact .none
theorem bin_sound {op : Operator} {a b d va vb} (e : binD op a b = some d) (ra : R led a va) (rb : R led b vb) (h : ∀ v tk, R led d v -> Q v { s with toks := tk }) :
  wpAny (model prog w) A (binaryOp op va vb) Q E s := bin_ok ra rb d e Q h
end
end Mine
end
section
open PySem PySem.W PyProof.Rows PySem.Calls PyProof PySem.SeqAt
set_option Elab.async false
set_option maxRecDepth 100000
set_option linter.all false
namespace Mine
variable [hF : HashFn]
noncomputable section
mutual
noncomputable def eqD : Nat -> D -> D -> Option Bool
 | _, .none, b => onN (some true) b
 | _, .bool x, b => onB (fun y => some (x == y)) b
 | _, .int x, b => onI (fun y => some (x == y)) b
 | _, .str x, b => onP noV (fun y => some (eqS x y)) noV b
 | _, .bytes x, b => onP noV noV (fun y => some (x == y)) b
 | n, .tup x, b => onLT noV (fun y => n.rec none fun m _ => eqDs m x y) b
 | n, .lst x, b => onLT (fun y => n.rec none fun m _ => eqDs m x y) noV b
 | _, .any, _ => none
 | _, .at _, _ => none
 | _, .inst _ _ _, _ => none
 | _, .dict _ _, _ => none
noncomputable def eqDs : Nat -> List D -> List D -> Option Bool
 | _, [], ys => some ys.isEmpty
 | n, a :: r, ys => ys.rec (some false) fun b t _ => (eqD n a b).bind fun x => (eqDs n r t).map fun y => x && y
end
theorem arr_inj {α : Type} {a b : List α} (h : a.toArray = b.toArray) : a = b := congrArg Array.toList h
theorem eqS_beq {a b} : eqS a b = (a == b) := by
 rw [Bool.eq_iff_iff, zW, beq_iff_eq]
inductive EqK (led : Led) (n : Nat) : Value -> Value -> Bool -> Prop
 | none : EqK led n .none .none true
 | bool (a b : Bool) : EqK led n (.bool a) (.bool b) (a == b)
 | int (a b : Int) (t u : Tok) : EqK led n (.int a t) (.int b u) (a == b)
 | str (a b : Str) (t u : Tok) : EqK led n (.str a t) (.str b u) (a == b)
 | bytes (a b : List UInt8) (t u : Tok) : EqK led n (.bytes a.toArray t) (.bytes b.toArray u) (a == b)
 | tup {m : Nat} {l l' vs vs' xs ys} {e : Bool} : n = m + 1 -> (l, tupOf vs) ∈ led -> (l', tupOf vs') ∈ led -> Rs led xs vs -> Rs led ys vs' -> eqDs m xs ys = some e -> EqK led n (.ref l) (.ref l') e
 | lst {m : Nat} {l l'} {c c' : Nat} {vs vs' xs ys} {e : Bool} : n = m + 1 -> (l, listOf vs.toArray c) ∈ led -> (l', listOf vs'.toArray c') ∈ led -> Rs led xs vs -> Rs led ys vs' -> eqDs m xs ys = some e -> EqK led n (.ref l) (.ref l') e
theorem R_tup_inv {led xs v} (h : R led (.tup xs) v) : ∃ l vs, v = .ref l ∧ (l, tupOf vs) ∈ led ∧ Rs led xs vs := h
theorem R_lst_inv {led xs v} (h : R led (.lst xs) v) : ∃ l vs c, v = .ref l ∧ (l, listOf vs.toArray c) ∈ led ∧ Rs led xs vs := h
theorem eqD_k {led} {n : Nat} {a b va vb} (ra : R led a va) (rb : R led b vb) : Sat (EqK led n va vb) (eqD n a b) := by
 cases a with
 | none => exact .onN (P := fun b => R led b vb) (fun h => by
   rw [R_none_inv ra, R_none_inv h]
   exact .some .none) b rb
 | bool x => exact .onB (P := fun b => R led b vb) (fun y h => by
   rw [zBd ra, zBd h]
   exact .some (.bool _ _)) b rb
 | int x => exact .onI (P := fun b => R led b vb) (fun y h => by
   obtain ⟨t, rfl⟩ := zS ra
   obtain ⟨u, rfl⟩ := zS h
   exact .some (.int _ _ _ _)) b rb
 | str x => exact .onP (P := fun b => R led b vb) (fun _ _ => .none) (fun y h => by
   obtain ⟨t, rfl⟩ := zAf ra
   obtain ⟨u, rfl⟩ := zAf h
   rw [eqS_beq]
   exact .some (.str _ _ _ _)) (fun _ _ => .none) b rb
 | bytes x => exact .onP (P := fun b => R led b vb) (fun _ _ => .none) (fun _ _ => .none) (fun y h => by
   obtain ⟨t, rfl⟩ := zBz ra
   obtain ⟨u, rfl⟩ := zBz h
   exact .some (.bytes _ _ _ _)) b rb
 | tup x => exact .onLT (P := fun b => R led b vb) (fun _ _ => .none) (fun y h => by
   obtain ⟨l, vs, rfl, m1, r1⟩ := R_tup_inv ra
   obtain ⟨l', vs', rfl, m2, r2⟩ := R_tup_inv h
   cases n with
   | zero => exact .none
   | succ m => exact fun e q => .tup rfl m1 m2 r1 r2 q) b rb
 | lst x => exact .onLT (P := fun b => R led b vb) (fun y h => by
   obtain ⟨l, vs, c, rfl, m1, r1⟩ := R_lst_inv ra
   obtain ⟨l', vs', c', rfl, m2, r2⟩ := R_lst_inv h
   cases n with
   | zero => exact .none
   | succ m => exact fun e q => .lst rfl m1 m2 r1 r2 q) (fun _ _ => .none) b rb
 | _ => exact .none
theorem fuel {M : Nat -> Prop} (h : ∀ n, (∀ m, n = m + 1 -> M m) -> M n) : ∀ n, M n
 | 0 => h 0 fun m q => nomatch q
 | n + 1 => h _ fun m q => Nat.succ.inj q ▸ fuel h n
theorem eqDs_step {n : Nat} {a b r t} {M : Bool -> Prop} (k : ∀ x y, eqD n a b = some x -> eqDs n r t = some y -> M (x && y)) : Sat M (eqDs n (a :: r) (b :: t)) :=
 .bind .is fun x e1 => .map .is fun y e2 => k x y e1 e2
theorem eqD_same {led} (nd : (keyL led).Nodup) : ∀ n {a b v} {e : Bool}, R led a v -> R led b v -> eqD n a b = some e -> e = true := by
 refine fuel fun n ih a b v e ra rb h => ?_
 have ls : ∀ m, n = m + 1 -> ∀ {xs ys vs} {e : Bool}, Rs led xs vs -> Rs led ys vs -> eqDs m xs ys = some e -> e = true := by
  intro m hm xs
  induction xs with
  | nil => intro ys vs e r1 r2 h; obtain rfl : _ = [] := r1; cases ys with
   | nil => exact (Option.some.inj h).symm
   | cons => obtain ⟨_, _, q, _⟩ := r2; cases q
  | cons x xs ihx => intro ys vs e r1 r2 h; obtain ⟨u, us, rfl, r1, r1'⟩ := r1; cases ys with
   | nil => exact nomatch r2
   | cons y ys =>
    obtain ⟨_, _, q, r2, r2'⟩ := r2
    obtain ⟨rfl, rfl⟩ := List.cons.inj q
    exact eqDs_step (M := fun e => e = true) (fun x y e1 e2 => by rw [ih m hm r1 r2 e1, ihx r1' r2' e2]; rfl) e h
 have k : ∀ w, EqK led n v w e -> v = w -> e = true := by
  intro w k hw
  cases k with
  | none => rfl
  | bool => cases hw; exact beq_self_eq_true _
  | int => cases hw; exact beq_self_eq_true _
  | str => cases hw; exact beq_self_eq_true _
  | bytes =>
   have := arr_inj (Value.bytes.inj hw).1
   subst this
   exact beq_self_eq_true _
  | tup q m1 m2 r1 r2 h =>
   cases hw
   have := arr_inj (Data.seq.inj (congrArg Obj.data (zAm nd m1 m2))).1
   subst this
   exact ls _ q r1 r2 h
  | lst q m1 m2 r1 r2 h =>
   cases hw
   have := arr_inj (Data.seq.inj (congrArg Obj.data (zAm nd m1 m2))).1
   subst this
   exact ls _ q r1 r2 h
 exact k v (eqD_k ra rb e h) rfl
theorem Rs.at_ {led} : ∀ {xs vs}, Rs led xs vs -> ∀ j (h : j < vs.toArray.size), ∃ x, xs[j]? = some x ∧ R led x vs.toArray[j]
 | [], vs, r, j, h => by obtain rfl : _ = [] := r; exact absurd h (Nat.not_lt_zero _)
 | x :: xs, vs, r, j, h => by
  obtain ⟨v, t, rfl, r1, r2⟩ := r
  cases j with
  | zero => exact ⟨x, rfl, r1⟩
  | succ j => exact Rs.at_ r2 j (Nat.lt_of_succ_lt_succ h)
noncomputable def pairD (n : Nat) (xs ys : List D) (j : Nat) : Bool := match xs[j]?, ys[j]? with
 | some x, some y => (eqD n x y).getD false
 | _, _ => false
theorem eqDs_all {n : Nat} : ∀ {xs ys}, Sat (fun e => ((List.range (min xs.length ys.length)).all (pairD n xs ys) && xs.length == ys.length) = e) (eqDs n xs ys)
 | [], [] => .some rfl
 | [], _ :: _ => .some (by simp)
 | _ :: _, [] => .some (by simp)
 | a :: r, b :: t => eqDs_step fun p q e1 e2 => by
  rw [← eqDs_all q e2, List.length_cons, List.length_cons, Nat.succ_min_succ, List.range_succ_eq_map, List.all_cons, List.all_map]
  have e0 : pairD n (a :: r) (b :: t) 0 = p := by simp [pairD, e1]
  rw [e0, Bool.and_assoc]
  have : (pairD n (a :: r) (b :: t) ∘ Nat.succ) = pairD n r t := rfl
  rw [this]
  simp
theorem eqDs_pair {n : Nat} : ∀ {xs ys} (j : Nat) {x y}, Sat (fun _ => xs[j]? = some x -> ys[j]? = some y -> eqD n x y = some (pairD n xs ys j)) (eqDs n xs ys)
 | a :: r, b :: t, 0, x, y => eqDs_step fun p q e1 e2 hx hy => by
  cases hx; cases hy
  rw [e1]
  show _ = some ((eqD n x y).getD false)
  rw [e1]
  rfl
 | a :: r, b :: t, j + 1, x, y => eqDs_step fun p q e1 e2 => eqDs_pair (xs := r) (ys := t) j q e2
 | [], _, _, _, _ => fun _ _ h => by cases h
 | _ :: _, [], _, _, _ => fun _ _ _ h => by cases h
theorem pair_all {n : Nat} {led xs ys vs vs'} {e : Bool} (r1 : Rs led xs vs) (r2 : Rs led ys vs') (h : eqDs n xs ys = some e) : ((List.range (min vs.toArray.size vs'.toArray.size)).all (pairD n xs ys) && vs.toArray.size == vs'.toArray.size) = e := by
 rw [List.size_toArray, List.size_toArray, ← Rs.length r1, ← Rs.length r2]
 exact eqDs_all e h
theorem EqAt.bytes_bytes {A s} (a b : Array UInt8) (t u : Tok) : EqAt A s (.bytes a t) (.bytes b u) (a.toList == b.toList) := fun prog w E Q h => by
 unfold eqBool
 refine wpAny_holding ?_
 refine wpAny_ite_split (fun hab => ?_) (fun _ => ?_)
 ·have e := eq_of_beq hab
  injection e with e1 e2
  subst e1
  exact wpAny_bind (wpAny_rule (wpAny_pure (by simpa using h)))
 ·exact wpAny_bind (W.eq_bytes (wpAny_truthy_bool h))
section
variable {led : Led} {s : Shared} (H : ∀ p ∈ led, s.heap.get? p.1 = some p.2)
include H
theorem tup_in {l vs} (m : (l, tupOf vs) ∈ led) : s.heap.IsTuple l vs.toArray := ⟨_, H _ m, rfl, _, rfl⟩
theorem lst_in {l : Addr} {vs : List Value} {c : Nat} (m : (l, listOf vs.toArray c) ∈ led) : s.heap.IsList l vs.toArray := ⟨_, H _ m, rfl, _, rfl⟩
omit H
noncomputable def AtL (led : Led) (s : Shared) (n : Nat) : Prop := ∀ (A : Around) {xs ys vs vs'} {e : Bool}, Rs led xs vs -> Rs led ys vs' -> eqDs n xs ys = some e -> A.units + n < cLine -> ∀ j (j1 : j < vs.toArray.size) (j2 : j < vs'.toArray.size), EqAt A s vs.toArray[j] vs'.toArray[j] (pairD n xs ys j)
include H
theorem rc_k {n : Nat} {A : Around} {va vb : Value} {e : Bool} (hl : ∀ m, n = m + 1 -> AtL led s m) (hu : A.units + n < cLine) (k : EqK led n va vb e) : RcAt A s va vb e := by
 have u := Nat.lt_of_le_of_lt (Nat.le_add_right _ _) hu
 have u1 : ∀ m, n = m + 1 -> A.units + 1 + m < cLine := fun m q => by rw [Nat.add_assoc, Nat.add_comm 1, ← q]; exact hu
 cases k with
 | none => exact RcAt.none_none
 | bool => exact RcAt.bool_bool _ _
 | int => exact RcAt.int_int _ _ _ _
 | str => exact RcAt.str_str _ _ _ _
 | bytes => exact fun prog w E Q hq => W.eq_bytes hq
 | tup q m1 m2 r1 r2 h => exact pair_all r1 r2 h ▸ RcAt.tuples (tup_in H m1) (tup_in H m2) u (hl _ q A.in1 r1 r2 h (u1 _ q))
 | @lst m l l' c c' vs vs' xs ys e q m1 m2 r1 r2 h =>
  have g := pair_all r1 r2 h
  cases hs : vs.toArray.size == vs'.toArray.size with
  | true =>
   rw [hs, ← eq_of_beq hs, Nat.min_self, Bool.and_true] at g
   exact g ▸ RcAt.lists (lst_in H m1) (lst_in H m2) (eq_of_beq hs) u (hl _ q A.in1 r1 r2 h (u1 _ q))
  | false =>
   rw [hs, Bool.and_false] at g
   exact g ▸ RcAt.lists_lengths (lst_in H m1) (lst_in H m2) (by rw [bne, hs]; rfl) u
theorem ne_k {n : Nat} {A : Around} {va vb : Value} {e : Bool} (hl : ∀ m, n = m + 1 -> AtL led s m) (hu : A.units + n < cLine) (k : EqK led n va vb e) : RcNeAt A s va vb (!e) := by
 have u := Nat.lt_of_le_of_lt (Nat.le_add_right _ _) hu
 have u1 : ∀ m, n = m + 1 -> A.units + 1 + m < cLine := fun m q => by rw [Nat.add_assoc, Nat.add_comm 1, ← q]; exact hu
 cases k with
 | none => exact RcNeAt.none_none
 | bool => exact RcNeAt.bool_bool _ _
 | int => exact RcNeAt.int_int _ _ _ _
 | str => exact RcNeAt.str_str _ _ _ _
 | bytes => exact fun prog w E Q hq => W.ne_bytes hq
 | tup q m1 m2 r1 r2 h => exact pair_all r1 r2 h ▸ RcNeAt.tuples (tup_in H m1) (tup_in H m2) u (hl _ q A.in1 r1 r2 h (u1 _ q))
 | @lst m l l' c c' vs vs' xs ys e q m1 m2 r1 r2 h =>
  have g := pair_all r1 r2 h
  cases hs : vs.toArray.size == vs'.toArray.size with
  | true =>
   rw [hs, ← eq_of_beq hs, Nat.min_self, Bool.and_true] at g
   exact g ▸ RcNeAt.lists (lst_in H m1) (lst_in H m2) (eq_of_beq hs) u (hl _ q A.in1 r1 r2 h (u1 _ q))
  | false =>
   rw [hs, Bool.and_false] at g
   exact g ▸ RcNeAt.lists_lengths (lst_in H m1) (lst_in H m2) (by rw [bne, hs]; rfl) u
theorem eqD_atF (nd : (keyL led).Nodup) : ∀ n (A : Around) {a b va vb} {e : Bool}, R led a va -> R led b vb -> eqD n a b = some e -> A.units + n < cLine -> EqAt A s va vb e := by
 refine fuel fun n ih A a b va vb e ra rb h hu => ?_
 have hl : ∀ m, n = m + 1 -> AtL led s m := fun m q A xs ys vs vs' e r1 r2 h hu j j1 j2 => by
  obtain ⟨x, hx, rx⟩ := Rs.at_ r1 j j1
  obtain ⟨y, hy, ry⟩ := Rs.at_ r2 j j2
  exact ih m q A rx ry (eqDs_pair j e h hx hy) hu
 have k := eqD_k ra rb e h
 by_cases q : va = vb
 ·subst q
  rw [eqD_same nd n ra rb h]
  exact EqAt.same _
 ·have rc := rc_k H hl hu k
  cases k with
  | none => exact EqAt.same _
  | bool => exact EqAt.bool_bool _ _
  | int => exact EqAt.int_int _ _ _ _
  | str => exact EqAt.str_str _ _ _ _
  | bytes => exact EqAt.bytes_bytes _ _ _ _
  | tup => exact EqAt.of_refs (fun e => q (by rw [e])) rc
  | lst => exact EqAt.of_refs (fun e => q (by rw [e])) rc
theorem eqD_at (nd : (keyL led).Nodup) {n : Nat} {a b va vb} {e : Bool} {A} (ra : R led a va) (rb : R led b vb) (h : eqD n a b = some e) (hu : A.units + n < cLine) : EqAt A s va vb e := eqD_atF H nd n A ra rb h hu
theorem atL (nd : (keyL led).Nodup) (m : Nat) : AtL led s m := fun A xs ys vs vs' e r1 r2 h hu j j1 j2 => by
 obtain ⟨x, hx, rx⟩ := Rs.at_ r1 j j1
 obtain ⟨y, hy, ry⟩ := Rs.at_ r2 j j2
 exact eqD_atF H nd m A rx ry (eqDs_pair j e h hx hy) hu
end
noncomputable def intsOf : List D -> Option (List Int)
 | [] => some []
 | d :: r => onI (fun i => (intsOf r).map (i :: ·)) d
noncomputable def strsOf : List D -> Option (List Str)
 | [] => some []
 | d :: r => onP noV (fun i => (strsOf r).map (i :: ·)) noV d
theorem Rs_nil_inv {led vs} (h : Rs led [] vs) : vs = [] := h
theorem Rs_cons_inv {led d ds vs} (h : Rs led (d :: ds) vs) : ∃ v t, vs = v :: t ∧ R led d v ∧ Rs led ds t := h
theorem ints_are {led} : ∀ {ds vs}, Rs led ds vs -> Sat (IntsAre vs) (intsOf ds)
 | [], vs, r => by rw [Rs_nil_inv r]; exact .some .nil
 | d :: ds, vs, r => by
  obtain ⟨v, t, rfl, a, b⟩ := Rs_cons_inv r
  exact .onI (P := fun d => R led d v) (fun i h => .map (ints_are b) fun q e => by
   obtain ⟨u, rfl⟩ := zS h
   exact .cons _ _ e) d a
theorem strs_are {led} : ∀ {ds vs}, Rs led ds vs -> Sat (StrsAre vs) (strsOf ds)
 | [], vs, r => by rw [Rs_nil_inv r]; exact .some .nil
 | d :: ds, vs, r => by
  obtain ⟨v, t, rfl, a, b⟩ := Rs_cons_inv r
  exact .onP (P := fun d => R led d v) (fun _ _ => .none) (fun i h => .map (strs_are b) fun q e => by
   obtain ⟨u, rfl⟩ := zAf h
   exact .cons _ _ e) (fun _ _ => .none) d a
noncomputable def inInts (k : Int) (ns : List Int) : Bool := ns.any (· == k)
noncomputable def inStrs (k : Str) : List Str -> Bool
 | [] => false
 | x :: r => eqS x k || inStrs k r
theorem inStrs_eq {k l} : l.any (· == k) = inStrs k l := by
 induction l with
 | nil => rfl
 | cons x r ih => rw [List.any_cons, ih, inStrs, eqS_beq]
noncomputable def inD (x : D) (ds : List D) : Option Bool := onP (fun k => (intsOf ds).map (inInts k)) (fun k => (strsOf ds).map (inStrs k)) noV x
noncomputable def inTs (k : List Int) : List D -> Option Bool
 | [] => some false
 | d :: r => onLT noV (fun ks => (intsOf ks).bind fun ns => (inTs k r).map fun b => ns == k || b) d
noncomputable def inL (x : D) (ds : List D) : Option Bool := orO (onLT noV (fun ks => (intsOf ks).bind fun k => inTs k ds) x) (inD x ds)
noncomputable def isNoneD : D -> Option Bool
 | .none => some true
 | .any => none
 | _ => some false
noncomputable def cmpD (op : CmpOp) (a b : D) : Option Bool := match op with
 | .Eq => eqD 4 a b
 | .NotEq => (eqD 4 a b).map not
 | .Lt => i2 (fun a b => some (decide (a < b))) a b
 | .LtE => i2 (fun a b => some (decide (a ≤ b))) a b
 | .Gt => i2 (fun a b => some (decide (b < a))) a b
 | .GtE => i2 (fun a b => some (decide (b ≤ a))) a b
 | .Is => onN (isNoneD a) b
 | .IsNot => onN ((isNoneD a).map not) b
 | .In => onSLT (fun x => onSO (fun y => some !(Builtin.Str.occurrences x y 0 x.length 1).isEmpty) noO3 a) (inL a) (inD a) b
 | .NotIn => onLT (fun ds => (inL a ds).map not) (fun ds => (inD a ds).map not) b
section
variable {prog : Program} {w : World} {A : Around} {E : Value -> Shared -> Prop} {s : Shared} {led : Led}
theorem inD_ok {X : Value -> Bool -> Prop} {vs ds x vx} (r : Rs led ds vs) (rx : R led x vx) (hi : ∀ k t ns, IntsAre vs ns -> X (.int k t) (inInts k ns)) (hs : ∀ k t ns, StrsAre vs ns -> X (.str k t) (ns.any (· == k))) : Sat (X vx) (inD x ds) :=
 .onP (P := fun x => R led x vx) (fun k h => .map (ints_are r) fun ns e => by
  obtain ⟨t, rfl⟩ := zS h
  exact hi k t ns e) (fun k h => .map (strs_are r) fun ns e => by
  obtain ⟨t, rfl⟩ := zAf h
  rw [← inStrs_eq]
  exact hs k t ns e) (fun _ _ => .none) x rx
theorem intsOf_map : ∀ {ks}, Sat (fun ns => ks = ns.map D.int) (intsOf ks)
 | [] => .some rfl
 | d :: r => .onIx (P := fun d (ns : List Int) => d :: r = ns.map D.int) (fun i => .map intsOf_map fun ns e => by rw [e]; rfl) d
theorem eqDs_ints {n : Nat} : ∀ (a b : List Int), eqDs n (a.map D.int) (b.map D.int) = some (a == b)
 | [], [] => rfl
 | [], b :: r => rfl
 | a :: r, [] => rfl
 | a :: r, b :: t => by
  show ((eqDs n (r.map D.int) (t.map D.int)).map fun y => (a == b) && y) = _
  rw [eqDs_ints r t]
  rfl
open Classical in
theorem inTs_at (H : ∀ p ∈ led, s.heap.get? p.1 = some p.2) {k : List Int} {vx} (nd : (keyL led).Nodup) (hu : A.units + 4 < cLine) (rx : R led (.tup (k.map D.int)) vx) : ∀ {ds vs}, Rs led ds vs -> Sat (fun b =>
  (∀ y, y ∈ vs -> EqAt A.in1 s y vx (decide (R led (.tup (k.map D.int)) y))) ∧ vs.any (fun y => decide (R led (.tup (k.map D.int)) y)) = b) (inTs k ds)
 | [], vs, r => by rw [Rs_nil_inv r]; exact .some ⟨fun y hy => (nomatch hy), rfl⟩
 | d :: ds, vs, r => by
  obtain ⟨v, t, rfl, r1, r2⟩ := Rs_cons_inv r
  refine .onLT (P := fun d => R led d v) (fun _ _ => .none) (fun ks r1 => .bind intsOf_map fun ns e1 => .map (inTs_at H nd hu rx r2) fun b' h => ?_) d r1
  subst e1
  have he : eqD 2 (.tup (ns.map D.int)) (.tup (k.map D.int)) = some (ns == k) := eqDs_ints _ _
  have hd : decide (R led (.tup (k.map D.int)) v) = (ns == k) := by
   by_cases q : ns = k
   ·subst q
    rw [decide_eq_true r1, beq_self_eq_true]
   ·rw [beq_false_of_ne q]
    exact decide_eq_false fun rk => q (eq_of_beq (eqD_same nd 2 r1 rk he))
  rw [List.any_cons, h.2, hd]
  refine ⟨fun y hy => ?_, rfl⟩
  rcases List.mem_cons.mp hy with rfl | hy
  ·rw [hd]
   exact eqD_at H nd r1 rx he (Nat.lt_of_le_of_lt (Nat.add_le_add_left (by decide : 1 + 2 ≤ 4) A.units) hu)
  ·exact h.1 y hy
theorem none_sound {a va} {b : Bool} (ra : R led a va) (e : isNoneD a = some b) : plainIs va .none = true ∧ (va == .none) = b := by
 cases a <;> first | exact (nnE e).elim | obtain rfl := Option.some.inj e
 ·obtain rfl : va = .none := ra; exact ⟨rfl, rfl⟩
 ·obtain rfl : va = .ref _ := ra; exact ⟨rfl, rfl⟩
 ·obtain rfl : va = .bool _ := ra; exact ⟨rfl, rfl⟩
 ·obtain ⟨_, rfl⟩ := ra; exact ⟨rfl, rfl⟩
 ·obtain ⟨_, rfl⟩ := ra; exact ⟨rfl, rfl⟩
 ·obtain ⟨_, rfl⟩ := ra; exact ⟨rfl, rfl⟩
 ·obtain ⟨_, _, rfl, _⟩ := ra; exact ⟨rfl, rfl⟩
 ·obtain ⟨_, _, _, rfl, _⟩ := ra; exact ⟨rfl, rfl⟩
 ·obtain ⟨_, _, _, _, _, rfl, _⟩ := ra; exact ⟨rfl, rfl⟩
 ·obtain ⟨_, _, _, _, rfl, _⟩ := ra; exact ⟨rfl, rfl⟩
noncomputable def Cm (prog : Program) (w : World) (A : Around) (E : Value -> Shared -> Prop) (s : Shared) (op : CmpOp) (va vb : Value) (c : Bool) : Prop := ∀ (Q : Value -> Shared -> Prop), Q (.bool c) s -> wpAny (model prog w) A (compareOp op va vb) Q E s
theorem inL_ok {X : Value -> Bool -> Prop} {vs ds x vx} (H : ∀ p ∈ led, s.heap.get? p.1 = some p.2) (nd : (keyL led).Nodup) (hu : A.units + 4 < cLine) (r : Rs led ds vs) (rx : R led x vx) (hi : ∀ k t ns, IntsAre vs ns -> X (.int k t) (inInts k ns)) (hs : ∀ k t ns, StrsAre vs ns -> X (.str k t) (ns.any (· == k)))
  (ht : ∀ p : Value -> Bool, (∀ y, y ∈ vs -> EqAt A.in1 s y vx (p y)) -> X vx (vs.any p)) : Sat (X vx) (inL x ds) :=
 .orO (.onLT (P := fun x => R led x vx) (fun _ _ => .none) (fun ks h => .bind intsOf_map fun k e b hb => by
  subst e
  obtain ⟨h1, h2⟩ := inTs_at H nd hu h r b hb
  exact h2 ▸ ht _ h1) x rx) (inD_ok r rx hi hs)
theorem i2c_ok {op : CmpOp} {a b va vb} {f : Int -> Int -> Option Bool} (ra : R led a va) (rb : R led b vb) (k : ∀ i j t u, Sat (Cm prog w A E s op (.int i t) (.int j u)) (f i j)) : Sat (Cm prog w A E s op va vb) (i2 f a b) :=
 .onI (P := fun a => R led a va) (fun i h => .onI (P := fun b => R led b vb) (fun j h2 => by
  obtain ⟨t, rfl⟩ := zS h
  obtain ⟨u, rfl⟩ := zS h2
  exact k i j t u) b rb) a ra
theorem cmp_ok {op : CmpOp} {a b va vb} (nd : (keyL led).Nodup) (H : ∀ p ∈ led, s.heap.get? p.1 = some p.2) (hu : A.units + 4 < cLine) (ra : R led a va) (rb : R led b vb) : Sat (Cm prog w A E s op va vb) (cmpD op a b) := by
 cases op with
 | Eq => exact fun e h Q hq => rc_k H (fun m _ => atL H nd m) hu (eqD_k ra rb e h) prog w E Q hq
 | NotEq => exact .map (eqD_k ra rb) fun e k Q hq => ne_k H (fun m _ => atL H nd m) hu k prog w E Q hq
 | Lt => exact i2c_ok ra rb fun i j t u => .some fun Q h => lt_int h
 | LtE => exact i2c_ok ra rb fun i j t u => .some fun Q h => le_int h
 | Gt => exact i2c_ok ra rb fun i j t u => .some fun Q h => gt_int h
 | GtE => exact i2c_ok ra rb fun i j t u => .some fun Q h => ge_int h
 | Is => exact .onN (P := fun b => R led b vb) (fun h => by
   rw [R_none_inv h]
   intro c e Q hq
   obtain ⟨h1, h2⟩ := none_sound ra e
   exact wpAny_is_plain h1 (by rw [h2]; exact hq)) b rb
 | IsNot => exact .onN (P := fun b => R led b vb) (fun h => .map .is fun c e Q hq => by
   rw [R_none_inv h]
   obtain ⟨h1, h2⟩ := none_sound ra e
   exact wpAny_isNot_plain h1 (by rw [h2]; exact hq)) b rb
 | In => exact .onSLT (P := fun b => R led b vb) (fun x h => .onSO (P := fun a => R led a va) (fun y h2 => by
   obtain ⟨t, rfl⟩ := zAf h
   obtain ⟨u, rfl⟩ := zAf h2
   exact .some fun Q hq => Rows.in_str hq) (fun _ _ _ _ => .none) a ra) (fun ds h => by
   obtain ⟨l, vs, c, rfl, m1, r⟩ := R_lst_inv h
   have i := lst_in H m1
   exact inL_ok (X := fun vx b => Cm prog w A E s .In vx (.ref l) b) H nd hu r ra (fun k t ns e Q hq => in_list_ints i e hq) (fun k t ns e Q hq => in_list_strs i e hq) fun p e Q hq => in_listAt _ i (fun y hy => e y (Array.mem_toArray.mp hy)) (by rw [List.any_toArray]; exact hq)) (fun ds h => by
   obtain ⟨l, vs, rfl, m1, r⟩ := R_tup_inv h
   exact inD_ok (X := fun vx b => Cm prog w A E s .In vx (.ref l) b) r ra (fun k t ns e Q hq => in_tuple_ints (tup_in H m1) e hq) fun k t ns e Q hq => in_tuple_strs (tup_in H m1) e hq) b rb
 | NotIn => exact .onLT (P := fun b => R led b vb) (fun ds h => by
   obtain ⟨l, vs, c, rfl, m1, r⟩ := R_lst_inv h
   have i := lst_in H m1
   exact .map (inL_ok (X := fun vx b => Cm prog w A E s .NotIn vx (.ref l) !b) H nd hu r ra (fun k t ns e Q hq => notin_list_ints i e hq) (fun k t ns e Q hq => notin_list_strs i e hq) fun p e Q hq => notIn_listAt _ i (fun y hy => e y (Array.mem_toArray.mp hy)) (by rw [List.any_toArray]; exact hq)) fun _ h => h) (fun ds h => by
   obtain ⟨l, vs, rfl, m1, r⟩ := R_tup_inv h
   exact .map (inD_ok (X := fun vx b => Cm prog w A E s .NotIn vx (.ref l) !b) r ra (fun k t ns e Q hq => notin_tuple_ints (tup_in H m1) e hq) fun k t ns e Q hq => notin_tuple_strs (tup_in H m1) e hq) fun _ h => h) b rb
theorem zBv {op : CmpOp} {a b va vb} {c : Bool} {Q} (nd : (keyL led).Nodup) (H : ∀ p ∈ led, s.heap.get? p.1 = some p.2) (hu : A.units + 4 < cLine)
  (e : cmpD op a b = some c) (ra : R led a va) (rb : R led b vb) (h : Q (.bool c) s) : wpAny (model prog w) A (compareOp op va vb) Q E s := cmp_ok nd H hu ra rb c e Q h
end
end
end Mine
end
section
open PySem PySem.W PyProof.Rows PySem.Calls PyProof PySem.SeqAt
set_option Elab.async false
set_option maxRecDepth 100000
set_option linter.all false
namespace Mine
variable [hF : HashFn]
theorem EvE.up {sc ρ n k e d} (h : EvE sc ρ n e d) (hk : n ≤ k) : EvE sc ρ k e d :=
 fun prog w A env h₀ L s m ko led news Q E hs Si S K => h prog w A env h₀ L s m ko led news Q E hs (Si.le hk) S K
theorem EvT.up {sc ρ n k e d} (h : EvT sc ρ n e d) (hk : n ≤ k) : EvT sc ρ k e d :=
 fun prog w A env h₀ L s m ko led news Q E hs Si S K => h prog w A env h₀ L s m ko led news Q E hs (Si.le hk) S K
theorem St.held {env h₀ L h m ρ ko led news} (S : St env h₀ L h m ρ ko led news) : ∀ p ∈ led, h.get? p.1 = some p.2 := fun p hp => (S.N p (S.sub p hp)).1
theorem Sit.u4 {w A env h₀ L n} (S : Sit w A env h₀ L (n + 1)) : A.units + 4 < cLine := S.u0 4 rfl
theorem ev_bin {sc ρ n l op r pos a b d} (h1 : EvE sc ρ n l a) (h2 : EvE sc ρ n r b) (e : binD op a b = some d) : EvE sc ρ n (.BinOp l op r pos) d := by
 intro prog w A env h₀ L s m ko led news Q E hs Si S K
 refine wpAny_BinOp (h1 prog w A env h₀ L s m ko led news _ E hs Si S fun v h' tk led' news' S' i ra => ?_)
 refine h2 prog w A env h₀ L _ m ko led' news' _ E hs Si S' fun v2 h2' tk2 led2 news2 S2 i2 rb => ?_
 exact bin_sound e (R.mono i2 ra) rb fun v3 tk3 r3 => K v3 h2' tk3 led2 news2 S2 (Inc.trans i i2) r3
theorem zBg {op : CmpOp} {r} (h : (match r with | .Set .. => false | _ => true) = true) : behindInMarks op r = false := by
 cases r <;> first | rfl | cases h
noncomputable def zBe (r : Expr) : Bool := match r with
 | .Set .. => false
 | _ => true
theorem ev_cmp1 {sc ρ n l op r pos a b c} (hn : zBe r = true) (h1 : EvE sc ρ (n + 1) l a) (h2 : EvE sc ρ (n + 1) r b) (e : cmpD op a b = some c) : EvE sc ρ (n + 1) (.Compare l [op] [r] pos) (.bool c) := by
 intro prog w A env h₀ L s m ko led news Q E hs Si S K
 refine wpAny_Compare1 (h1 prog w A env h₀ L s m ko led news _ E hs Si S fun v h' tk led' news' S' i ra => ?_) (zBg hn)
 refine h2 prog w A env h₀ L _ m ko led' news' _ E hs Si S' fun v2 h2' tk2 led2 news2 S2 i2 rb => ?_
 exact zBv (led := news2) S2.nd (fun p hp => (S2.N p hp).1) Si.u4 e (R.mono (fun p hp => S2.sub p (i2 p hp)) ra) (R.mono S2.sub rb) (K _ h2' tk2 led2 news2 S2 (Inc.trans i i2) R_bool)
theorem evT_cmp1 {sc ρ n l op r pos a b c} (hn : zBe r = true) (h1 : EvE sc ρ (n + 1) l a) (h2 : EvE sc ρ (n + 1) r b) (e : cmpD op a b = some c) : EvT sc ρ (n + 1) (.Compare l [op] [r] pos) c := by
 intro prog w A env h₀ L s m ko led news Q E hs Si S K
 refine wpAny_isTrue_Compare1 (h1 prog w A env h₀ L s m ko led news _ E hs Si S fun v h' tk led' news' S' i ra => ?_) (zBg hn)
 refine h2 prog w A env h₀ L _ m ko led' news' _ E hs Si S' fun v2 h2' tk2 led2 news2 S2 i2 rb => ?_
 exact zBv (led := news2) S2.nd (fun p hp => (S2.N p hp).1) Si.u4 e (R.mono (fun p hp => S2.sub p (i2 p hp)) ra) (R.mono S2.sub rb) (wpAny_truthy_bool (K h2' tk2 led2 news2 S2 (Inc.trans i i2)))
theorem ev_cmp2 {sc ρ n l op op' r r' pos a b c x y} (hn : zBe r' = true) (h1 : EvE sc ρ (n + 1) l a) (h2 : EvE sc ρ (n + 1) r b) (e : cmpD op a b = some x)
  (h3 : x = true -> EvE sc ρ (n + 1) r' c ∧ cmpD op' b c = some y) : EvE sc ρ (n + 1) (.Compare l [op, op'] [r, r'] pos) (.bool (x && y)) := by
 intro prog w A env h₀ L s m ko led news Q E hs Si S K
 refine Compare_chain (h1 prog w A env h₀ L s m ko led news _ E hs Si S fun v h' tk led' news' S' i ra => ?_) (zBg hn)
 refine chain_link (h2 prog w A env h₀ L _ m ko led' news' _ E hs Si S' fun v2 h2' tk2 led2 news2 S2 i2 rb => ?_)
 refine zBv (led := news2) S2.nd (fun p hp => (S2.N p hp).1) Si.u4 e (R.mono (fun p hp => S2.sub p (i2 p hp)) ra) (R.mono S2.sub rb) (wpAny_truthy_bool ?_)
 cases x with
 | false => exact K _ h2' tk2 led2 news2 S2 (Inc.trans i i2) R_bool
 | true =>
  obtain ⟨h3, e3⟩ := h3 rfl
  refine chain_last (h3 prog w A env h₀ L _ m ko led2 news2 _ E hs Si S2 fun v3 h3' tk3 led3 news3 S3 i3 rc => ?_)
  exact zBv (led := news3) S3.nd (fun p hp => (S3.N p hp).1) Si.u4 e3 (R.mono (fun p hp => S3.sub p (i3 p hp)) rb) (R.mono S3.sub rc) (K _ h3' tk3 led3 news3 S3 (Inc.trans i (Inc.trans i2 i3)) (by first | exact R_bool | (show R led3 (.bool (true && y)) _; rw [Bool.true_and]; exact R_bool)))
theorem evT_cmp2 {sc ρ n l op op' r r' pos a b c x y} (hn : zBe r' = true) (h1 : EvE sc ρ (n + 1) l a) (h2 : EvE sc ρ (n + 1) r b) (e : cmpD op a b = some x)
  (h3 : x = true -> EvE sc ρ (n + 1) r' c ∧ cmpD op' b c = some y) : EvT sc ρ (n + 1) (.Compare l [op, op'] [r, r'] pos) (x && y) := by
 intro prog w A env h₀ L s m ko led news Q E hs Si S K
 refine isTrue_chain (h1 prog w A env h₀ L s m ko led news _ E hs Si S fun v h' tk led' news' S' i ra => ?_) (zBg hn)
 refine test_link (h2 prog w A env h₀ L _ m ko led' news' _ E hs Si S' fun v2 h2' tk2 led2 news2 S2 i2 rb => ?_)
 refine zBv (led := news2) S2.nd (fun p hp => (S2.N p hp).1) Si.u4 e (R.mono (fun p hp => S2.sub p (i2 p hp)) ra) (R.mono S2.sub rb) (wpAny_truthy_bool ?_)
 cases x with
 | false => exact K h2' tk2 led2 news2 S2 (Inc.trans i i2)
 | true =>
  obtain ⟨h3, e3⟩ := h3 rfl
  refine test_last (h3 prog w A env h₀ L _ m ko led2 news2 _ E hs Si S2 fun v3 h3' tk3 led3 news3 S3 i3 rc => ?_)
  exact zBv (led := news3) S3.nd (fun p hp => (S3.N p hp).1) Si.u4 e3 (R.mono (fun p hp => S3.sub p (i3 p hp)) rb) (R.mono S3.sub rc) (wpAny_truthy_bool (by have := K h3' tk3 led3 news3 S3 (Inc.trans i (Inc.trans i2 i3)); rw [Bool.true_and] at this; exact this))
theorem evT_and_nil {sc ρ n pos} : EvT sc ρ n (.BoolOp .And [] pos) true :=
 fun prog w A env h₀ L s m ko led news Q E hs Si S K => isTrue_and_nil (K s.heap s.toks led news S fun _ h => h)
theorem evT_or_nil {sc ρ n pos} : EvT sc ρ n (.BoolOp .Or [] pos) false :=
 fun prog w A env h₀ L s m ko led news Q E hs Si S K => isTrue_or_nil (K s.heap s.toks led news S fun _ h => h)
theorem evT_and {sc ρ n x rest pos a b} (h1 : EvT sc ρ n x a) (h2 : a = true -> EvT sc ρ n (.BoolOp .And rest pos) b) : EvT sc ρ n (.BoolOp .And (x :: rest) pos) (a && b) := by
 intro prog w A env h₀ L s m ko led news Q E hs Si S K
 refine isTrue_and (h1 prog w A env h₀ L s m ko led news _ E hs Si S fun h' tk led' news' S' i => ?_)
 cases a with
 | false => exact K h' tk led' news' S' i
 | true => exact h2 rfl prog w A env h₀ L _ m ko led' news' _ E hs Si S' fun h2' tk2 led2 news2 S2 i2 => K h2' tk2 led2 news2 S2 (Inc.trans i i2)
theorem evT_or {sc ρ n x rest pos a b} (h1 : EvT sc ρ n x a) (h2 : a = false -> EvT sc ρ n (.BoolOp .Or rest pos) b) : EvT sc ρ n (.BoolOp .Or (x :: rest) pos) (a || b) := by
 intro prog w A env h₀ L s m ko led news Q E hs Si S K
 refine isTrue_or (h1 prog w A env h₀ L s m ko led news _ E hs Si S fun h' tk led' news' S' i => ?_)
 cases a with
 | true => exact K h' tk led' news' S' i
 | false => exact h2 rfl prog w A env h₀ L _ m ko led' news' _ E hs Si S' fun h2' tk2 led2 news2 S2 i2 => K h2' tk2 led2 news2 S2 (Inc.trans i i2)
theorem ev_bool1 {sc ρ n op x pos d} (h : EvE sc ρ n x d) : EvE sc ρ n (.BoolOp op [x] pos) d :=
 fun prog w A env h₀ L s m ko led news Q E hs Si S K => BoolOp_one (h prog w A env h₀ L s m ko led news Q E hs Si S K)
theorem ev_and {sc ρ n x y rest pos a d} (h1 : EvE sc ρ n x (.bool a)) (h2 : a = true -> EvE sc ρ n (.BoolOp .And (y :: rest) pos) d) (h3 : a = false -> d = .bool false) : EvE sc ρ n (.BoolOp .And (x :: y :: rest) pos) d := by
 intro prog w A env h₀ L s m ko led news Q E hs Si S K
 refine BoolOp_and (h1 prog w A env h₀ L s m ko led news _ E hs Si S fun v h' tk led' news' S' i r => ?_)
 rw [zBd r]
 refine wpAny_truthy_bool ?_
 cases a with
 | false => rw [h3 rfl] at K; exact K _ h' tk led' news' S' i R_bool
 | true => exact h2 rfl prog w A env h₀ L _ m ko led' news' _ E hs Si S' fun v2 h2' tk2 led2 news2 S2 i2 => K v2 h2' tk2 led2 news2 S2 (Inc.trans i i2)
theorem ev_or {sc ρ n x y rest pos a d} (h1 : EvE sc ρ n x (.bool a)) (h2 : a = false -> EvE sc ρ n (.BoolOp .Or (y :: rest) pos) d) (h3 : a = true -> d = .bool true) : EvE sc ρ n (.BoolOp .Or (x :: y :: rest) pos) d := by
 intro prog w A env h₀ L s m ko led news Q E hs Si S K
 refine BoolOp_or (h1 prog w A env h₀ L s m ko led news _ E hs Si S fun v h' tk led' news' S' i r => ?_)
 rw [zBd r]
 refine wpAny_truthy_bool ?_
 cases a with
 | true => rw [h3 rfl] at K; exact K _ h' tk led' news' S' i R_bool
 | false => exact h2 rfl prog w A env h₀ L _ m ko led' news' _ E hs Si S' fun v2 h2' tk2 led2 news2 S2 i2 => K v2 h2' tk2 led2 news2 S2 (Inc.trans i i2)
theorem evT_not {sc ρ n x pos a} (h : EvT sc ρ n x a) : EvT sc ρ n (.UnaryOp .Not x pos) (!a) :=
 fun prog w A env h₀ L s m ko led news Q E hs Si S K => isTrue_not (h prog w A env h₀ L s m ko led news _ E hs Si S fun h' tk led' news' S' i => K h' tk led' news' S' i)
theorem ev_not {sc ρ n x pos a} (h : EvE sc ρ n x (.bool a)) : EvE sc ρ n (.UnaryOp .Not x pos) (.bool (!a)) := by
 intro prog w A env h₀ L s m ko led news Q E hs Si S K
 refine UnaryOp_ (h prog w A env h₀ L s m ko led news _ E hs Si S fun v h' tk led' news' S' i r => ?_)
 rw [zBd r]
 exact not_of (wpAny_truthy_bool (K _ h' tk led' news' S' i R_bool))
theorem ev_neg {sc ρ n x pos a} (h : EvE sc ρ n x (.int a)) : EvE sc ρ n (.UnaryOp .USub x pos) (.int (-a)) := by
 intro prog w A env h₀ L s m ko led news Q E hs Si S K
 refine UnaryOp_ (h prog w A env h₀ L s m ko led news _ E hs Si S fun v h' tk led' news' S' i r => ?_)
 obtain ⟨t, rfl⟩ := zS r
 exact neg_int (K _ h' _ led' news' S' i R_int)
theorem ev_if {sc ρ n t x y pos c d} (h1 : EvT sc ρ n t c) (h2 : EvE sc ρ n (if c then x else y) d) : EvE sc ρ n (.IfExp t x y pos) d := by
 intro prog w A env h₀ L s m ko led news Q E hs Si S K
 refine IfExp_ (h1 prog w A env h₀ L s m ko led news _ E hs Si S fun h' tk led' news' S' i => ?_)
 cases c with
 | true => exact h2 prog w A env h₀ L _ m ko led' news' _ E hs Si S' fun v2 h2' tk2 led2 news2 S2 i2 => K v2 h2' tk2 led2 news2 S2 (Inc.trans i i2)
 | false => exact h2 prog w A env h₀ L _ m ko led' news' _ E hs Si S' fun v2 h2' tk2 led2 news2 S2 i2 => K v2 h2' tk2 led2 news2 S2 (Inc.trans i i2)
noncomputable def plainTest (e : Expr) : Bool := match e with
 | .Name .. | .Call .. | .Attribute .. | .Constant .. | .Subscript .. => true
 | _ => false
theorem evT_plain {sc ρ n e b} (hp : plainTest e = true) (h : EvE sc ρ n e (.bool b)) : EvT sc ρ n e b := by
 intro prog w A env h₀ L s m ko led news Q E hs Si S K
 have h0 := h prog w A env h₀ L s m ko led news (fun v s₁ => wpAny (model prog w) A (truthy v) Q E s₁) E hs Si S fun v h' tk led' news' S' i r => by
  rw [zBd r]; exact wpAny_truthy_bool (K h' tk led' news' S' i)
 cases e <;> first | (cases hp; done) | exact isTrue_plain h0
end Mine
end
section
open PySem PySem.W PyProof.Rows PySem.Calls PyProof
set_option Elab.async false
set_option maxRecDepth 100000
set_option maxHeartbeats 0
set_option linter.all false
namespace Mine
noncomputable section
noncomputable def FnR.ok (r : FnR) (P : Params) : Prop := (KW P).lookup r.f = some (fnO r.st r.qual r.dV r.pm (.ref r.cdv)) ∧ codeIn (KW P) (.ref r.cdv) (Str.ofString r.qual) = true
theorem code_ok (P : Params) : zAk.all (fun r => codeIn (KW P) (.ref r.cdv) (Str.ofString r.qual)) = true := by rfl'
theorem fn_ok (P : Params) (r : FnR) (h : r ∈ zAk) : r.ok P := ⟨lk_mem (nd_ok P) (List.mem_append_right _ (kf_mem h)), List.all_eq_true.mp (code_ok P) r h⟩
theorem inT (i : Nat) {r} (h : zAk[i]? = some r) : r ∈ zAk := List.mem_of_getElem? h
theorem mem_fn36 : r36 ∈ zAk := inT 0 (by rfl')
theorem mem_fn122 : r122 ∈ zAk := inT 7 (by rfl')
theorem mem_fn199 : r199 ∈ zAk := inT 17 (by rfl')
theorem mem_fn268 : r268 ∈ zAk := inT 21 (by rfl')
theorem mem_fn296 : r296 ∈ zAk := inT 22 (by rfl')
theorem mem_fn681 : r681 ∈ zAk := inT 49 (by rfl')
theorem mem_fn688 : r688 ∈ zAk := inT 50 (by rfl')
theorem mem_fn829 : r829 ∈ zAk := inT 56 (by rfl')
theorem mem_fn855 : r855 ∈ zAk := inT 58 (by rfl')
theorem mem_fn862 : r862 ∈ zAk := inT 59 (by rfl')
theorem mem_fn904 : r904 ∈ zAk := inT 64 (by rfl')
theorem mem_fn909 : r909 ∈ zAk := inT 65 (by rfl')
theorem mem_fn924 : r924 ∈ zAk := inT 67 (by rfl')
theorem mem_fn931 : r931 ∈ zAk := inT 68 (by rfl')
theorem mem_fn936 : r936 ∈ zAk := inT 69 (by rfl')
theorem mem_fn943 : r943 ∈ zAk := inT 70 (by rfl')
theorem mem_fn950 : r950 ∈ zAk := inT 71 (by rfl')
theorem mem_fn955 : r955 ∈ zAk := inT 72 (by rfl')
theorem mem_fn962 : r962 ∈ zAk := inT 73 (by rfl')
theorem mem_fn969 : r969 ∈ zAk := inT 74 (by rfl')
theorem mem_fn974 : r974 ∈ zAk := inT 75 (by rfl')
theorem mem_fn988 : r988 ∈ zAk := inT 76 (by rfl')
theorem mem_fn1000 : r1000 ∈ zAk := inT 77 (by rfl')
theorem mem_fn1140 : r1140 ∈ zAk := inT 87 (by rfl')
theorem mem_fn1147 : r1147 ∈ zAk := inT 88 (by rfl')
theorem mem_fn1152 : r1152 ∈ zAk := inT 89 (by rfl')
theorem mem_fn1159 : r1159 ∈ zAk := inT 90 (by rfl')
theorem mem_fn1164 : r1164 ∈ zAk := inT 91 (by rfl')
theorem mem_fn1171 : r1171 ∈ zAk := inT 92 (by rfl')
theorem mem_fn1178 : r1178 ∈ zAk := inT 93 (by rfl')
theorem mem_fn1185 : r1185 ∈ zAk := inT 94 (by rfl')
noncomputable abbrev S' (x : String) : Str := Str.ofString x
noncomputable def gTab : List (Str × Value) := gl3.map fun e => (Str.ofString e.k, e.v)
noncomputable def bTab : List (Str × Value) := [(S' "len", .builtin "len"), (S' "int", .type "int"), (S' "bytes", .type "bytes"), (S' "tuple", .type "tuple"), (S' "list", .type "list"), (S' "sorted", .builtin "sorted"), (S' "range", .type "range"), (S' "enumerate", .type "enumerate"), (S' "zip", .type "zip"), (S' "isinstance", .builtin "isinstance"), (S' "str", .type "str"), (S' "abs", .builtin "abs"), (S' "sum", .builtin "sum"), (S' "Exception", .type "Exception")]
theorem g_ok (P : Params) : gTab.all (fun p => nsIn (KW P) mainGlobals p.1 == some (some p.2)) = true := by rfl'
theorem b_ok (P : Params) : bTab.all (fun p => nsIn (KW P) mainGlobals p.1 == some none && bootBuiltins p.1 == some p.2 && p.1 != S' "__name__") = true := by rfl'
noncomputable def atTab : List (Nat × List Str) := [(257, [S' "name", S' "kinds", S' "opcode", S' "escape", S' "digit", S' "size", S' "must", S' "is_wide", S' "number", S' "places"]), (355, [S' "kind", S' "register"]), (389, [S' "kind", S' "worth", S' "name"]), (442, [S' "kind", S' "base", S' "index", S' "scale", S' "worth", S' "size", S' "segment", S' "name"]), (495, [S' "name", S' "operands", S' "prefix"]), (614, [S' "mod", S' "rm", S' "sib", S' "disp_width", S' "x", S' "b"]), (769, [S' "segment", S' "is_data", S' "repeat", S' "is_lock", S' "rex"]), (837, [S' "octets", S' "fixups", S' "form", S' "shape"]), (1045, [S' "forms", S' "by_name", S' "by_code"]), (1101, [S' "name", S' "kind", S' "number", S' "size"])]
noncomputable def chkAt (K : Frag) (C : Nat) (x : Str) : Bool := plainGet K C x && (findIn K (.ref C) x).any (noGet K) && takerIn K C x == some none
noncomputable def chkCls (K : Frag) (C : Nat) : Bool := hasDictIn K C && findIn K (.ref C) (S' "__setattr__") == some (some (.builtin "object.__setattr__")) && plainOver K C && makesIn K C
theorem and3p {a b c : Bool} (h : (a && b && c) = true) : (a = true ∧ b = true) ∧ c = true := let h := Bool.and_eq_true_iff.mp h; ⟨Bool.and_eq_true_iff.mp h.1, h.2⟩
theorem and4p {a b c d : Bool} (h : (a && b && c && d) = true) : ((a = true ∧ b = true) ∧ c = true) ∧ d = true := let h := Bool.and_eq_true_iff.mp h; ⟨and3p h.1, h.2⟩
theorem chk_c {K} {C : Nat} (h : chkCls K C = true) : ((hasDictIn K C = true ∧ findIn K (.ref C) (S' "__setattr__") = some (some (.builtin "object.__setattr__"))) ∧ plainOver K C = true) ∧ makesIn K C = true := let h := and4p h; ⟨⟨⟨h.1.1.1, beq_iff_eq.mp h.1.1.2⟩, h.1.2⟩, h.2⟩
theorem chk_a {K} {C : Nat} {x} (h : chkAt K C x = true) : (plainGet K C x = true ∧ ∃ a, findIn K (.ref C) x = some a ∧ noGet K a = true) ∧ takerIn K C x = some none := by
 have h := and3p h
 refine ⟨⟨h.1.1, ?_⟩, beq_iff_eq.mp h.2⟩
 have q := h.1.2
 cases e : findIn K (.ref C) x with
 | none =>
  rw [e] at q
  exact nomatch q
 | some a =>
  rw [e] at q
  exact ⟨a, rfl, q⟩
theorem at_all (P : Params) : atTab.all (fun p => chkCls (KW P) p.1 && p.2.all (chkAt (KW P) p.1)) = true := by rfl'
theorem at_ok (P : Params) : ∀ p ∈ atTab, (chkCls (KW P) p.1 && p.2.all (chkAt (KW P) p.1)) = true := List.all_eq_true.mp (at_all P)
noncomputable def meTab : List (Nat × Str × Nat) := [(257, S' "slots", 226), (257, S' "has_plus", 240), (442, S' "is_rip", 432), (614, S' "told", 590), (614, S' "length", 611), (769, S' "octets", 766), (837, S' "length", 829), (1045, S' "find", 1000), (1101, S' "code", 1070), (1101, S' "is_extended", 1077), (1101, S' "needs_rex", 1091), (1101, S' "told", 1098)]
theorem me_ok (P : Params) : meTab.all (fun p => plainGet (KW P) p.1 p.2.1 && findIn (KW P) (.ref p.1) p.2.1 == some (some (.ref p.2.2)) && isFn (KW P) (.ref p.2.2)) = true := by rfl'
noncomputable def inTab : List (Nat × Nat) := [(257, 212), (355, 338), (389, 372), (442, 406), (495, 459), (614, 583), (769, 731), (837, 822), (1045, 988), (1101, 1063)]
theorem in_ok (P : Params) : inTab.all (fun p => findIn (KW P) (.ref p.1) (S' "__init__") == some (some (.ref p.2)) && isFn (KW P) (.ref p.2) && keepIn (KW P) (.ref p.1) && makesIn (KW P) p.1) = true := by rfl'
theorem keep_ok (P : Params) : zAk.all (fun r => keepIn (KW P) (.ref r.f)) = true := by rfl'
structure OpI (K : Frag) : Prop where
 sp : specialIn K (.ref 320) (S' "__getattribute__") = some (some (.builtin "type.__getattribute__"))
 ty : typeIn K (.ref 320) = some (.type "type")
 rd : readsIn K 320 (.type "type") = true
 fc : findCls K (.ref 320) (.type "type") (S' "__init__") = some (.val (.ref 296))
theorem op_init (P : Params) : OpI (KW P) := ⟨by rfl', by rfl', by rfl', by rfl'⟩
theorem hd_680 (P : Params) : codeHdIn (KW P) 680 676 = true := by rfl'
theorem hd_954 (P : Params) : codeHdIn (KW P) 954 952 = true := by rfl'
end
end Mine
end
section
open PySem PySem.W PyProof.Rows PySem.Calls PyProof PySem.SeqAt
set_option Elab.async false
set_option maxRecDepth 100000
set_option linter.all false
namespace Mine
variable [hF : HashFn]
noncomputable section
theorem zAc {α : Type} {x} : ∀ {l : List (Str × α)}, l.lookup x = fnd x l
 | [] => rfl
 | (y, v) :: r => by
  rw [List.lookup_cons, fnd, ← zAc, eqS_beq]
  cases x == y <;> rfl
theorem fnd_mem {α : Type} {x} {v : α} : ∀ {l : List (Str × α)}, fnd x l = some v -> (x, v) ∈ l
 | [], h => nomatch h
 | (y, w) :: r, h => by
  unfold fnd at h
  split at h
  ·rename_i q
   obtain rfl := zW.mp q
   cases h
   exact .head _
  ·exact .tail _ (fnd_mem h)
noncomputable def zZ (sc : zT) (x : Str) : Bool := match fnd x sc with
 | some .globalImplicit => true
 | _ => false
theorem kind_of {env : Env} {sc : zT} {x : Str} (hs : env.scope.names = sc) : env.kindOf x = fnd x sc := by
 show env.scope.names.lookup x = _
 rw [hs, zAc]
theorem glob_kind {env : Env} {sc : zT} {x : Str} (hs : env.scope.names = sc) (h : zZ sc x = true) : env.kindOf x = some .globalImplicit := by
 rw [kind_of hs]
 unfold zZ at h
 split at h <;> first | assumption | cases h
theorem nameG_B {M : Model} {A E s h₀ L m env K mg mb p loose x pos v Q} (F : Fr h₀ L s.heap m) (X : K.In h₀) (T : TopRead p loose mg mb h₀)
  (e : nsIn K mainGlobals x = some none) (hv : bootBuiltins x = some v) (hn : x ≠ "__name__") (h : Q v s) (hg : env.globals = mainGlobals) (hb : env.builtins = builtinsNs) (hk : env.scope.kind = .function) (hx : env.kindOf x = some .globalImplicit) (hd : (x == ("__debug__" : Str)) = false) :
  wpAny M A (eval (.Name x pos) env) Q E s :=
 Name_function_global hk hx (loadGlobal_builtin (env := env) (by rw [hg]; exact T.g.keeps F.keep) (mg_none_of X T.g e) (by rw [hb]; exact T.b.keeps F.keep) ((T.builtins x hn).trans hv) h) hd
section
variable {prog : Program} {w : World} {A : Around} {E : Value -> Shared -> Prop} {s : Shared} {env : Env} {h₀ : Heap} {L n : Nat} {m : Str -> Option Value} {ρ : Loc} {ko led news : Led} {Q : Value -> Shared -> Prop} {sc : zT}
theorem zBl {x : Str} {pos : Pos} {v : Value} (hs : env.scope.names = sc) (Si : Sit w A env h₀ L n) (S : St env h₀ L s.heap m ρ ko led news) (hk : zZ sc x = true) (hd : zM x = true) (e : fnd x gTab = some v) (h : Q v s) :
  wpAny (model prog w) A (eval (.Name x pos) env) Q E s := by
 obtain ⟨mean, mg, mb, T⟩ := Si.T
 have e1 := List.all_eq_true.mp (g_ok w.params) _ (fnd_mem e)
 exact nameG_K S.F Si.X (topRead_of T) (beq_iff_eq.mp e1) h Si.gl Si.kd (glob_kind hs hk) (ne_of_notDbg hd).1
theorem zAl {x : Str} {pos : Pos} {v : Value} (hs : env.scope.names = sc) (Si : Sit w A env h₀ L n) (S : St env h₀ L s.heap m ρ ko led news) (hk : zZ sc x = true) (hd : zM x = true) (e : fnd x bTab = some v) (h : Q v s) :
  wpAny (model prog w) A (eval (.Name x pos) env) Q E s := by
 obtain ⟨mean, mg, mb, T⟩ := Si.T
 have e1 := List.all_eq_true.mp (b_ok w.params) _ (fnd_mem e)
 simp only [Bool.and_eq_true, bne_iff_ne] at e1
 exact nameG_B S.F Si.X (topRead_of T) (beq_iff_eq.mp e1.1.1) (beq_iff_eq.mp e1.1.2) e1.2 h Si.gl Si.bl Si.kd (glob_kind hs hk) (ne_of_notDbg hd).1
end
noncomputable def litD : Value -> Option D
 | .int i _ => some (.int i)
 | .str x _ => some (.str x)
 | _ => none
theorem ev_glob {sc ρ n x pos v d} (hk : zZ sc x = true) (hd : zM x = true) (e : fnd x gTab = some v) (el : litD v = some d) : EvE sc ρ n (.Name x pos) d := by
 intro prog w A env h₀ L s m ko led news Q E hs Si S K
 refine zBl hs Si S hk hd e (K v s.heap s.toks led news S (fun _ h => h) ?_)
 cases v with
 | int => exact Option.some.inj el ▸ R_int
 | str => exact Option.some.inj el ▸ R_str
 | _ => cases el
noncomputable def zP (e : Expr) : Bool := match e with
 | .Starred .. => false
 | _ => true
theorem zB {e rest env} (h : zP e = true) : starEach (e :: rest) env = (false, eval e env) :: starEach rest env := by
 cases e <;> first | rfl | cases h
theorem zAa {env} : ∀ {es}, es.all zP = true -> (starEach es env).any (·.1) = false
 | [], _ => rfl
 | e :: es, h => by
  simp only [List.all_cons, Bool.and_eq_true] at h
  rw [zB h.1]
  simp only [List.any_cons, Bool.false_or]
  exact zAa h.2
noncomputable def EvL (sc : zT) (ρ : Loc) (n : Nat) (es : List Expr) (ds : List D) : Prop :=
 ∀ (prog : Program) (w : World) (A : Around) (env : Env) (h₀ : Heap) (L : Addr) (s : Shared) (m : Str -> Option Value) (ko led news : Led) (Q : List Value -> Shared -> Prop) (E : Value -> Shared -> Prop) (pos : Pos),
  env.scope.names = sc -> Sit w A env h₀ L n -> St env h₀ L s.heap m ρ ko led news -> (∀ vs h' tk led' news', St env h₀ L h' m ρ ko led' news' -> Inc led led' -> Rs led' ds vs -> Q vs (sw s h' tk)) ->
  wpAny (model prog w) A (spliced (backTo pos (starEach es env))) Q E s
theorem zO {sc ρ n} : EvL sc ρ n [] [] :=
 fun prog w A env h₀ L s m ko led news Q E pos hs Si S K => args_nil (K [] s.heap s.toks led news S (fun _ h => h) Rs.nil)
theorem zH {sc ρ n e es d ds} (hn : zP e = true) (h1 : EvE sc ρ n e d) (h2 : EvL sc ρ n es ds) : EvL sc ρ n (e :: es) (d :: ds) := by
 intro prog w A env h₀ L s m ko led news Q E pos hs Si S K
 refine args_cons (h1 prog w A env h₀ L s m ko led news _ E hs Si S fun v h' tk led' news' S' i r => ?_) (zB hn)
 exact h2 prog w A env h₀ L _ m ko led' news' _ E pos hs Si S' fun vs h2' tk2 led2 news2 S2 i2 r2 => K _ h2' tk2 led2 news2 S2 (Inc.trans i i2) (Rs.cons (R.mono i2 r) r2)
theorem EvL.up {sc ρ n k e d} (h : EvL sc ρ n e d) (hk : n ≤ k) : EvL sc ρ k e d :=
 fun prog w A env h₀ L s m ko led news Q E pos hs Si S K => h prog w A env h₀ L s m ko led news Q E pos hs (Si.le hk) S K
noncomputable def zF (n : Nat) (f : Addr) (ds : List D) (d : D) : Prop :=
 ∀ (prog : Program) (w : World) (A : Around) (env : Env) (h₀ : Heap) (L : Addr) (s : Shared) (m : Str -> Option Value) (ρ : Loc) (ko led news : Led) (vs : List Value) (Rr : Result -> Shared -> Prop),
  Sit w A env h₀ L n -> St env h₀ L s.heap m ρ ko led news -> Rs led ds vs -> Kept env h₀ L m ρ ko led s (fun l v => R l d v) (fun v s' => Rr (.ok (.ret v)) s') -> codeAny (model prog w) A (.call (.ref f) ⟨vs, []⟩) Rr s
theorem zF.up {n k f ds d} (h : zF n f ds d) (hk : n ≤ k) : zF k f ds d :=
 fun prog w A env h₀ L s m ρ ko led news vs Rr Si S r K => h prog w A env h₀ L s m ρ ko led news vs Rr (Si.le hk) S r K
theorem zAr {pos} {l : List (Bool × Sem Value)} : (backTo pos l).any (·.1) = l.any (·.1) := by
 unfold backTo
 rw [List.any_map]
 rfl
theorem call_fin {w} {prog A env h₀ L n m ρ ko led f ds d} {s Q E} (Si : Sit w A env h₀ L n) (hc : zF n f ds d) (K : Kept env h₀ L m ρ ko led s (fun l v => R l d v) Q)
  {vs h'} {tk : Nat} {led' news'} (S' : St env h₀ L h' m ρ ko led' news') (i : Inc led led') (r : Rs led' ds vs) : wpAny (model prog w) A (call (.ref f) vs) Q E (sw s h' tk) := by
 refine wpAny_call (hc prog w A env h₀ L _ m ρ ko led' news' vs _ Si S' r fun v h2 tk2 led2 news2 S2 i2 r2 => ?_)
 exact K v h2 tk2 led2 news2 S2 (Inc.trans i i2) r2
theorem ev_call0 {sc ρ n x xpos pos f d} (hk : zZ sc x = true) (hd : zM x = true) (e : fnd x gTab = some (.ref f)) (hkeep : ∀ P, keepIn (KW P) (.ref f) = true)
  (hc : zF n f [] d) : EvE sc ρ n (.Call (.Name x xpos) [] [] pos) d := by
 intro prog w A env h₀ L s m ko led news Q E hs Si S K
 refine Rows.Call_ (zBl hs Si S hk hd e ?_)
 exact callWith_K0 (Si.X.keeps S.F.keep) (hkeep _) (call_fin Si hc K S (fun _ h => h) Rs.nil)
theorem ev_call {sc ρ n x xpos pos e0 es ds f d} (hk : zZ sc x = true) (hd : zM x = true) (e : fnd x gTab = some (.ref f)) (hkeep : ∀ P, keepIn (KW P) (.ref f) = true) (hst : (e0 :: es).all zP = true)
  (ha : EvL sc ρ n (e0 :: es) ds) (hc : zF n f ds d) : EvE sc ρ n (.Call (.Name x xpos) (e0 :: es) [] pos) d := by
 intro prog w A env h₀ L s m ko led news Q E hs Si S K
 refine Rows.Call_ (zBl hs Si S hk hd e ?_)
 simp only [List.all_cons, Bool.and_eq_true] at hst
 refine callWith_K (h₀ := h₀) Si.X (hkeep _) ?_ (zB hst.1) (by rw [zAr]; exact zAa hst.2)
 refine ha prog w A env h₀ L s m ko led news _ E pos hs Si S fun vs h' tk led' news' S' i r => ?_
 exact ⟨Si.X.keeps S'.F.keep, call_fin Si hc K S' i r⟩
noncomputable def koOf (led news : Led) : Led := news.filter fun p => decide (p.1 ∉ keyL led) && decide (p.1 ∉ tabs)
theorem zAd {led news p} : p ∈ koOf led news ↔ p ∈ news ∧ p.1 ∉ keyL led ∧ p.1 ∉ tabs := by
 simp [koOf]
theorem own_koOf {led news a o} (nd : (keyL news).Nodup) (tab : TabOK led news) (h : (a, o) ∈ news) (hl : a ∉ keyL led) (hc : o.cls ≠ (X.tableObj #[]).cls) : (a, o) ∈ koOf led news := by
 refine zAd.mpr ⟨h, hl, fun ht => ?_⟩
 obtain ⟨_, ps, hp, _⟩ := tab a ht
 exact hc ((congrArg Obj.cls (zAm nd h hp)).trans rfl)
theorem St.back {env env' h₀ g L L' h h' m m' ρ ρ' ko led news led' news'} (S : St env h₀ L h m ρ ko led news) (S' : St env' g L' h' m' ρ' (koOf led news) led' news') (i : Inc led led')
  (F2 : Fr h₀ L h' m) (N2 : News h₀ L h' news') : St env h₀ L h' m ρ ko led' news' where
 F := F2
 N := N2
 nd := S'.nd
 kon := fun p hp => S'.kon p (zAd.mpr ⟨S.kon p hp, S.dis p.1 (zC (o := p.2) hp)⟩)
 sub := S'.sub
 dis := fun a ha => by
  obtain ⟨p, hp, rfl⟩ := List.mem_map.mp ha
  exact S'.dis p.1 (zC (o := p.2) (zAd.mpr ⟨S.kon p hp, S.dis p.1 ha⟩))
 tab := S'.tab
 loc := by
  obtain ⟨mm, X⟩ := S.loc
  refine ⟨mm, X.lc, fun x lv e => ?_, X.inj⟩
  obtain ⟨v, V, O, k⟩ := X.at' x lv e
  refine ⟨v, V, O.mono i (fun a o hm hn _ hc => ?_), k⟩
  have := own_koOf S.nd S.tab hm hn hc
  exact ⟨S'.kon _ this, (S'.dis a (zC this)).1⟩
theorem fnO_eq (st : Stmt) (qual : String) (dV pm cdv : Value) :
  fnO st qual dV pm cdv = ⟨.type "function", none, .func (fnOf (fnName st) (Str.ofString qual) (fnParams st) (zG st) (zD st) dV .none .none pm none cdv .none), #[]⟩ := rfl
noncomputable def plainSc (sc : Scope) : Bool := !sc.isCoroutine && !sc.isGenerator && (sc.kind == .function) && sc.names.all (fun x => x.2 != .cell)
theorem plainSc_of {sc} (h : plainSc sc = true) : sc.isCoroutine = false ∧ sc.isGenerator = false ∧ sc.kind = .function ∧ ∀ x ∈ sc.names, x.2 ≠ .cell := by
 simp only [plainSc, Bool.and_eq_true, Bool.not_eq_true', beq_iff_eq, List.all_eq_true, bne_iff_ne] at h
 exact ⟨h.1.1.1, h.1.1.2, h.1.2, h.2⟩
noncomputable def vals (names : List Str) (ds : List D) : Loc := (names.zip ds).map fun p => (p.1, LV.val p.2)
theorem fnd_vals {led} : ∀ {names ds vs x} {lv : LV}, Rs led ds vs -> fnd x (vals names ds) = some lv -> ∃ d v, lv = .val d ∧ fnd x (names.zip vs) = some v ∧ R led d v
 | [], _, _, _, _, _, h => by simp [vals, fnd] at h
 | _ :: _, [], _, _, _, _, h => by simp [vals, fnd] at h
 | n :: ns, d :: ds, vs, x, lv, r, h => by
  obtain ⟨v, t, rfl, a, b⟩ := r
  simp only [vals, List.zip_cons_cons, List.map_cons, fnd] at h
  simp only [List.zip_cons_cons, fnd]
  split at h
  ·rename_i q
   cases h
   rw [if_pos q]
   exact ⟨d, v, rfl, rfl, a⟩
  ·rename_i q
   rw [if_neg q]
   exact fnd_vals b h
noncomputable def BindOK (r : FnR) (names : List Str) (k : Nat) (ex : List D) : Prop := ∀ (w : World) (s : Shared) (vs : List Value), (KW w.params).In s.heap -> vs.length = k ->
 ∃ es, Rs [] ex es ∧ BindsTo s (fnOf (fnName r.st) (Str.ofString r.qual) (fnParams r.st) (zG r.st) (zD r.st) r.dV .none .none r.pm none (.ref r.cdv) .none) ⟨vs, []⟩ (names.zip (vs ++ es))
noncomputable def zAz : List Str -> Bool
 | [] => true
 | x :: r => !(r.any (eqS x)) && zAz r
theorem fnd_none {α : Type} {x} : ∀ {l : List (Str × α)}, (l.map (·.1)).any (eqS x) = false -> fnd x l = none
 | [], _ => rfl
 | (y, v) :: r, h => by
  simp only [List.map_cons, List.any_cons, Bool.or_eq_false_iff] at h
  rw [fnd, if_neg (by rw [h.1]; decide)]
  exact fnd_none h.2
theorem fnd_append {α : Type} {x} : ∀ {l k : List (Str × α)}, fnd x (l ++ k) = (fnd x l).or (fnd x k)
 | [], _ => rfl
 | (y, v) :: r, k => by
  simp only [List.cons_append, fnd]
  split
  ·rfl
  ·exact fnd_append
theorem fnd_reverse {α : Type} {x} : ∀ {l : List (Str × α)}, zAz (l.map (·.1)) = true -> fnd x l.reverse = fnd x l
 | [], _ => rfl
 | (y, v) :: r, h => by
  simp only [List.map_cons, zAz, Bool.and_eq_true, Bool.not_eq_true'] at h
  rw [List.reverse_cons, fnd_append, fnd_reverse h.2]
  simp only [fnd]
  by_cases q : eqS x y = true
  ·obtain rfl := zW.mp q
   rw [fnd_none h.1]
   simp [q]
  ·simp [q]
theorem zip_fst {α β : Type} : ∀ {a : List α} {b : List β}, a.length = b.length -> (a.zip b).map (·.1) = a
 | [], [], _ => rfl
 | x :: a, y :: b, h => by simp only [List.zip_cons_cons, List.map_cons]; rw [zip_fst (by simpa using h)]
 | [], _ :: _, h => by cases h
 | _ :: _, [], h => by cases h
inductive Fl | next | brk | cont | ret (d : D)
noncomputable def FlOK (led : Led) : Fl -> Flow -> Prop
 | .next, f => f = .next
 | .brk, f => f = .brk
 | .cont, f => f = .cont
 | .ret d, f => ∃ v, f = .ret v ∧ R led d v
noncomputable def ExS (sc : zT) (ρ : Loc) (n : Nat) (ss : List Stmt) (fl : Fl) (ρ' : Loc) : Prop :=
 ∀ (prog : Program) (w : World) (A : Around) (env : Env) (h₀ : Heap) (L : Addr) (s : Shared) (m : Str -> Option Value) (ko led news : Led) (Q : Flow -> Shared -> Prop),
  env.scope.names = sc -> env.locals = L -> Sit w A env h₀ L n -> St env h₀ L s.heap m ρ ko led news ->
  (∀ f h' tk m' led' news', St env h₀ L h' m' ρ' ko led' news' -> Inc led led' -> FlOK led' fl f -> Q f (sw s h' tk)) ->
  wpAny (model prog w) A (execs ss env) Q (fun _ _ => False) s
noncomputable def Ex1 (sc : zT) (ρ : Loc) (n : Nat) (st : Stmt) (fl : Fl) (ρ' : Loc) : Prop :=
 ∀ (prog : Program) (w : World) (A : Around) (env : Env) (h₀ : Heap) (L : Addr) (s : Shared) (m : Str -> Option Value) (ko led news : Led) (Q : Flow -> Shared -> Prop),
  env.scope.names = sc -> env.locals = L -> Sit w A env h₀ L n -> St env h₀ L s.heap m ρ ko led news ->
  (∀ f h' tk m' led' news', St env h₀ L h' m' ρ' ko led' news' -> Inc led led' -> FlOK led' fl f -> Q f (sw s h' tk)) ->
  wpAny (model prog w) A (exec st env) Q (fun _ _ => False) s
noncomputable def retOf : Fl -> Option D
 | .ret d => some d
 | .next => some .none
 | _ => none
theorem St.enter {env h₀ g L L' h h₁ m ρ ko led news ρ' qual scope f cdv m'} (S : St env h₀ L h m ρ ko led news) (F : Fr g L' h₁ m') (N : News g L' h₁ news)
  (loc : ∀ x lv, fnd x ρ' = some lv -> ∃ d v, lv = .val d ∧ m' x = some v ∧ R led d v ∧ fnd x scope.names = some .local) :
  St (envOf qual scope L' f cdv) g L' h₁ m' ρ' (koOf led news) led news where
 F := F
 N := N
 nd := S.nd
 kon := fun p hp => (zAd.mp hp).1
 sub := S.sub
 dis := fun a ha => by
  obtain ⟨p, hp, rfl⟩ := List.mem_map.mp ha
  exact (zAd.mp hp).2
 tab := S.tab
 loc := by
  refine ⟨m', .fn rfl rfl, fun x lv e => ?_, fun x y lx ly v e1 e2 h1 h2 => ?_⟩
  ·obtain ⟨d, v, rfl, hm, r, hk⟩ := loc x lv e
   refine ⟨v, .loc ?_ hm, r, fun h => by cases h⟩
   show scope.names.lookup x = _
   rw [zAc, hk]
  ·obtain ⟨d, v, rfl, _⟩ := loc x lx e1
   cases h1
structure Gd (r : FnR) (names : List Str) (k : Nat) (ex : List D) : Prop where
 hr : r ∈ zAk
 hsc : plainSc (zD r.st) = true
 hb : BindOK r names k ex
 hdis : zAz names = true
 hlen : names.length = k + ex.length
 hloc : names.all (fun x => fnd x (zD r.st).names == some .local) = true
theorem Gd.lo {r names} {k : Nat} {ex} (G : Gd r names k ex) {x} (h : x ∈ names) : fnd x (zD r.st).names = some .local := beq_iff_eq.mp (List.all_eq_true.mp G.hloc x h)
theorem Gd.go {r : FnR} {names : List Str} {k : Nat} {ex : List D} (G : Gd r names k ex) {w : World} {s : Shared} {vs : List Value} (X : (KW w.params).In s.heap) (hv : vs.length = k) : ∃ es, Rs [] ex es ∧ BindsTo s (fnOf (fnName r.st) (Str.ofString r.qual) (fnParams r.st) (zG r.st) (zD r.st) r.dV .none .none r.pm none (.ref r.cdv) .none) ⟨vs, []⟩ (names.zip (vs ++ es)) ∧
  names.length = (vs ++ es).length ∧ (names.zip (vs ++ es)).map (·.1) = names ∧ ∀ y ∈ names.zip (vs ++ es), (zD r.st).names.lookup y.1 = some .local := by
 obtain ⟨es, re, h⟩ := G.hb w s vs X hv
 have hl : names.length = (vs ++ es).length := by rw [G.hlen, List.length_append, hv, ← Rs.length re]
 have hz := zip_fst hl
 exact ⟨es, re, h, hl, hz, fun y hy => zAc.trans (G.lo (hz ▸ List.mem_map.mpr ⟨y, hy, rfl⟩))⟩
noncomputable abbrev fE (r : FnR) (L : Addr) : Env := envOf (Str.ofString r.qual) (zD r.st) L r.f (.ref r.cdv)
theorem St.enterG {env h₀ g L L' h h₁ m ρ ko led news} {r names} {k : Nat} {ex ds us} (S : St env h₀ L h m ρ ko led news) (G : Gd r names k ex) (F : Fr g L' h₁ fun y => (names.zip us).reverse.lookup y) (N : News g L' h₁ news) (hz : (names.zip us).map (·.1) = names) (hall : Rs led (ds ++ ex) us) :
  St (fE r L') g L' h₁ (fun y => (names.zip us).reverse.lookup y) (vals names (ds ++ ex)) (koOf led news) led news := S.enter F N fun x lv e => by
 obtain ⟨d', v, rfl, e1, r1⟩ := fnd_vals hall e
 exact ⟨d', v, rfl, zAc.trans ((fnd_reverse (hz.symm ▸ G.hdis)).trans e1), r1, G.lo (hz ▸ List.mem_map.mpr ⟨(x, v), fnd_mem e1, rfl⟩)⟩
theorem Sit.deep {w A env E fenv h₀ g base L L'} {n : Nat} {outer} (Si : Sit w A env h₀ L (n + 1)) (hA : A.frames = some (fenv :: outer)) (B : Below A base (fenv :: outer) g) (X : (KW w.params).In g) (T : ∃ mean mg mb, Top topProg looseT mean mg mb g)
  (f : E.frame = some L') (k : E.scope.kind = .function) (gl : E.globals = mainGlobals) (bl : E.builtins = builtinsNs) : Sit w (A.deeper E) E g L' n :=
 ⟨⟨A, base, fenv :: outer, _, B, Around.frames_deeper hA, f, k⟩, k, gl, bl, X, T, Si.hd, Si.d1, Si.uk 3 rfl, Si.hs⟩
theorem enterP {r names} {k n : Nat} {ex ds} (G : Gd r names k ex) (hk : ds.length = k) {prog w A env h₀ L s m ρ ko led news vs Rr A₀ base outer fenv}
  (B : Below A₀ base outer h₀) (hA : A.frames = some (fenv :: outer)) (hfr : fenv.frame = some L) (hke : fenv.scope.kind = .function) (Si : Sit w A env h₀ L (n + 1)) (S : St env h₀ L s.heap m ρ ko led news) (rr : Rs led ds vs)
  (H : ∀ g L' h₁ tk m', Fr h₀ L g m -> Below A base (fenv :: outer) g -> Sit w (A.deeper (fE r L')) (fE r L') g L' n ->
   St (fE r L') g L' h₁ m' (vals names (ds ++ ex)) (koOf led news) led news ->
   wpAny (model prog w) (A.deeper (fE r L')) (execs (zG r.st) (fE r L')) (fun fl s' => LeaveK h₀ L m g Rr (match fl with | .ret v => v | _ => .none) s')
    (fun e s' => wpAny (model prog w) (A.deeper (fE r L')) (leaving (fE r L') e) (fun _ s'' => Rr (.error e) s'') (fun e' s'' => Rr (.error e') s'') s') (sw s h₁ tk)) :
  codeAny (model prog w) A (.call (.ref r.f) ⟨vs, []⟩) Rr s := by
 obtain ⟨mean, mg, mb, T⟩ := Si.T
 obtain ⟨h1, h2, h3, h4⟩ := plainSc_of G.hsc
 obtain ⟨e1, e2⟩ := fn_ok w.params r G.hr
 rw [fnO_eq] at e1
 obtain ⟨es, re, hbind, hl, hz, hlo⟩ := G.go (s := s) (Si.X.keeps S.F.keep) ((Rs.length rr).symm.trans hk)
 have hall : Rs led (ds ++ ex) (vs ++ es) := Rs.append rr (Rs.mono (led := []) (by intro p hp; cases hp) re)
 refine code_def B S.F Si.X S.N T hA hfr hke e1 e2 Si.d0 hbind hlo (fun g L' h₁ FG F' N' B' X' T' => ?_) h1 h2 h3 h4
 exact H g L' h₁ _ _ FG B' (Si.deep hA B' X' ⟨mean, mg, mb, T'⟩ rfl h3 rfl rfl) (S.enterG G F' N' hz hall)
theorem zR {r names} {k n : Nat} {ex ds d fl ρ'} (G : Gd r names k ex) (hk : ds.length = k)
  (hx : ExS (zD r.st).names (vals names (ds ++ ex)) n (zG r.st) fl ρ') (hf : retOf fl = some d) : zF (n + 1) r.f ds d := by
 intro prog w A env h₀ L s m ρ ko led news vs Rr Si S rr K
 obtain ⟨A₀, base, outer, fenv, B, hA, hfr, hke⟩ := Si.fr
 refine enterP G hk B hA hfr hke Si S rr fun g L' h₁ tk mm FG B' Si' S' => wpAny_noRaise ?_
 refine hx prog w _ _ g L' (sw s h₁ tk) _ (koOf led news) led news _ rfl rfl Si' S' fun f h' tk m' led' news' S'' i hfl => ?_
 refine leaveK_ S''.F S''.N fun F2 N2 => ?_
 have SB := S.back S'' i F2 N2
 cases fl with
 | next =>
  cases hf
  have : f = .next := hfl
  subst this
  exact K .none h' tk led' news' SB i R_none
 | ret d' =>
  cases hf
  obtain ⟨v, rfl, rv⟩ := hfl
  exact K v h' tk led' news' SB i rv
 | brk => cases hf
 | cont => cases hf
theorem Ex1.up {sc ρ n k st fl ρ'} (h : Ex1 sc ρ n st fl ρ') (hk : n ≤ k) : Ex1 sc ρ k st fl ρ' :=
 fun prog w A env h₀ L s m ko led news Q hs hl Si S K => h prog w A env h₀ L s m ko led news Q hs hl (Si.le hk) S K
theorem ExS.up {sc ρ n k st fl ρ'} (h : ExS sc ρ n st fl ρ') (hk : n ≤ k) : ExS sc ρ k st fl ρ' :=
 fun prog w A env h₀ L s m ko led news Q hs hl Si S K => h prog w A env h₀ L s m ko led news Q hs hl (Si.le hk) S K
theorem zAh {sc ρ n} : ExS sc ρ n [] .next ρ :=
 fun prog w A env h₀ L s m ko led news Q hs hl Si S K => wpAny_execs_nil (K .next s.heap s.toks m led news S (fun _ h => h) rfl)
theorem zK {sc ρ n st rest ρ1 fl ρ2} (h1 : Ex1 sc ρ n st .next ρ1) (h2 : ExS sc ρ1 n rest fl ρ2) : ExS sc ρ n (st :: rest) fl ρ2 := by
 intro prog w A env h₀ L s m ko led news Q hs hl Si S K
 refine wpAny_execs_cons (h1 prog w A env h₀ L s m ko led news _ hs hl Si S fun f h' tk m' led' news' S' i hf => ?_)
 have : f = .next := hf
 subst this
 exact h2 prog w A env h₀ L _ m' ko led' news' _ hs hl Si S' fun f2 h2' tk2 m2 led2 news2 S2 i2 hf2 => K f2 h2' tk2 m2 led2 news2 S2 (Inc.trans i i2) hf2
noncomputable def stops : Fl -> Bool
 | .next => false
 | _ => true
theorem zAj {sc ρ n st rest fl ρ1} (hq : stops fl = true) (h1 : Ex1 sc ρ n st fl ρ1) : ExS sc ρ n (st :: rest) fl ρ1 := by
 intro prog w A env h₀ L s m ko led news Q hs hl Si S K
 refine wpAny_execs_cons (h1 prog w A env h₀ L s m ko led news _ hs hl Si S fun f h' tk m' led' news' S' i hf => ?_)
 have hk := K f h' tk m' led' news' S' i hf
 cases fl with
 | next => cases hq
 | brk => have : f = .brk := hf; subst this; exact hk
 | cont => have : f = .cont := hf; subst this; exact hk
 | ret d => obtain ⟨v, rfl, _⟩ := hf; exact hk
theorem zBy {sc ρ n e pos d} (h : EvE sc ρ n e d) : Ex1 sc ρ n (.Return (some e) pos) (.ret d) ρ := by
 intro prog w A env h₀ L s m ko led news Q hs hl Si S K
 exact wpAny_Return_some (h prog w A env h₀ L s m ko led news _ _ hs Si S fun v h' tk led' news' S' i r => K _ h' tk m led' news' S' i ⟨v, rfl, r⟩)
theorem ex1_ret0 {sc ρ n pos} : Ex1 sc ρ n (.Return none pos) (.ret .none) ρ :=
 fun prog w A env h₀ L s m ko led news Q hs hl Si S K => wpAny_Return_none (K _ s.heap s.toks m led news S (fun _ h => h) ⟨.none, rfl, R_none⟩)
theorem ex1_if {sc ρ n t a b pos c fl ρ'} (h1 : EvT sc ρ n t c) (h2 : ExS sc ρ n (if c then a else b) fl ρ') : Ex1 sc ρ n (.If t a b pos) fl ρ' := by
 intro prog w A env h₀ L s m ko led news Q hs hl Si S K
 refine wpAny_If (h1 prog w A env h₀ L s m ko led news _ _ hs Si S fun h' tk led' news' S' i => ?_)
 cases c with
 | true => exact h2 prog w A env h₀ L _ m ko led' news' _ hs hl Si S' fun f2 h2' tk2 m2 led2 news2 S2 i2 hf2 => K f2 h2' tk2 m2 led2 news2 S2 (Inc.trans i i2) hf2
 | false => exact h2 prog w A env h₀ L _ m ko led' news' _ hs hl Si S' fun f2 h2' tk2 m2 led2 news2 S2 i2 hf2 => K f2 h2' tk2 m2 led2 news2 S2 (Inc.trans i i2) hf2
noncomputable def zAu (sc : zT) (x : Str) : Bool := match fnd x sc with
 | some .local => true
 | _ => false
theorem zL {env : Env} {sc : zT} {x : Str} (hs : env.scope.names = sc) (h : zAu sc x = true) : env.kindOf x = some .local := by
 rw [kind_of hs]
 unfold zAu at h
 split at h <;> first | assumption | cases h
theorem St.fn {env h₀ L h m ρ ko led news mm} (S : St env h₀ L h m ρ ko led news) (hl : env.locals = L) (X : Locs env L m ρ ko led news mm) : mm = m := by
 cases X.lc with
 | fn _ e => exact e
 | comp oC hm _ => exact absurd hl (S.N _ (S.kon _ hm)).2.1
noncomputable def upd (m : Str -> Option Value) (x : Str) (v : Value) : Str -> Option Value := fun y => if y = x then some v else m y
theorem no_ld {vs : Array Value} {c n : Nat} {es} (e : listOf vs c = dictOf es n) : False := by
 have := congrArg Obj.data e
 cases this
theorem upd_self {m x v} : upd m x v x = some v := if_pos rfl
theorem upd_ne {m x y v} (h : y ≠ x) : upd m x v y = m y := if_neg h
theorem Locs.putNew {env L m ρ ko led news} {x v} {l : LV} (X : Locs env L m ρ ko led news m) (hl : env.locals = L) (hk : env.kindOf x = some .local) (ok : LvOK led ko news v l) (ap : isVal l = false -> ∀ y ly, fnd y ρ = some ly -> isVal ly = false -> m y ≠ some v) :
  Locs env L (upd m x v) (put x l ρ) ko led news (upd m x v) := by
 refine ⟨.fn hl rfl, fun y lv e => zBu e (fun q1 q2 => ?_) fun q e => ?_, fun y z ly lz u e1 e2 h1 h2 m1 m2 => zBu e1 (fun q1 p1 => ?_) fun q1 f1 => zBu e2 (fun q2 p2 => ?_) fun q2 f2 => ?_⟩
 ·subst q1 q2
  exact ⟨v, .loc hk upd_self, ok, fun _ => hk⟩
 ·obtain ⟨u, V, O, k⟩ := X.at' y lv e
  refine ⟨u, ?_, O, k⟩
  cases V with
  | loc a b => exact .loc a ((upd_ne q).trans b)
  | cel c o a b c' d' => exact .cel c o a b c' d'
 ·subst q1 p1
  rw [upd_self] at m1
  refine zBu e2 (fun q2 _ => q2.symm) fun q2 f2 => ?_
  rw [upd_ne q2] at m2
  exact absurd (m2.trans m1.symm) (ap h1 z lz f2 h2)
 ·subst q2 p2
  rw [upd_self] at m2
  rw [upd_ne q1] at m1
  exact absurd (m1.trans m2.symm) (ap h2 y ly f1 h1)
 ·rw [upd_ne q1] at m1
  rw [upd_ne q2] at m2
  exact X.inj y z ly lz u f1 f2 h1 h2 m1 m2
theorem Locs.putKeep {env L m ρ ko led news led' news' mm} {x v} {l l' : LV} (X : Locs env L m ρ ko led news mm) (e : fnd x ρ = some l) (hl : isVal l = false) (hx : mm x = some v) (ok : LvOK led' ko news' v l')
  (up : ∀ y lv u, y ≠ x -> fnd y ρ = some lv -> (isVal lv = false -> mm y = some u) -> LvOK led ko news u lv -> LvOK led' ko news' u lv) : Locs env L m (put x l' ρ) ko led' news' mm := by
 obtain ⟨_, _, _, k0⟩ := X.at' x l e
 have hk := k0 hl
 have old : ∀ {w lw}, fnd w (put x l' ρ) = some lw -> isVal lw = false -> ∃ l1, fnd w ρ = some l1 ∧ isVal l1 = false := fun ew hw => zBu ew (fun q _ => ⟨l, q ▸ e, hl⟩) fun _ h => ⟨_, h, hw⟩
 refine ⟨X.lc, fun y lv ey => zBu ey (fun q1 q2 => ?_) fun q ey => ?_, fun y z ly lz u e1 e2 g1 g2 m1 m2 => ?_⟩
 ·subst q1 q2
  exact ⟨v, .loc hk hx, ok, fun _ => hk⟩
 ·obtain ⟨u, V, O, k⟩ := X.at' y lv ey
  exact ⟨u, V, up y lv u q ey (fun h => V.local (k h)) O, k⟩
 ·obtain ⟨l1, a1, b1⟩ := old e1 g1
  obtain ⟨l2, a2, b2⟩ := old e2 g2
  exact X.inj y z l1 l2 u a1 a2 b1 b2 m1 m2
theorem St.putVal {env h₀ L h h' m ρ ko led news} {x v d} (S : St env h₀ L h m ρ ko led news) (hl : env.locals = L) (hk : env.kindOf x = some .local) (F : Fr h₀ L h' (upd m x v)) (N : News h₀ L h' news) (r : R led d v) :
  St env h₀ L h' (upd m x v) (put x (.val d) ρ) ko led news where
 F := F
 N := N
 nd := S.nd
 kon := S.kon
 sub := S.sub
 dis := S.dis
 tab := S.tab
 loc := by
  obtain ⟨mm, X⟩ := S.loc
  obtain rfl := S.fn hl X
  exact ⟨_, X.putNew hl hk r fun h => (tfE h).elim⟩
theorem St.putOwn {env h₀ L h h' m ρ ko led news} {x a vs} {c : Nat} {ds} (S : St env h₀ L h m ρ ko led news) (hl : env.locals = L) (hk : env.kindOf x = some .local) (F : Fr h₀ L h' (upd m x (.ref a))) (N : News h₀ L h' news)
  (hm : (a, listOf vs.toArray c) ∈ news) (r : Rs led ds vs) (h1 : a ∉ keyL led) (h2 : a ∉ keyL ko) (hA : Apart ρ m a) : St env h₀ L h' (upd m x (.ref a)) (put x (.own ds) ρ) ko led news where
 F := F
 N := N
 nd := S.nd
 kon := S.kon
 sub := S.sub
 dis := S.dis
 tab := S.tab
 loc := by
  obtain ⟨mm, X⟩ := S.loc
  obtain rfl := S.fn hl X
  exact ⟨_, X.putNew hl hk ⟨a, vs, c, rfl, hm, r, h1, h2⟩ fun _ => hA⟩
section
variable {M : Model} {A : Around} {E : Value -> Shared -> Prop} {s : Shared} {env : Env} {h₀ : Heap} {L : Addr} {m : Str -> Option Value} {ρ : Loc} {ko led news : Led} {x : Str} {v : Value} {Q : Unit -> Shared -> Prop}
theorem store_ (kd : env.scope.kind = .function) (hl : env.locals = L) (hk : env.kindOf x = some .local) (F : Fr h₀ L s.heap m) (N : News h₀ L s.heap news)
  (h : ∀ h', Fr h₀ L h' (upd m x v) -> News h₀ L h' news -> Q () (sw s h' (s.toks + 1))) : wpAny M A (storeName env x v) Q E s := by
 subst hl
 refine wpAny_storeName_local hk F.ns (fun h' hn hs => h h' (F.set hn hs) (N.set hs)) ?_
 rw [kd]; rfl
end
noncomputable def zBx (e : Expr) : Bool := match e with
 | .ListComp .. | .SetComp .. | .DictComp .. => false
 | _ => true
theorem noSwap {e} (h : zBx e = true) (t : Option Expr) (l : Nat) (env : Env) : swapsWith e t l env = pure false := by
 cases e <;> first | rfl | cases h
theorem zBc {sc ρ n x px e pos d} (hx : zAu sc x = true) (hn : zBx e = true) (h : EvE sc ρ n e d) : Ex1 sc ρ n (.Assign [.Name x px] e pos) .next (put x (.val d) ρ) := by
 intro prog w A env h₀ L s m ko led news Q hs hl Si S K
 refine wpAny_Assign_Name (h prog w A env h₀ L s m ko led news _ _ hs Si S fun v h' tk led' news' S' i r => ?_) (noSwap hn _ _ _)
 refine store_ Si.kd hl (zL hs hx) S'.F S'.N fun h2 F2 N2 => ?_
 exact K .next h2 _ _ led' news' (S'.putVal hl (zL hs hx) F2 N2 r) i rfl
noncomputable def EvO (sc : zT) (ρ : Loc) (n : Nat) (e : Expr) (ds : List D) : Prop :=
 ∀ (prog : Program) (w : World) (A : Around) (env : Env) (h₀ : Heap) (L : Addr) (s : Shared) (m : Str -> Option Value) (ko led news : Led) (Q E : Value -> Shared -> Prop),
  env.scope.names = sc -> Sit w A env h₀ L n -> St env h₀ L s.heap m ρ ko led news ->
  (∀ a vs c h' tk led' news', St env h₀ L h' m ρ ko led' news' -> Inc led led' -> (a, listOf vs.toArray c) ∈ news' -> Rs led' ds vs -> a ∉ keyL led' -> a ∉ keyL ko -> (∃ mm, Locs env L m ρ ko led' news' mm ∧ Apart ρ mm a) -> Q (.ref a) (sw s h' tk)) ->
  wpAny (model prog w) A (eval e env) Q E s
theorem EvO.up {sc ρ n k e d} (h : EvO sc ρ n e d) (hk : n ≤ k) : EvO sc ρ k e d :=
 fun prog w A env h₀ L s m ko led news Q E hs Si S K => h prog w A env h₀ L s m ko led news Q E hs (Si.le hk) S K
theorem zBh {l a} (h : ∀ p ∈ l, p.1 < a) : a ∉ keyL l := by
 intro hm
 obtain ⟨p, hp, e⟩ := List.mem_map.mp hm
 exact Nat.lt_irrefl _ (e ▸ h p hp)
theorem new_own {M : Model} {A E} {env h₀ L m ρ ko led news} {s vs Q} (S : St env h₀ L s.heap m ρ ko led news) (hsz : vs.length ≤ sizeLine)
  (K : ∀ a h' news', St env h₀ L h' m ρ ko led news' -> (a, listOf vs.toArray 0) ∈ news' -> a ∉ keyL led -> a ∉ keyL ko -> (∃ mm, Locs env L m ρ ko led news' mm ∧ Apart ρ mm a) -> Q (.ref a) { s with heap := h' }) : wpAny M A (newList vs) Q E s := by
 refine newList_K S.F S.N (fun l h' F N lt => ?_) hsz
 have S2 := S.apart (new := [(l, listOf vs.toArray 0)]) F N (zQ S.nd lt)
 refine K l h' _ S2 (.head _) (zBh fun p hp => lt p (S.sub p hp)) (zBh fun p hp => lt p (S.kon p hp)) ?_
 obtain ⟨mm, X⟩ := S2.loc
 obtain ⟨mm0, X0⟩ := S.loc
 refine ⟨mm, X, ?_⟩
 intro y lv e hv hm
 obtain ⟨v, V, O, k⟩ := X0.at' y lv e
 obtain ⟨v', V', _, k'⟩ := X.at' y lv e
 have e1 := V'.local (k' hv)
 rw [hm] at e1
 cases e1
 have e2 := V.local (k hv)
 have : v = .ref l := by
  have q := (S2.ns X.lc)
  have q0 := (S.ns X0.lc)
  cases X.lc with
  | fn a b =>
   cases X0.lc with
   | fn a0 b0 => subst b b0; rw [hm] at e2; exact (Option.some.inj e2).symm
   | comp oC hm' _ => exact absurd a (S.N _ (S.kon _ hm')).2.1
  | comp oC hm' nso =>
   cases X0.lc with
   | fn a0 b0 => exact absurd a0 (S.N _ (S.kon _ hm')).2.1
   | comp oC' hm2 nso' =>
    have := zAm S.nd (S.kon _ hm') (S.kon _ hm2)
    subst this
    obtain ⟨es, ep, h1, _, h2⟩ := nso
    obtain ⟨es', ep', h1', _, h2'⟩ := nso'
    rw [h1] at h1'
    cases h1'
    rw [← h2' y, h2 y, hm] at e2
    exact (Option.some.inj e2).symm
 subst this
 cases lv with
 | val d => cases hv
 | own ds =>
  obtain ⟨a', vs', c, e2, hm', _⟩ := O
  cases e2
  exact Nat.lt_irrefl _ (lt _ hm')
 | obj C ns ds =>
  obtain ⟨a', dx, es, n, vs', e2, hm', _⟩ := O
  cases e2
  exact Nat.lt_irrefl _ (lt _ (S.kon _ (zAw hm')))
theorem evo_list {sc ρ n es pos ds} (h : EvL sc ρ n es ds) (hsz : Nat.ble ds.length 10000 = true) : EvO sc ρ n (.List es pos) ds := by
 intro prog w A env h₀ L s m ko led news Q E hs Si S K
 refine List_ (h prog w A env h₀ L s m ko led news _ E pos hs Si S fun vs h' tk led' news' S' i r => ?_)
 have h1 := Nat.le_of_ble_eq_true hsz
 refine new_own S' (by rw [← Rs.length r]; have : sizeLine = 2 ^ 24 := rfl; lia) fun a h2 news2 S2 hm n1 n2 ap => K a vs 0 h2 tk led' news2 S2 i hm r n1 n2 ap
theorem ev_own {sc ρ n e ds} (h : EvO sc ρ n e ds) : EvE sc ρ n e (.lst ds) := by
 intro prog w A env h₀ L s m ko led news Q E hs Si S K
 refine h prog w A env h₀ L s m ko led news Q E hs Si S fun a vs c h' tk led' news' S' i hm r n1 n2 ⟨mm, X, ap⟩ => ?_
 refine K _ h' tk _ news' (S'.shareList X hm n2 ap) (fun p hp => .tail _ (i p hp)) ?_
 show R _ _ _
 exact R_lst (.head _) (Rs.mono (fun p hp => .tail _ hp) r)
theorem ev_tuple {sc ρ n es k pos ds} (h : EvL sc ρ n es ds) (hsz : Nat.ble ds.length 10000 = true) : EvE sc ρ n (.Tuple es k pos) (.tup ds) := by
 intro prog w A env h₀ L s m ko led news Q E hs Si S K
 refine Tuple_ (h prog w A env h₀ L s m ko led news _ E pos hs Si S fun vs h' tk led' news' S' i r => ?_)
 have h1 := Nat.le_of_ble_eq_true hsz
 refine newTuple_N S'.F S'.N (fun h2 F N => ?_) (by rw [← Rs.length r]; have : sizeLine = 2 ^ 24 := rfl; lia)
 have lt : ∀ p ∈ news', p.1 < h'.objs.size := fun p hp => Heap.lt_size (S'.N p hp).1
 refine K _ h2 tk _ _ (S'.grow (new := [(h'.objs.size, tupOf vs)]) F N (zQ S'.nd lt)) (fun p hp => .tail _ (i p hp)) ?_
 show R _ _ _
 exact R_tup (.head _) (Rs.mono (fun p hp => .tail _ hp) r)
noncomputable def fld (x : Str) : List Str -> List D -> Option D
 | n :: ns, d :: ds => if eqS x n then some d else fld x ns ds
 | _, _ => none
theorem isStr_of {x n t} : (Value.str n t).isStr x = (n == x) := rfl
theorem str_hit {e : DictEntry} {n u} (hk : e.key = .str n u) : e.key.isStr n = true := by
 rw [hk, isStr_of]
 exact beq_self_eq_true n
theorem str_miss {e : DictEntry} {n x u} (hk : e.key = .str n u) (h : ¬ eqS x n = true) : e.key.isStr x = false := by
 rw [hk, isStr_of]
 exact beq_false_of_ne fun q => h (q ▸ zI n)
theorem getL_hit {e : DictEntry} {es n u} (hk : e.key = .str n u) : getL n (e :: es) = some (some e.val) := by
 unfold getL
 rw [List.find?_cons, str_hit hk]
theorem getL_miss {e : DictEntry} {es n x u} (hk : e.key = .str n u) (h : ¬ eqS x n = true) : getL x (e :: es) = getL x es := by
 unfold getL
 have hr : e.refKey = false := by
  unfold DictEntry.refKey
  rw [hk]
 rw [List.find?_cons, str_miss hk h, List.any_cons, hr]
 rfl
theorem getL_fld {led x d} : ∀ {es ns ds}, zAe es ns -> Rs led ds (es.map (·.val)) -> fld x ns ds = some d -> ∃ v, getL x es = some (some v) ∧ R led d v
 | [], ns, ds, k, r, h => by
  obtain rfl : ns = [] := k
  cases ds <;> cases h
 | e :: es, ns, ds, k, r, h => by
  obtain ⟨n, t, rfl, ⟨u, hk⟩, k'⟩ := k
  cases ds with
  | nil => cases h
  | cons d' ds =>
   obtain ⟨v, q, e1, a, b⟩ := r
   obtain ⟨rfl, rfl⟩ := List.cons.inj e1
   have h2 : (if eqS x n = true then some d' else fld x t ds) = some d := h
   by_cases q : eqS x n = true
   ·rw [if_pos q] at h2
    obtain rfl := Option.some.inj h2
    obtain rfl := zW.mp q
    exact ⟨_, getL_hit hk, a⟩
   ·rw [if_neg q] at h2
    rw [getL_miss hk q]
    exact getL_fld k' b h2
theorem getL_none {x} : ∀ {es ns}, zAe es ns -> ns.any (eqS x) = false -> getL x es = some none
 | [], _, _, _ => rfl
 | e :: es, ns, k, h => by
  obtain ⟨n, t, rfl, ⟨u, hk⟩, k'⟩ := k
  have h := (Bool.or_eq_false_iff).mp (show (eqS x n || t.any (eqS x)) = false from h)
  rw [getL_miss hk (fun q => tfE (q.symm.trans h.1))]
  exact getL_none k' h.2
noncomputable def plainBase (e : Expr) : Bool := (onCall (fun f es ks _ => gd (es.isEmpty && ks.isEmpty) (onName (fun _ _ => some ()) f)) e).isNone
theorem base_plain {o} (h : plainBase o = true) (attr : Str) (env : Env) (whole : Sem Value) : attributeBase o attr env whole = whole := by
 cases o with
 | Call f es ks p =>
  cases f with
  | Name =>
   cases es with
   | cons => rfl
   | nil =>
    cases ks with
    | cons => rfl
    | nil => cases h
  | _ => rfl
 | _ => rfl
theorem attr_eq {e x pos env} (h : plainBase e = true) : eval (.Attribute e x pos) env = (do
   let o ← eval e env
   standAt pos.atName
   let r ← holding [o] (getAttr o x true)
   letTemporaryGo e o r
   pure r) := by
 show (do
  let o ← attributeBase e x env (eval e env)
  standAt pos.atName
  let r ← holding [o] (getAttr o x true)
  letTemporaryGo e o r
  pure r) = _
 rw [base_plain h]
noncomputable def zCf (o : Expr) (apos pos : Pos) (args : List Expr) : Bool := plainBase o && args.all zP && Nat.blt args.length 30 && (apos.endLine == pos.line)
theorem methOK_all {o a p es} (h : zCf o a p es = true) : es.all zP = true := and2 h fun h _ => and2 h fun h _ => and2 h fun _ h => h
theorem methOK_one {o e a p} (h : zCf o a p [e] = true) : zP e = true := and2 (methOK_all h) fun h _ => h
theorem methOK_tl {o d a p es} (h : zCf o a p (d :: es) = true) : es.all zP = true := and2 (methOK_all h) fun _ h => h
theorem methOK1 {o e a p} (h : plainBase o = true) (hs : zP e = true) (hl : (a.endLine == p.line) = true) : zCf o a p [e] = true := by
 show (plainBase o && (zP e && true) && true && (a.endLine == p.line)) = true
 rw [h, hs, hl]
 rfl
theorem starEach_len {env args} : (starEach args env).all (fun x => !x.1) = !(starEach args env).any (·.1) := by
 induction starEach args env with
 | nil => rfl
 | cons a r ih => simp only [List.all_cons, List.any_cons, ih, Bool.not_or]
theorem meth_eq {o x apos pos args env} (h : zCf o apos pos args = true) : eval (.Call (.Attribute o x apos) args [] pos) env = (do
   let ov ← eval o env
   standAt apos.atName
   let (f, first) ← holding [ov] (getMethod ov x (do return (← importBound o env).getD true))
   callWith pos f first (backTo pos (starEach args env)) []) := by
 simp only [zCf, Bool.and_eq_true] at h
 obtain ⟨⟨⟨h1, h2⟩, h3⟩, h4⟩ := h
 show (do
  let ov ← attributeBase o x env (eval o env)
  standAt apos.atName
  methodCall o x apos pos env ov (args.length + 0) (backTo pos (starEach args env)) []) = _
 rw [base_plain h1]
 have e1 : methodCallForm (args.length + 0) (backTo pos (starEach args env)) [] = true := by
  unfold methodCallForm
  have a1 : (backTo pos (starEach args env)).all (fun x => !x.1) = true := by
   unfold backTo
   rw [List.all_map]
   show (starEach args env).all (fun x => !x.1) = true
   rw [starEach_len, zAa h2]; rfl
  rw [a1]
  have : args.length < 30 := Nat.le_of_ble_eq_true (show Nat.ble (args.length + 1) 30 = true from h3)
  simp [this]
 have e2 : methodCallPos true o env apos pos = pure pos := by
  unfold methodCallPos
  rw [h4]; rfl
 unfold methodCall
 rw [e1, e2]
 rfl
noncomputable def atOf (C : Nat) : List (Nat × List Str) -> List Str
 | [] => []
 | (c, l) :: r => if Nat.beq c C then l else atOf C r
noncomputable def isAt (C : Nat) (x : Str) : Bool := (atOf C atTab).any (eqS x)
theorem atOf_mem {C : Nat} {x} : ∀ {l : List (Nat × List Str)}, (atOf C l).any (eqS x) = true -> ∃ ns, (C, ns) ∈ l ∧ x ∈ ns
 | [], h => by cases h
 | (c, ns) :: r, h => by
  unfold atOf at h
  split at h
  ·rename_i q
   obtain rfl := Nat.eq_of_beq_eq_true q
   obtain ⟨y, hy, e⟩ := List.any_eq_true.mp h
   obtain rfl := zW.mp e
   exact ⟨ns, .head _, hy⟩
  ·obtain ⟨ns', h1, h2⟩ := atOf_mem h
   exact ⟨ns', .tail _ h1, h2⟩
theorem chk_of {P} {C : Nat} {x} (h : isAt C x = true) : chkCls (KW P) C = true ∧ chkAt (KW P) C x = true := by
 obtain ⟨ns, h1, h2⟩ := atOf_mem h
 have := at_ok P _ h1
 simp only [Bool.and_eq_true] at this
 exact ⟨this.1, List.all_eq_true.mp this.2 x h2⟩
theorem ev_attr {sc ρ n e x pos C ns ds d} (hp : plainBase e = true) (h : EvE sc ρ n e (.inst C ns ds)) (ha : isAt C x = true) (hf : fld x ns ds = some d) : EvE sc ρ n (.Attribute e x pos) d := by
 intro prog w A env h₀ L s m ko led news Q E hs Si S K
 refine Attribute_any_ (h prog w A env h₀ L s m ko led news _ E hs Si S fun v h' tk led' news' S' i r => ?_) (attr_eq hp)
 have r : R led' (.inst C ns ds) v := r
 obtain ⟨a, dx, es, k, vs, rfl, m1, m2, hk, rfl, rr⟩ := r
 obtain ⟨v, hl, rv⟩ := getL_fld hk rr hf
 obtain ⟨c1, c2⟩ := chk_of (P := w.params) ha
 have c1 := chk_c c1
 have c2 := chk_a c2
 obtain ⟨_, e1, c3⟩ := c2.1.2
 exact get_own (s := (sw s h' tk)) S'.F Si.X (W.InstAt.of_news S'.N (S'.sub _ m1) (S'.sub _ m2)) c2.1.1 c1.1.1.1 e1 c3 hl (R.handed rv) (K v h' _ led' news' S' i rv)
noncomputable def meOf (C : Nat) (x : Str) : List (Nat × Str × Nat) -> Option Nat
 | [] => none
 | (c, y, f) :: r => if Nat.beq c C && eqS x y then some f else meOf C x r
theorem meOf_mem {C : Nat} {x} {f : Nat} : ∀ {l : List (Nat × Str × Nat)}, meOf C x l = some f -> (C, x, f) ∈ l
 | [], h => by cases h
 | (c, y, g) :: r, h => by
  unfold meOf at h
  split at h
  ·rename_i q
   obtain ⟨q1, q2⟩ := Bool.and_eq_true_iff.mp q
   obtain rfl := Nat.eq_of_beq_eq_true q1
   obtain rfl := zW.mp q2
   cases h
   exact .head _
  ·exact .tail _ (meOf_mem h)
theorem ev_meth {sc ρ n o x apos pos es C ns fs ds f d} (ho : EvE sc ρ n o (.inst C ns fs)) (hm : meOf C x meTab = some f) (hx : ns.any (eqS x) = false) (hkeep : ∀ P, keepIn (KW P) (.ref f) = true) (hok : zCf o apos pos es = true)
  (ha : EvL sc ρ n es ds) (hnil : es = [] -> ds = []) (hc : zF n f (.inst C ns fs :: ds) d) : EvE sc ρ n (.Call (.Attribute o x apos) es [] pos) d := by
 intro prog w A env h₀ L s m ko led news Q E hs Si S K
 have hst := methOK_all hok
 refine MethodCall_ (ho prog w A env h₀ L s m ko led news _ E hs Si S fun v h' tk led' news' S' i r => ?_) (meth_eq hok)
 have r : R led' (.inst C ns fs) v := r
 have r0 := r
 obtain ⟨a, dx, es', k, vs, rfl, m1, m2, hk, rfl, rr⟩ := r
 have e1 := List.all_eq_true.mp (me_ok w.params) _ (meOf_mem hm)
 have e1 := and3p e1
 refine method_inst S'.F Si.X (W.InstAt.of_news S'.N (S'.sub _ m1) (S'.sub _ m2)) e1.1.1 (beq_iff_eq.mp e1.1.2) e1.2 (getL_none hk hx) ?_
 have K' : Kept env h₀ L m ρ ko led' (sw s h' tk) (fun l v => R l d v) Q := fun v2 h2 tk2 led2 news2 S2 i2 r2 => K v2 h2 tk2 led2 news2 S2 (Inc.trans i i2) r2
 cases es with
 | nil =>
  obtain rfl := hnil rfl
  exact callWith_K0 (Si.X.keeps S'.F.keep) (hkeep _) (call_fin Si hc K' S' (fun _ h => h) (Rs.one r0))
 | cons e0 rest =>
  simp only [List.all_cons, Bool.and_eq_true] at hst
  refine callWith_K (h₀ := h₀) Si.X (hkeep _) ?_ (zB hst.1) (by rw [zAr]; exact zAa hst.2)
  refine ha prog w A env h₀ L _ m ko led' news' _ E pos hs Si S' fun vs h2 tk2 led2 news2 S2 i2 r2 => ?_
  exact ⟨Si.X.keeps S2.F.keep, call_fin Si hc K' S2 i2 (Rs.cons (R.mono i2 r0) r2)⟩
theorem St.setOwn {env h₀ L h h' m ρ ko led news} {x : Str} {a : Addr} {vs ws : List Value} {c c' : Nat} {ds ds' : List D} {g : Obj -> Led} (S : St env h₀ L h m ρ ko led news) (hl : env.locals = L)
  (e : fnd x ρ = some (.own ds)) (hv : ∀ mm, Locs env L m ρ ko led news mm -> mm x = some (.ref a)) (hm : (a, listOf vs.toArray c) ∈ news) (h1 : a ∉ keyL led) (h2 : a ∉ keyL ko) (U : UpdF a (listOf vs.toArray c) news g)
  (hg : ∀ o' p, p ∈ g o' ↔ p = (a, o') ∨ (p ∈ news ∧ p.1 ≠ a)) (F : Fr h₀ L h' m) (N : News h₀ L h' (g (listOf ws.toArray c'))) (r : Rs led ds' ws) :
  St env h₀ L h' m (put x (.own ds') ρ) ko led (g (listOf ws.toArray c')) where
 F := F
 N := N
 nd := by rw [updF_keys U]; exact S.nd
 kon := fun p hp => (hg _ p).mpr (.inr ⟨S.kon p hp, fun q => h2 (q ▸ zC (o := p.2) hp)⟩)
 sub := fun p hp => (hg _ p).mpr (.inr ⟨S.sub p hp, fun q => h1 (q ▸ zC (o := p.2) hp)⟩)
 dis := S.dis
 tab := fun P hP => by
  obtain ⟨hn, ps, hp, gd⟩ := S.tab P hP
  refine ⟨hn, ps, (hg _ _).mpr (.inr ⟨hp, fun (q : P = a) => ?_⟩), gd⟩
  subst q
  have := congrArg Obj.cls (zAm S.nd hm hp)
  cases this
 loc := by
  obtain ⟨mm, X⟩ := S.loc
  have hx := hv mm X
  refine ⟨mm, X.putKeep e rfl hx ⟨a, ws, c', rfl, (hg _ _).mpr (.inl rfl), r, h1, h2⟩ fun y lv u q ey V O => ?_⟩
  cases lv with
  | val d => exact O
  | own ds2 =>
   obtain ⟨b, vs2, c2, rfl, m2, r2, n1, n2⟩ := O
   exact ⟨b, vs2, c2, rfl, (hg _ _).mpr (.inr ⟨m2, fun (p : b = a) => q (X.inj y x _ _ _ ey e rfl rfl (V rfl) (p ▸ hx))⟩), r2, n1, n2⟩
  | obj C ns ds2 =>
   obtain ⟨b, dx, es, n, vs2, rfl, m2, m3, ke, ev, r2, nn, n2⟩ := O
   refine ⟨b, dx, es, n, vs2, rfl, m2, (hg _ _).mpr (.inr ⟨m3, fun (q : dx = a) => ?_⟩), ke, ev, r2, nn, n2⟩
   subst q
   exact no_ld (zAm S.nd hm m3)
theorem Locs.own {env L m ρ ko led news mm} (X : Locs env L m ρ ko led news mm) {x ds} (e : fnd x ρ = some (.own ds)) :
  ∃ a vs c, mm x = some (.ref a) ∧ Vw env mm ko x (.ref a) ∧ (a, listOf vs.toArray c) ∈ news ∧ Rs led ds vs ∧ a ∉ keyL led ∧ a ∉ keyL ko := by
 obtain ⟨v, V, ⟨a, vs, c, rfl, h1, h2, h3, h4⟩, k⟩ := X.at' x _ e
 exact ⟨a, vs, c, V.local (k rfl), V, h1, h2, h3, h4⟩
noncomputable def isNm (x : Str) (s : String) : Bool := eqS x (Str.ofString s)
theorem inter_false {env} (h : env.scope.kind = .function) : interactive env = false := by
 unfold interactive
 rw [h]
 rfl
theorem ex1_append {sc ρ n x xpos att apos e cpos pos ds d} (ex : fnd x ρ = some (.own ds)) (hd : zM x = true) (ha : isNm att "append" = true) (hl : Nat.ble ds.length 10000 = true) (hst : zP e = true) (hline : (apos.endLine == cpos.line) = true)
  (he : EvE sc ρ n e d) : Ex1 sc ρ n (.Expr (.Call (.Attribute (.Name x xpos) att apos) [e] [] cpos) pos) .next (put x (.own (ds ++ [d])) ρ) := by
 intro prog w A env h₀ L s m ko led news Q hs hloc Si S K
 obtain rfl := zW.mp ha
 obtain ⟨mm, X⟩ := S.loc
 obtain rfl := S.fn hloc X
 obtain ⟨a, vs, c, hm, V, hmem, r, h1, h2⟩ := X.own ex
 refine wpAny_Expr ?_ (inter_false Si.kd) rfl
 refine MethodCall_ (load_vw Si.kd S X.lc V hd ?_) (meth_eq (methOK1 rfl hst hline))
 refine getMethod_append_N S.N hmem ?_
 refine callWith_method1 ?_ (zB hst) rfl
 refine zH hst he zO prog w A env h₀ L s mm ko led news _ _ cpos hs Si S fun vs1 h' tk led' news' S' i r1 => ?_
 obtain ⟨v1, r1', rfl, rv, hnil⟩ := r1
 obtain rfl : _ = [] := hnil
 obtain ⟨mm', X'⟩ := S'.loc
 obtain rfl := S'.fn hloc X'
 obtain ⟨a', vs', c', hm', V', hmem', r', h1', h2'⟩ := X'.own ex
 rw [hm] at hm'
 cases hm'
 obtain ⟨g, U, hg⟩ := zCi S'.nd hmem'
 have hlen : vs'.length ≤ 10000 := by rw [← Rs.length r']; exact Nat.le_of_ble_eq_true hl
 refine append_K S'.F S'.N (zCh U) (fun h2 F2 N2 => ?_) (by simp only [List.size_toArray]; have : sizeLine = 2 ^ 24 := rfl; lia)
 have hpush : listOf (vs'.toArray.push v1) (c' + 1) = listOf (vs' ++ [v1]).toArray (c' + 1) := by rw [List.push_toArray]
 rw [hpush] at N2
 exact K .next h2 _ _ led' _ (S'.setOwn hloc ex (fun mm Y => by rw [S'.fn hloc Y]; exact hm) hmem' h1' h2' U hg F2 N2 (Rs.append r' (Rs.one rv))) i rfl
theorem put_put {α : Type} {x} {a b : α} : ∀ {ρ : List (Str × α)}, put x a (put x b ρ) = put x a ρ
 | [] => by simp [put, zI]
 | (y, k) :: r => by
  by_cases h : eqS x y = true
  ·have e1 : ∀ (c : α), put x c ((y, k) :: r) = (y, c) :: r := fun c => by rw [put, if_pos h]
   rw [e1 b, e1 a, put, if_pos h]
  ·have e1 : ∀ (c : α), put x c ((y, k) :: r) = (y, k) :: put x c r := fun c => by rw [put, if_neg h]
   rw [e1 b, e1 a, put, if_neg h, put_put]
theorem St.asVal {env h₀ L h m ρ ko led news} {x v d} (S : St env h₀ L h m ρ ko led news) (hV : ∀ mm, Locs env L m ρ ko led news mm -> Vw env mm ko x v) (r : R led d v) : St env h₀ L h m (put x (.val d) ρ) ko led news where
 F := S.F
 N := S.N
 nd := S.nd
 kon := S.kon
 sub := S.sub
 dis := S.dis
 tab := S.tab
 loc := by
  obtain ⟨mm, X⟩ := S.loc
  refine ⟨mm, X.lc, fun y lv e => zBu e (fun q1 q2 => ?_) fun _ e => X.at' y lv e, fun y z ly lz u e1 e2 h1 h2 m1 m2 => zBu e1 (fun _ q => ?_) fun _ f1 => zBu e2 (fun _ q => ?_) fun _ f2 => X.inj y z ly lz u f1 f2 h1 h2 m1 m2⟩
  ·subst q1 q2
   exact ⟨v, hV mm X, r, fun h => nomatch h⟩
  ·subst q; cases h1
  ·subst q; cases h2
theorem St.freeze {env h₀ L h m ρ ko led news} {x ds} (S : St env h₀ L h m ρ ko led news) (hl : env.locals = L) (e : fnd x ρ = some (.own ds)) :
  ∃ led', (Inc led led') ∧ St env h₀ L h m (put x (.val (.lst ds)) ρ) ko led' news := by
 obtain ⟨mm, X⟩ := S.loc
 obtain rfl := S.fn hl X
 obtain ⟨a, vs, c, hm, V, hmem, r, h1, h2⟩ := X.own e
 have hV : ∀ mm', Locs env L mm ρ ko led news mm' -> Vw env mm' ko x (.ref a) := fun mm' Y => by rw [S.fn hl Y]; exact V
 have S1 := S.asVal (d := .any) hV (show handedIn (.ref a) = true from rfl)
 have X1 : Locs env L mm (put x (.val .any) ρ) ko led news mm := by
  obtain ⟨m1, X1⟩ := S1.loc
  rw [S1.fn hl X1] at X1
  exact X1
 have ap : Apart (put x (.val .any) ρ) mm a := by
  intro y lv ey hv hmy
  exact zBu ey (fun _ q => by subst q; cases hv) fun q ey => q (X.inj y x lv _ _ ey e hv rfl hmy hm)
 have S2 := S1.shareList X1 hmem h2 ap
 refine ⟨(a, listOf vs.toArray c) :: led, fun p hp => .tail _ hp, ?_⟩
 have S3 := S2.asVal (x := x) (v := .ref a) (d := .lst ds) (fun mm' Y => by rw [S2.fn hl Y]; exact V) (R_lst (.head _) (Rs.mono (fun p hp => .tail _ hp) r))
 rw [put_put] at S3
 exact S3
theorem zCd {sc ρ n x ds st fl ρ'} (e : fnd x ρ = some (.own ds)) (h : Ex1 sc (put x (.val (.lst ds)) ρ) n st fl ρ') : Ex1 sc ρ n st fl ρ' := by
 intro prog w A env h₀ L s m ko led news Q hs hl Si S K
 obtain ⟨led', i, S'⟩ := S.freeze hl e
 exact h prog w A env h₀ L s m ko led' news Q hs hl Si S' fun f h2 tk2 m2 led2 news2 S2 i2 hf => K f h2 tk2 m2 led2 news2 S2 (Inc.trans i i2) hf
theorem St.ownR {env h₀ L h m ρ ko led news mm} (S : St env h₀ L h m ρ ko led news) (X : Locs env L m ρ ko led news mm) {x ds} (e : fnd x ρ = some (.own ds)) : ∃ a, mm x = some (.ref a) ∧ Vw env mm ko x (.ref a) ∧ R news (.lst ds) (.ref a) := by
 obtain ⟨a, vs, c, hm, V, hmem, r, h1, h2⟩ := X.own e
 exact ⟨a, hm, V, R_lst hmem (Rs.mono S.sub r)⟩
theorem Lc.uniq {env h₀ L h h' m ρ ko led news led' news' mm mm'} (S : St env h₀ L h m ρ ko led news) (S' : St env h₀ L h' m ρ ko led' news') (l : Lc env L m ko mm) (l' : Lc env L m ko mm') : mm = mm' := by
 cases l with
 | fn a b =>
  cases l' with
  | fn a' b' => rw [b, b']
  | comp oC hm _ => exact absurd a (S.N _ (S.kon _ hm)).2.1
 | comp oC hm ns =>
  cases l' with
  | fn a' b' => exact absurd a' (S.N _ (S.kon _ hm)).2.1
  | comp oC' hm' ns' =>
   have := zAm S.nd (S.kon _ hm) (S.kon _ hm')
   subst this
   obtain ⟨es, ep, h1, _, h2⟩ := ns
   obtain ⟨es', ep', h1', _, h2'⟩ := ns'
   rw [h1] at h1'
   cases h1'
   funext y
   rw [← h2 y, h2' y]
theorem evT_cmp_own {sc ρ n x xp op r pos ds b c} (e : fnd x ρ = some (.own ds)) (hd : zM x = true) (hn : zBe r = true) (h2 : EvE sc ρ (n + 1) r b) (ec : cmpD op (.lst ds) b = some c) : EvT sc ρ (n + 1) (.Compare (.Name x xp) [op] [r] pos) c := by
 intro prog w A env h₀ L s m ko led news Q E hs Si S K
 obtain ⟨mm, X⟩ := S.loc
 obtain ⟨a, hm, V, _⟩ := S.ownR X e
 refine wpAny_isTrue_Compare1 (load_vw Si.kd S X.lc V hd ?_) (zBg hn)
 refine h2 prog w A env h₀ L _ m ko led news _ E hs Si S fun v2 h2' tk2 led2 news2 S2 i2 rb => ?_
 obtain ⟨mm2, X2⟩ := S2.loc
 obtain rfl := Lc.uniq S S2 X.lc X2.lc
 obtain ⟨a2, hm2, V2, ra⟩ := S2.ownR X2 e
 rw [hm] at hm2
 cases hm2
 exact zBv (led := news2) S2.nd (fun p hp => (S2.N p hp).1) Si.u4 ec ra (R.mono S2.sub rb) (wpAny_truthy_bool (K h2' tk2 led2 news2 S2 i2))
theorem evT_in_own {sc ρ n x xp op l pos ds a c} (e : fnd x ρ = some (.own ds)) (hd : zM x = true) (h1 : EvE sc ρ (n + 1) l a) (ec : cmpD op a (.lst ds) = some c) : EvT sc ρ (n + 1) (.Compare l [op] [.Name x xp] pos) c := by
 intro prog w A env h₀ L s m ko led news Q E hs Si S K
 refine wpAny_isTrue_Compare1 (h1 prog w A env h₀ L s m ko led news _ E hs Si S fun v h' tk led' news' S' i ra => ?_) rfl
 obtain ⟨mm, X⟩ := S'.loc
 obtain ⟨b, hm, V, rb⟩ := S'.ownR X e
 refine load_vw Si.kd S' X.lc V hd ?_
 exact zBv (led := news') S'.nd (fun p hp => (S'.N p hp).1) Si.u4 ec (R.mono S'.sub ra) rb (wpAny_truthy_bool (K h' tk led' news' S' i))
noncomputable def BltOK (n : Nat) (bv : Value) (ds : List D) (d : D) : Prop :=
 ∀ (prog : Program) (w : World) (A : Around) (env : Env) (h₀ : Heap) (L : Addr) (s : Shared) (m : Str -> Option Value) (ρ : Loc) (ko led news : Led) (vs : List Value) (Q E : Value -> Shared -> Prop),
  Sit w A env h₀ L n -> St env h₀ L s.heap m ρ ko led news -> Rs led ds vs -> Kept env h₀ L m ρ ko led s (fun l v => R l d v) Q -> wpAny (model prog w) A (call bv vs) Q E s
noncomputable def isB : Value -> Bool
 | .builtin _ => true
 | .type _ => true
 | _ => false
theorem zAx {sc ρ n x xpos pos e0 es ds bv d} (hk : zZ sc x = true) (hd : zM x = true) (e : fnd x bTab = some bv) (hb : isB bv = true) (hst : (e0 :: es).all zP = true)
  (ha : EvL sc ρ n (e0 :: es) ds) (hc : BltOK n bv ds d) : EvE sc ρ n (.Call (.Name x xpos) (e0 :: es) [] pos) d := by
 intro prog w A env h₀ L s m ko led news Q E hs Si S K
 refine Rows.Call_ (zAl hs Si S hk hd e ?_)
 simp only [List.all_cons, Bool.and_eq_true] at hst
 have fin : wpAny (model prog w) A (spliced (backTo pos (starEach (e0 :: es) env))) (fun vs s₁ => wpAny (model prog w) A (call bv vs) Q E s₁) E s := by
  refine ha prog w A env h₀ L s m ko led news _ E pos hs Si S fun vs h' tk led' news' S' i r => ?_
  exact hc prog w A env h₀ L _ m ρ ko led' news' vs Q E Si S' r fun v h2 tk2 led2 news2 S2 i2 r2 => K v h2 tk2 led2 news2 S2 (Inc.trans i i2) r2
 cases bv with
 | builtin id => exact callWith_builtin1 fin (zB hst.1) (by rw [zAr]; exact zAa hst.2)
 | type T => exact Rows.callWith_type1 fin (zB hst.1) (by rw [zAr]; exact zAa hst.2)
 | _ => cases hb
theorem Rs.inv1 {led d vs} (h : Rs led [d] vs) : ∃ v, vs = [v] ∧ R led d v := by
 obtain ⟨v, r, rfl, a, b⟩ := h
 obtain rfl : _ = [] := b
 exact ⟨v, rfl, a⟩
theorem St.isTup {env h₀ L h m ρ ko led news} (S : St env h₀ L h m ρ ko led news) {ds v} (r : R led (.tup ds) v) : ∃ a vs, v = .ref a ∧ (a, tupOf vs) ∈ led ∧ h.IsTuple a vs.toArray ∧ Rs led ds vs := by
 obtain ⟨a, vs, rfl, m1, r1⟩ := r
 exact ⟨a, vs, rfl, m1, ⟨_, S.held _ m1, rfl, _, rfl⟩, r1⟩
theorem St.isLst {env h₀ L h m ρ ko led news} (S : St env h₀ L h m ρ ko led news) {ds v} (r : R led (.lst ds) v) : ∃ a vs c, v = .ref a ∧ (a, listOf vs.toArray c) ∈ led ∧ h.IsList a vs.toArray ∧ Rs led ds vs := by
 obtain ⟨a, vs, c, rfl, m1, r1⟩ := r
 exact ⟨a, vs, c, rfl, m1, ⟨_, S.held _ m1, rfl, _, rfl⟩, r1⟩
noncomputable def lenD : D -> Option Nat
 | .tup ds => some ds.length
 | .lst ds => some ds.length
 | .str x => some x.cps.size
 | .bytes b => some b.length
 | _ => none
theorem sz_line {n : Nat} (h : n ≤ 1000000) : n ≤ sizeLine := Nat.le_trans h (Nat.le_of_ble_eq_true (show Nat.ble 1000000 sizeLine = true by rfl'))
theorem sz_63 {n : Nat} (h : n ≤ 1000000) : ¬ ((n : Nat) : Int) ≥ 2 ^ 63 := by lia
theorem blt_len {n d k} (e : lenD d = some k) (hk : Nat.ble k 1000000 = true) : BltOK n (.builtin "len") [d] (.int k) := by
 intro prog w A env h₀ L s m ρ ko led news vs Q E Si S r K
 obtain ⟨v, rfl, rv⟩ := Rs.inv1 r
 have hk := Nat.le_of_ble_eq_true hk
 cases d with
 | str x =>
  obtain rfl := Option.some.inj e
  obtain ⟨t, rfl⟩ := zAf rv
  exact Rows.len_str (sz_63 hk) (K _ s.heap _ led news S (fun _ h => h) R_int)
 | bytes x =>
  obtain rfl := Option.some.inj e
  obtain ⟨t, rfl⟩ := zBz rv
  exact W.len_bytes (le_k hk rfl) (K _ s.heap _ led news S (fun _ h => h) R_int)
 | tup =>
  obtain rfl := Option.some.inj e
  obtain ⟨a, ws, rfl, _, hi, rr⟩ := S.isTup rv
  rw [Rs.length rr] at hk K
  exact Rows.len_tuple hi (Int.not_le.mp (sz_63 hk)) (K _ s.heap _ led news S (fun _ h => h) R_int)
 | lst =>
  obtain rfl := Option.some.inj e
  obtain ⟨a, ws, c, rfl, _, hi, rr⟩ := S.isLst rv
  rw [Rs.length rr] at hk K
  exact Rows.len_list hi (Int.not_le.mp (sz_63 hk)) (K _ s.heap _ led news S (fun _ h => h) R_int)
 | _ => cases e
noncomputable def intD : D -> Option Int
 | .bool b => some (if b then 1 else 0)
 | .int i => some i
 | .str x => gd (Nat.ble x.cps.size 640) (PySem.intText? x)
 | _ => none
theorem blt_int {n d k} (e : intD d = some k) : BltOK n (.type "int") [d] (.int k) := by
 intro prog w A env h₀ L s m ρ ko led news vs Q E Si S r K
 obtain ⟨v, rfl, rv⟩ := Rs.inv1 r
 cases d with
 | bool =>
  obtain rfl := Option.some.inj e
  rw [zBd rv]
  exact call_int_bool (K _ s.heap _ led news S (fun _ h => h) R_int)
 | int =>
  obtain rfl := Option.some.inj e
  obtain ⟨t, rfl⟩ := zS rv
  exact call_int_int (K _ s.heap s.toks led news S (fun _ h => h) R_int)
 | str x =>
  have e : gd (Nat.ble x.cps.size 640) (PySem.intText? x) = some k := e
  cases hl : Nat.ble x.cps.size 640 with
  | false =>
   rw [hl] at e
   cases e
  | true =>
   rw [hl] at e
   obtain ⟨t, rfl⟩ := zAf rv
   exact KIN.call_text e (Nat.le_of_ble_eq_true hl) (K _ s.heap _ led news S (fun _ h => h) R_int)
 | _ => cases e
noncomputable def zAt (i : Int) : UInt8 := i.toNat.toUInt8
noncomputable def okByte (i : Int) : Bool := decide (0 ≤ i) && decide (i < 256)
theorem blt_bytes {n ds ns} (e : intsOf ds = some ns) (hb : ns.all okByte = true) (hl : Nat.ble ds.length 10000 = true) : BltOK n (.type "bytes") [.lst ds] (.bytes (ns.map zAt)) := by
 intro prog w A env h₀ L s m ρ ko led news vs Q E Si S r K
 obtain ⟨v, rfl, rv⟩ := Rs.inv1 r
 obtain ⟨a, ws, c, rfl, _, hi, rr⟩ := S.isLst rv
 have h1 := Nat.le_of_ble_eq_true hl
 rw [Rs.length rr] at h1
 refine bytes_K S.F S.N hi (ints_are rr _ e) (fun i hi => ?_) (sz_line (le_k h1 rfl)) Si.hd fun h' t k F N _ => ?_
 ·have := List.all_eq_true.mp hb i hi
  simpa [okByte] using this
 ·refine K _ h' k led news ⟨F, N, S.nd, S.kon, S.sub, S.dis, S.tab, S.loc⟩ (fun _ h => h) ?_
  exact R_bytes
theorem St.re {env h₀ L h h' m ρ ko led news} (S : St env h₀ L h m ρ ko led news) (F : Fr h₀ L h' m) (N : News h₀ L h' news) : St env h₀ L h' m ρ ko led news := ⟨F, N, S.nd, S.kon, S.sub, S.dis, S.tab, S.loc⟩
theorem blt_tuple {n ds} (hl : Nat.ble ds.length 10000 = true) : BltOK n (.type "tuple") [.lst ds] (.tup ds) := by
 intro prog w A env h₀ L s m ρ ko led news vs Q E Si S r K
 obtain ⟨v, rfl, rv⟩ := Rs.inv1 r
 obtain ⟨a, ws, c, rfl, _, hi, rr⟩ := S.isLst rv
 have h1 := Nat.le_of_ble_eq_true hl
 rw [Rs.length rr] at h1
 refine kde_tupleOf S.F S.N hi (le_k h1 rfl) rfl fun b h' F N lt => ?_
 refine K _ h' s.toks _ _ (S.grow (new := [(b, tupOf ws)]) F N (zQ S.nd lt)) (fun p hp => .tail _ hp) ?_
 exact R_tup (.head _) (Rs.mono (fun p hp => .tail _ hp) rr)
noncomputable def itemsD : D -> Option (List D)
 | .lst ds => some ds
 | .tup ds => some ds
 | _ => none
theorem blt_list {n d ds} (e : itemsD d = some ds) (hl : Nat.ble ds.length 10000 = true) : BltOK n (.type "list") [d] (.lst ds) := by
 intro prog w A env h₀ L s m ρ ko led news vs Q E Si S r K
 obtain ⟨v, rfl, rv⟩ := Rs.inv1 r
 have h1 := Nat.le_of_ble_eq_true hl
 cases d with
 | tup =>
  obtain rfl := Option.some.inj e
  obtain ⟨a, ws, rfl, hm, hi, rr⟩ := S.isTup rv
  rw [Rs.length rr] at h1
  refine kup_listOfT S.F S.N (S.sub _ hm) rfl (fun b c' h' F N lt => ?_) (sz_line (le_k h1 rfl))
  refine K _ h' s.toks _ _ (S.grow (new := [(b, listOf ws.toArray c')]) F N (zQ S.nd lt)) (fun p hp => .tail _ hp) ?_
  show R _ _ _
  exact R_lst (.head _) (Rs.mono (fun p hp => .tail _ hp) rr)
 | lst =>
  obtain rfl := Option.some.inj e
  obtain ⟨a, ws, c, rfl, hm, hi, rr⟩ := S.isLst rv
  rw [Rs.length rr] at h1
  refine kup_listOf S.F S.N (S.sub _ hm) rfl (fun b c' h' F N lt => ?_) (sz_line (le_k h1 rfl))
  refine K _ h' s.toks _ _ (S.grow (new := [(b, listOf ws.toArray c')]) F N (zQ S.nd lt)) (fun p hp => .tail _ hp) ?_
  show R _ _ _
  exact R_lst (.head _) (Rs.mono (fun p hp => .tail _ hp) rr)
 | _ => cases e
theorem blt_abs {n i} : BltOK n (.builtin "abs") [.int i] (.int (if i < 0 then -i else i)) := by
 intro prog w A env h₀ L s m ρ ko led news vs Q E Si S r K
 obtain ⟨v, rfl, rv⟩ := Rs.inv1 r
 obtain ⟨t, rfl⟩ := zS rv
 exact call_abs_int fun u tk => K _ s.heap tk led news S (fun _ h => h) R_int
theorem blt_sum {n ds ns} (e : intsOf ds = some ns) : BltOK n (.builtin "sum") [.lst ds] (.int ns.sum) := by
 intro prog w A env h₀ L s m ρ ko led news vs Q E Si S r K
 obtain ⟨v, rfl, rv⟩ := Rs.inv1 r
 obtain ⟨a, ws, c, rfl, hm, hi, rr⟩ := S.isLst rv
 exact sumK Si.hd S.F S.N hi (ints_are rr _ e) fun h' tk t' F N => K _ h' tk led news (S.re F N) (fun _ h => h) R_int
noncomputable def notSlice : Expr -> Bool
 | .Slice .. => false
 | _ => true
theorem subs_ops {slice o i} (h : notSlice slice = true) : subscripted slice false o i = operate [o, i] (getItem o i) := by
 cases slice <;> first | rfl | cases h
noncomputable def itemAt (d : D) (k : Int) : Option D := match d with
 | .tup ds => gd (decide (0 ≤ k) && decide (k < 1000000)) ds[k.toNat]?
 | .lst ds => gd (decide (0 ≤ k) && decide (k < 1000000)) ds[k.toNat]?
 | _ => none
theorem getElem_lt {α : Type} {l : List α} {i : Nat} {x : α} (h : l[i]? = some x) : i < l.length := by
 exact (List.getElem?_eq_some_iff.mp h).1
theorem item_nat {ds} {j : Nat} (h : j < 1000000) : itemAt (.lst ds) ((j : Nat) : Int) = ds[j]? := gd_true (Bool.and_eq_true_iff.mpr ⟨decide_eq_true (Int.natCast_nonneg j), decide_eq_true (Int.ofNat_lt.mpr h)⟩)
theorem item_c {k : Int} {ds : List D} {d : D} {G : Prop} (h : gd (decide (0 ≤ k) && decide (k < 1000000)) ds[k.toNat]? = some d) (g : 0 ≤ k -> k < 1000000 -> ds[k.toNat]? = some d -> G) : G := by
 cases q : decide (0 ≤ k) && decide (k < 1000000) with
 | false =>
  rw [q] at h
  cases h
 | true =>
  rw [q] at h
  exact and2 q fun a b => g (of_decide_eq_true a) (of_decide_eq_true b) h
theorem ev_idx {sc ρ n e i pos a k d} (hs : notSlice i = true) (h1 : EvE sc ρ n e a) (h2 : EvE sc ρ n i (.int k)) (ei : itemAt a k = some d) : EvE sc ρ n (.Subscript e i pos) d := by
 intro prog w A env h₀ L s m ko led news Q E hsc Si S K
 refine Rows.Subscript_ (h1 prog w A env h₀ L s m ko led news _ E hsc Si S fun v h' tk led' news' S' i1 ra => ?_)
 refine h2 prog w A env h₀ L _ m ko led' news' _ E hsc Si S' fun v2 h2' tk2 led2 news2 S2 i2 rb => ?_
 obtain ⟨t, rfl⟩ := zS rb
 cases a with
 | tup ds =>
  refine item_c ei fun h0 h1 ei => ?_
  obtain ⟨l, ws, rfl, hm, hi, rr⟩ := S2.isTup (R.mono i2 ra)
  obtain ⟨x, hx, rx⟩ := Rs.get rr ei
  have hlt := getElem_lt hx
  refine tail_any hi.typeIs slot_tuple_getitem.lookup (Rows.getItem_tuple hi (by lia) (by lia) (j := k.toNat) ?_ (by simpa using hx) (K x h2' tk2 led2 news2 S2 (Inc.trans i1 i2) rx)) (subs_ops hs)
  have hn : ¬ k < 0 := Int.not_lt.mpr h0
  simp [seqIndex?, hn, h0]
  lia
 | lst ds =>
  refine item_c ei fun h0 h1 ei => ?_
  obtain ⟨l, ws, c, rfl, hm, hi, rr⟩ := S2.isLst (R.mono i2 ra)
  obtain ⟨x, hx, rx⟩ := Rs.get rr ei
  exact tail_any hi.typeIs list_getitem_lookup (getItem_listL hi h0 (by lia) hx (K x h2' tk2 led2 news2 S2 (Inc.trans i1 i2) rx)) (subs_ops hs)
 | _ => cases ei
theorem kept2 {h₀ L m news} : KeptH (fun h => Fr h₀ L h m ∧ News h₀ L h news) :=
 fun h ob H => ⟨Fr.pushS H.1 ob, H.2.grown fun _ _ e => Heap.get?_push_of_some _ e⟩
section
variable {prog : Program} {w : World} {A : Around} {E : Value -> Shared -> Prop} {s : Shared} {value slice : Expr} {o i : Value} {Q : Value -> Shared -> Prop}
theorem tail_item {ops} (h : ItemOn (model prog w) A E o i Q s) (hs : subscripted slice false o i = operate ops (getItem o i)) : wpAny (model prog w) A (subscriptTail value slice o i) Q E s := by
 obtain ⟨T, id, hl, hT, hg⟩ := h
 exact tail_any hT hl hg hs
end
theorem ev_slice_to {sc ρ n e u p pos x j} (h1 : EvE sc ρ n e (.str x)) (h2 : EvE sc ρ n u (.int j)) (hx : Nat.ble x.cps.size 1000000 = true) : EvE sc ρ n (.Subscript e (.Slice none (some u) none p) pos) (.str (Txt.slice x none (some j))) := by
 intro prog w A env h₀ L s m ko led news Q E hsc Si S K
 refine Rows.Subscript_ (h1 prog w A env h₀ L s m ko led news _ E hsc Si S fun v h' tk led' news' S' i1 ra => ?_)
 refine wpAny_Slice (evalPart_none_step (evalPart_some_step (h2 prog w A env h₀ L _ m ko led' news' _ E hsc Si S' fun v2 h2' tk2 led2 news2 S2 i2 rb => evalPart_none_step ?_)))
 obtain ⟨t, rfl⟩ := zS rb
 obtain ⟨t', rfl⟩ := zAf ra
 refine tail_item (SBH.sliceItem_ns (s := (sw s h2' tk2)) kept2 ⟨S2.F, S2.N⟩ (fun h3 t3 k3 P3 => K _ h3 k3 led2 news2 (S2.re P3.1 P3.2) (Inc.trans i1 i2) R_str) ?_) rfl
 have := Nat.le_of_ble_eq_true hx
 show x.cps.size ≤ _
 have hsl : sizeLine = 2 ^ 24 := rfl
 lia
theorem ev_slice_from {sc ρ n e u p pos x j} (h1 : EvE sc ρ n e (.str x)) (h2 : EvE sc ρ n u (.int j)) (hx : Nat.ble x.cps.size 1000000 = true) : EvE sc ρ n (.Subscript e (.Slice (some u) none none p) pos) (.str (Txt.slice x (some j) none)) := by
 intro prog w A env h₀ L s m ko led news Q E hsc Si S K
 refine Rows.Subscript_ (h1 prog w A env h₀ L s m ko led news _ E hsc Si S fun v h' tk led' news' S' i1 ra => ?_)
 refine wpAny_Slice (evalPart_some_step (h2 prog w A env h₀ L _ m ko led' news' _ E hsc Si S' fun v2 h2' tk2 led2 news2 S2 i2 rb => evalPart_none_step (evalPart_none_step ?_)))
 obtain ⟨t, rfl⟩ := zS rb
 obtain ⟨t', rfl⟩ := zAf ra
 refine tail_item (SBH.sliceItem_sn (s := (sw s h2' tk2)) kept2 ⟨S2.F, S2.N⟩ (fun h3 t3 k3 P3 => K _ h3 k3 led2 news2 (S2.re P3.1 P3.2) (Inc.trans i1 i2) R_str) ?_) rfl
 have := Nat.le_of_ble_eq_true hx
 show x.cps.size ≤ _
 have hsl : sizeLine = 2 ^ 24 := rfl
 lia
theorem putL_new {x} {hsh : Int} {key v} : ∀ {es ns}, zAe es ns -> ns.any (eqS x) = false -> putL x hsh key v es = es ++ [⟨hsh, key, v⟩]
 | [], ns, k, h => rfl
 | e :: es, ns, k, h => by
  obtain ⟨n, t, rfl, ⟨u, hk⟩, k'⟩ := k
  simp only [List.any_cons, Bool.or_eq_false_iff] at h
  have h0 : e.key.isStr x = false := by
   rw [hk, isStr_of, ← Bool.not_eq_true, beq_iff_eq]
   intro e; rw [e, zI] at h; cases h.1
  rw [putL, h0, putL_new k' h.2]
  rfl
theorem zAe.snoc {x} {hsh : Int} {t v} : ∀ {es ns}, zAe es ns -> zAe (es ++ [⟨hsh, .str x t, v⟩]) (ns ++ [x])
 | [], ns, k => by
  have : ns = [] := k
  subst this
  exact ⟨x, [], rfl, ⟨t, rfl⟩, rfl⟩
 | e :: es, ns, k => by
  obtain ⟨n, r, rfl, hk, k'⟩ := k
  exact ⟨n, r ++ [x], rfl, hk, k'.snoc⟩
theorem zAe.len : ∀ {es ns}, zAe es ns -> es.length = ns.length
 | [], ns, k => by have : ns = [] := k; subst this; rfl
 | e :: es, ns, k => by obtain ⟨n, r, rfl, hk, k'⟩ := k; simp [k'.len]
theorem St.setObj {env h₀ L h h' m ρ ko led news} {x dx a} {C : Nat} {es es'} {k k' : Nat} {ns ns' ds ds'} {g : Obj -> Led} (S : St env h₀ L h m ρ ko led news) (hl : env.locals = L)
  (e : fnd x ρ = some (.obj C ns ds)) (hv : m x = some (.ref a)) (hhd : ko.head? = some (a, instObj C dx)) (hm : (dx, dictOf es k) ∈ news) (h1 : dx ∉ keyL led) (h2 : dx ∉ keyL ko) (U : UpdF dx (dictOf es k) news g)
  (hg : ∀ o' p, p ∈ g o' ↔ p = (dx, o') ∨ (p ∈ news ∧ p.1 ≠ dx)) (F : Fr h₀ L h' m) (N : News h₀ L h' (g (dictOf es' k'))) (ke : zAe es' ns') (r : Rs led ds' (es'.map (·.val))) :
  St env h₀ L h' m (put x (.obj C ns' ds') ρ) ko led (g (dictOf es' k')) where
 F := F
 N := N
 nd := by rw [updF_keys U]; exact S.nd
 kon := fun p hp => (hg _ p).mpr (.inr ⟨S.kon p hp, fun q => h2 (q ▸ zC (o := p.2) hp)⟩)
 sub := fun p hp => (hg _ p).mpr (.inr ⟨S.sub p hp, fun q => h1 (q ▸ zC (o := p.2) hp)⟩)
 dis := S.dis
 tab := fun P hP => by
  obtain ⟨hn, ps, hp, gd⟩ := S.tab P hP
  refine ⟨hn, ps, (hg _ _).mpr (.inr ⟨hp, fun (q : P = dx) => ?_⟩), gd⟩
  subst q
  have := congrArg Obj.cls (zAm S.nd hm hp)
  cases this
 loc := by
  obtain ⟨mm, X⟩ := S.loc
  obtain rfl := S.fn hl X
  refine ⟨mm, X.putKeep e rfl hv ⟨a, dx, es', k', _, rfl, hhd, (hg _ _).mpr (.inl rfl), ke, rfl, r, h1, h2⟩ fun y lv u q ey V O => ?_⟩
  cases lv with
  | val d => exact O
  | own ds2 =>
   obtain ⟨b, vs2, c2, rfl, m2, r2, n1, n2⟩ := O
   refine ⟨b, vs2, c2, rfl, (hg _ _).mpr (.inr ⟨m2, fun (q : b = dx) => ?_⟩), r2, n1, n2⟩
   subst q
   exact no_ld (zAm S.nd m2 hm)
  | obj C2 ns2 ds2 =>
   obtain ⟨b, dx2, es2, n2, vs2, rfl, m2, _⟩ := O
   rw [hhd] at m2
   cases m2
   exact absurd (X.inj y x _ _ _ ey e rfl rfl (V rfl) hv) q
theorem getL_isSome {x es ns} (k : zAe es ns) (h : ns.any (eqS x) = false) : (getL x es).isSome = true := by rw [getL_none k h]; rfl
theorem ex1_setattr {sc ρ n x xpos att apos e pos C ns ds d} (ex : fnd x ρ = some (.obj C ns ds)) (hd : zM x = true) (ha : isAt C att = true) (hnew : ns.any (eqS att) = false) (hl : Nat.ble ns.length 100 = true) (hn : zBx e = true)
  (he : EvE sc ρ n e d) : Ex1 sc ρ n (.Assign [.Attribute (.Name x xpos) att apos] e pos) .next (put x (.obj C (ns ++ [att]) (ds ++ [d])) ρ) := by
 intro prog w A env h₀ L s m ko led news Q hs hloc Si S K
 refine plainObj_wpAny_Assign_Attribute (he prog w A env h₀ L s m ko led news _ _ hs Si S fun v h' tk led' news' S' i rv => ?_) (noSwap hn _ _ _)
 obtain ⟨mm, X⟩ := S'.loc
 obtain rfl := S'.fn hloc X
 obtain ⟨u, V, ⟨a, dx, es, k, vs, rfl, hhd, hm, ke, rfl, r, h1, h2⟩, kk⟩ := X.at' x _ ex
 have hv := V.local (kk rfl)
 refine load_vw Si.kd S' X.lc V hd ?_
 obtain ⟨g, U, hg⟩ := zCi S'.nd hm
 obtain ⟨c1, c2⟩ := chk_of (P := w.params) ha
 have c1 := chk_c c1
 have c2 := chk_a c2
 have hlen := Nat.le_of_ble_eq_true hl
 have hkl := ke.len
 refine set_dict (s := (sw s h' tk)) (n' := putN att es k) S'.F Si.X S'.N (W.InstAt.of_news S'.N (S'.kon _ (zAw hhd)) hm) rfl c1.1.1.2 c1.1.2 c2.2 c1.1.1.1 (getL_isSome ke hnew) (by rw [putL_new ke hnew]) (zCh U) (by rw [List.length_append]; simp; lia) fun h2' F2 N2 => ?_
 refine K .next h2' _ _ led' _ (S'.setObj hloc ex hv hhd hm h1 h2 U hg F2 N2 ke.snoc ?_) i rfl
 rw [List.map_append]
 exact Rs.append r (Rs.one rv)
theorem frames_under_make (A : Around) (C : Addr) (vals : List Value) {fs} (h : A.frames = some fs) : (A.under (.builtin "type.__call__" ⟨.ref C :: vals, []⟩)).frames = some fs := by
 obtain ⟨hd, d, fr, gs, u⟩ := A
 cases h
 rfl
theorem Sit.make {w A env h₀ L n} (S : Sit w A env h₀ L (n + 1)) (C : Addr) (vals : List Value) : Sit w (A.under (.builtin "type.__call__" ⟨.ref C :: vals, []⟩)) env h₀ L n := by
 obtain ⟨A₀, base, outer, fenv, B, hA, hfr, hke⟩ := S.fr
 refine ⟨⟨A₀, base, outer, fenv, B, frames_under_make A C vals hA, hfr, hke⟩, S.kd, S.gl, S.bl, S.X, S.T, S.hd, ?_, ?_, S.hs⟩
 ·rw [depth_under_make]; exact S.d1
 ·rw [units_under_make]; exact S.uk 1 rfl
noncomputable def InitOK (n : Nat) (f : Addr) (C : Nat) (ns0 : List Str) (fs0 ds : List D) (ns : List Str) (fs : List D) : Prop :=
 ∀ (prog : Program) (w : World) (A : Around) (env : Env) (h₀ : Heap) (L : Addr) (s : Shared) (m : Str -> Option Value) (ρ : Loc) (ko led news : Led) (vs : List Value) (Rr : Result -> Shared -> Prop) (x dx : Addr) (es : List DictEntry) (k : Nat),
  Sit w A env h₀ L n -> St env h₀ L s.heap m ρ ko led news -> Rs led ds vs -> (x, instObj C dx) ∈ news -> (dx, dictOf es k) ∈ news -> zAe es ns0 -> Rs led fs0 (es.map (·.val)) -> x ∉ keyL led -> dx ∉ keyL led ->
  (∀ h' tk led' news' es' k', Fr h₀ L h' m -> News h₀ L h' news' -> (keyL news').Nodup -> TabOK led' news' -> (∀ p ∈ koOf led news, p.1 ≠ dx -> p ∈ news' ∧ p.1 ∉ keyL led') -> (Inc led' news') -> Inc led led' -> (x, instObj C dx) ∈ news' -> (dx, dictOf es' k') ∈ news' -> x ∉ keyL led' -> dx ∉ keyL led' ->
   zAe es' ns -> Rs led' fs (es'.map (·.val)) -> Rr (.ok (.ret .none)) (sw s h' tk)) ->
  codeAny (model prog w) A (.call (.ref f) ⟨.ref x :: vs, []⟩) Rr s
theorem InitOK.up {n k f C ns0 fs0 ds ns fs} (h : InitOK n f C ns0 fs0 ds ns fs) (hk : n ≤ k) : InitOK k f C ns0 fs0 ds ns fs :=
 fun prog w A env h₀ L s m ρ ko led news vs Rr x dx es k' Si => h prog w A env h₀ L s m ρ ko led news vs Rr x dx es k' (Si.le hk)
theorem ne_dict {news x dx} {C k0 : Nat} {es0} (nd : (keyL news).Nodup) (hxm : (x, instObj C dx) ∈ news) (hdm : (dx, dictOf es0 k0) ∈ news) : x ≠ dx := by
 rintro rfl
 have := congrArg Obj.cls (zAm nd hxm hdm)
 cases this
noncomputable abbrev koI (x C dx : Nat) (led news : Led) : Led := (x, instObj C dx) :: (koOf led news).filter (fun p => decide (p.1 ≠ dx))
theorem koI_mem {env h₀ L h m ρ ko led news} {x dx} {C k0 : Nat} {es0} (S : St env h₀ L h m ρ ko led news) (hxm : (x, instObj C dx) ∈ news) (hdm : (dx, dictOf es0 k0) ∈ news) (hxl : x ∉ keyL led) : ∀ p ∈ koI x C dx led news, p ∈ koOf led news ∧ p.1 ≠ dx := by
 intro p hp
 rcases List.mem_cons.mp hp with rfl | hp
 ·exact ⟨own_koOf S.nd S.tab hxm hxl (by intro h; cases h), ne_dict S.nd hxm hdm⟩
 ·have := List.mem_filter.mp hp
  exact ⟨this.1, by simpa using this.2⟩
theorem St.enterI {env h₀ g h h₁ L L' m ρ ko led news r self names xs us x dx} {C k0 : Nat} {ns0 fs0 es0} (S : St env h₀ L h m ρ ko led news)
  (F' : Fr g L' h₁ (fun y => ((self :: names).zip (.ref x :: us)).reverse.lookup y)) (N' : News g L' h₁ news) (hdis : zAz (self :: names) = true) (hl : names.length = us.length) (hloc : (self :: names).all (fun x => fnd x (zD r.st).names == some .local) = true) (hall : Rs led xs us)
  (hxm : (x, instObj C dx) ∈ news) (hdm : (dx, dictOf es0 k0) ∈ news) (hxl : x ∉ keyL led) (hdl : dx ∉ keyL led) (hke0 : zAe es0 ns0) (hr0 : Rs led fs0 (es0.map (·.val))) :
  St (fE r L') g L' h₁ (fun y => ((self :: names).zip (.ref x :: us)).reverse.lookup y) ((self, .obj C ns0 fs0) :: vals names xs) (koI x C dx led news) led news := by
 have hko := koI_mem S hxm hdm hxl
 have hz : ((self :: names).zip (.ref x :: us)).map (·.1) = self :: names := zip_fst (congrArg Nat.succ hl)
 refine ⟨F', N', S.nd, fun p hp => (zAd.mp (hko p hp).1).1, S.sub, fun a ha => ?_, S.tab, ⟨_, .fn rfl rfl, fun y lv e => ?_, fun y z ly lz u f1 f2 g1 g2 _ _ => ?_⟩⟩
 ·obtain ⟨p, hp, rfl⟩ := List.mem_map.mp ha
  exact (zAd.mp (hko p hp).1).2
 ·simp only [fnd] at e
  split at e
  ·rename_i q
   obtain rfl := zW.mp q
   cases e
   have hkl : (fE r L').kindOf y = some .local := by
    show (zD r.st).names.lookup y = _
    rw [zAc]
    exact beq_iff_eq.mp (List.all_eq_true.mp hloc y (.head _))
   refine ⟨.ref x, .loc hkl ?_, ⟨x, dx, es0, k0, _, rfl, rfl, hdm, hke0, rfl, hr0, hdl, fun hq => ?_⟩, fun _ => hkl⟩
   ·show List.lookup y _ = _
    rw [zAc, fnd_reverse (by rw [hz]; exact hdis)]
    simp [fnd, zI]
   ·obtain ⟨p, hp, e⟩ := List.mem_map.mp hq
    exact (hko p hp).2 e
  ·rename_i q
   obtain ⟨d', v, rfl, e1, r1⟩ := fnd_vals hall e
   have hm : y ∈ names := by
    have : y ∈ (names.zip us).map (·.1) := List.mem_map.mpr ⟨(y, v), fnd_mem e1, rfl⟩
    rw [zip_fst hl] at this
    exact this
   refine ⟨v, .loc ?_ ?_, r1, fun h => by cases h⟩
   ·show (zD r.st).names.lookup y = _
    rw [zAc]
    exact beq_iff_eq.mp (List.all_eq_true.mp hloc y (.tail _ hm))
   ·show List.lookup y _ = _
    rw [zAc, fnd_reverse (by rw [hz]; exact hdis)]
    simp only [List.zip_cons_cons, fnd]
    rw [if_neg q]
    exact e1
 ·have own1 : ∀ y ly, fnd y ((self, LV.obj C ns0 fs0) :: vals names xs) = some ly -> isVal ly = false -> y = self := fun y ly e hv => by
   simp only [fnd] at e
   split at e
   ·rename_i q; exact zW.mp q
   ·obtain ⟨d', v, rfl, _⟩ := fnd_vals hall e
    cases hv
  rw [own1 y ly f1 g1, own1 z lz f2 g2]
theorem init_of_body {r self names} {k n : Nat} {ex ds} {C : Nat} {ns0 ns fs0 fs ρ'} (G : Gd r (self :: names) (k + 1) ex) (hk : ds.length = k)
  (hx : ExS (zD r.st).names ((self, .obj C ns0 fs0) :: vals names (ds ++ ex)) n (zG r.st) .next ρ') (hf : fnd self ρ' = some (.obj C ns fs)) : InitOK (n + 1) r.f C ns0 fs0 ds ns fs := by
 intro prog w A env h₀ L s m ρ ko led news vs Rr x dx es0 k0 Si S rr hxm hdm hke0 hr0 hxl hdl K
 obtain ⟨A₀, base, outer, fenv, B, hA, hfr, hke⟩ := Si.fr
 obtain ⟨mean, mg, mb, T⟩ := Si.T
 obtain ⟨h1, h2, h3, h4⟩ := plainSc_of G.hsc
 obtain ⟨e1, e2⟩ := fn_ok w.params r G.hr
 rw [fnO_eq] at e1
 obtain ⟨es, re, hbind, hl, hz, hlo⟩ := G.go (s := s) (vs := .ref x :: vs) (Si.X.keeps S.F.keep) (congrArg (· + 1) ((Rs.length rr).symm.trans hk))
 have hall : Rs led (ds ++ ex) (vs ++ es) := Rs.append rr (Rs.mono (led := []) (by intro p hp; cases hp) re)
 refine code_def B S.F Si.X S.N T hA hfr hke e1 e2 Si.d0 hbind hlo (fun g L' h₁ FG F' N' B' X' T' => ?_) h1 h2 h3 h4
 ·refine wpAny_noRaise ?_
  have hko := koI_mem S hxm hdm hxl
  have S' := S.enterI (r := r) (ns0 := ns0) (fs0 := fs0) F' N' G.hdis (Nat.succ.inj hl) G.hloc hall hxm hdm hxl hdl hke0 hr0
  have Si' : Sit w (A.deeper (fE r L')) (fE r L') g L' n := Si.deep hA B' X' ⟨mean, mg, mb, T'⟩ rfl h3 rfl rfl
  refine hx prog w _ _ g L' (sw s h₁ _) _ _ led news _ rfl rfl Si' S' fun f h' tk m' led' news' S'' i hfl => ?_
  have : f = .next := hfl
  subst this
  refine leaveK_ S''.F S''.N fun F2 N2 => ?_
  obtain ⟨mm, X⟩ := S''.loc
  obtain ⟨v, V, ⟨a, dx', es', k', vs', rfl, hhd, hdm', ke', rfl, rfs, n1, n2⟩, _⟩ := X.at' self _ hf
  cases hhd
  have hkeep : ∀ p ∈ koOf led news, p.1 ≠ dx -> p ∈ news' ∧ p.1 ∉ keyL led' := fun p hp hne => by
   have hmem : p ∈ koI x C dx led news := .tail _ (List.mem_filter.mpr ⟨hp, by simpa using hne⟩)
   exact ⟨S''.kon p hmem, (S''.dis p.1 (zC (o := p.2) hmem)).1⟩
  exact K h' tk led' news' es' k' F2 N2 S''.nd S''.tab hkeep S''.sub i (S''.kon _ (.head _)) hdm' (S''.dis x (zC (.head _))).1 n1 ke' rfs
noncomputable def inOf (C : Nat) : List (Nat × Nat) -> Option Nat
 | [] => none
 | (c, f) :: r => if Nat.beq c C then some f else inOf C r
theorem inOf_mem {C f : Nat} : ∀ {l : List (Nat × Nat)}, inOf C l = some f -> (C, f) ∈ l
 | [], h => by cases h
 | (c, g) :: r, h => by
  unfold inOf at h
  split at h
  ·rename_i q
   obtain rfl := Nat.eq_of_beq_eq_true q
   cases h
   exact .head _
  ·exact .tail _ (inOf_mem h)
theorem St.over {env h₀ L h h' m ρ ko led news led' news'} (S : St env h₀ L h m ρ ko led news) (F : Fr h₀ L h' m) (N : News h₀ L h' news') (nd : (keyL news').Nodup) (tab : TabOK led' news') (hk : ∀ p ∈ koOf led news, p ∈ news' ∧ p.1 ∉ keyL led')
  (hs : Inc led' news') (i : Inc led led') : St env h₀ L h' m ρ ko led' news' where
 F := F
 N := N
 nd := nd
 kon := fun p hp => (hk p (zAd.mpr ⟨S.kon p hp, S.dis p.1 (zC (o := p.2) hp)⟩)).1
 sub := hs
 dis := fun a ha => by
  obtain ⟨p, hp, rfl⟩ := List.mem_map.mp ha
  exact ⟨(hk p (zAd.mpr ⟨S.kon p hp, S.dis p.1 ha⟩)).2, (S.dis p.1 ha).2⟩
 tab := tab
 loc := by
  obtain ⟨mm, X⟩ := S.loc
  refine ⟨mm, X.lc, fun x lv e => ?_, X.inj⟩
  obtain ⟨v, V, O, k⟩ := X.at' x lv e
  exact ⟨v, V, O.mono i (fun a o hm hn _ hc => hk _ (own_koOf S.nd S.tab hm hn hc)), k⟩
theorem ev_new {sc ρ n x xpos pos e0 es ds C f ns fs} (hk : zZ sc x = true) (hd : zM x = true) (e : fnd x gTab = some (.ref C)) (hi : inOf C inTab = some f) (hst : (e0 :: es).all zP = true)
  (ha : EvL sc ρ (n + 1) (e0 :: es) ds) (hc : InitOK n f C [] [] ds ns fs) : EvE sc ρ (n + 1) (.Call (.Name x xpos) (e0 :: es) [] pos) (.inst C ns fs) := by
 intro prog w A env h₀ L s m ko led news Q E hs Si S K
 have e1 := List.all_eq_true.mp (in_ok w.params) _ (inOf_mem hi)
 have e1 := and4p e1
 refine Rows.Call_ (zBl hs Si S hk hd e ?_)
 simp only [List.all_cons, Bool.and_eq_true] at hst
 refine callWith_K (h₀ := h₀) Si.X e1.1.2 ?_ (zB hst.1) (by rw [zAr]; exact zAa hst.2)
 refine ha prog w A env h₀ L s m ko led news _ E pos hs Si S fun vs h' tk led' news' S' i r => ?_
 refine ⟨Si.X.keeps S'.F.keep, ?_⟩
 refine call_cls (s := (sw s h' tk)) (kw := []) S'.F Si.X S'.N e1.2 (beq_iff_eq.mp e1.1.1.1) e1.1.1.2 fun x dx h2 F2 N2 lt ltx => ?_
 have nd2 : (keyL ((x, instObj C dx) :: (dx, dictOf [] 0) :: news')).Nodup := by
  have h1 := zQ (o := dictOf [] 0) S'.nd lt
  exact zQ (a := x) (o := instObj C dx) h1 fun p hp => by
   rcases List.mem_cons.mp hp with rfl | hp
   ·exact ltx
   ·exact Nat.lt_trans (lt p hp) ltx
 have S2 : St env h₀ L h2 m ρ ko led' ((x, instObj C dx) :: (dx, dictOf [] 0) :: news') := S'.apart (new := [(x, instObj C dx), (dx, dictOf [] 0)]) F2 N2 nd2
 have hdl : dx ∉ keyL led' := zBh fun p hp => lt p (S'.sub p hp)
 have hxl : x ∉ keyL led' := zBh fun p hp => Nat.lt_trans (lt p (S'.sub p hp)) ltx
 refine hc prog w _ env h₀ L (sw s h2 tk) m ρ ko led' _ vs _ x dx [] 0 (Si.make C vs) S2 r (.head _) (.tail _ (.head _)) rfl Rs.nil hxl hdl ?_
 intro h3 tk3 led3 news3 es3 k3 F3 N3 nd3 tab3 hkeep hsub3 i3 hx3 hd3 nx3 ndx3 ke3 rf3
 refine ⟨rfl, ?_⟩
 have hk' : ∀ p ∈ koOf led' news', p ∈ news3 ∧ p.1 ∉ keyL ((x, instObj C dx) :: (dx, dictOf es3 k3) :: led3) := fun p hp => by
  have hp' := zAd.mp hp
  have hlt := lt p hp'.1
  have h1 := hkeep p (zAd.mpr ⟨.tail _ (.tail _ hp'.1), hp'.2⟩) (Nat.ne_of_lt hlt)
  exact ⟨h1.1, zU (zU h1.2 (Nat.ne_of_lt hlt)) (Nat.ne_of_lt (Nat.lt_trans hlt ltx))⟩
 have hs3 : ∀ p ∈ (x, instObj C dx) :: (dx, dictOf es3 k3) :: led3, p ∈ news3 := fun p hp => by
  rcases List.mem_cons.mp hp with rfl | hp
  ·exact hx3
  ·rcases List.mem_cons.mp hp with rfl | hp
   ·exact hd3
   ·exact hsub3 p hp
 have up : ∀ p ∈ led3, p ∈ (x, instObj C dx) :: (dx, dictOf es3 k3) :: led3 := fun p hp => .tail _ (.tail _ hp)
 refine K _ h3 tk3 _ news3 (S'.over F3 N3 nd3 ((tab3.add nd3 hd3 (by intro h; cases h)).add nd3 hx3 (by intro h; simp [X.tableObj] at h)) hk' hs3 fun p hp => up p (i3 p hp)) (fun p hp => up p (i3 p (i p hp))) ?_
 exact R_inst (.head _) (.tail _ (.head _)) ke3 (Rs.mono up rf3)
end
end Mine
end
section
open PySem PySem.W PyProof.Rows PySem.Calls PyProof PySem.SeqAt
set_option Elab.async false
set_option maxRecDepth 100000
set_option linter.all false
namespace Mine
noncomputable section
inductive ExcC (look : Addr -> Option Obj) (C : Addr) : Prop
 | mk (nm qn : Str) (N : Addr) (bs bm : List Value) (hdct : Bool) (sn : List Str) (sub : List Value) (ab : Bool) (col : Option Bool) (dd : Option Addr) (k0 k1 k2 k3 k5 : Option Value) : look C = some (excClassObj nm qn C N bs bm hdct sn sub ab col dd k0 k1 k2 k3 k5 "Exception.__new__") ->
  bm.contains (.type "Exception") = true -> bm.contains (.type "BaseException") = true -> bm.contains (.type "AttributeError") = false -> bm.contains (.type "NameError") = false -> ExcC look C
theorem exc_of {K : Frag} {h : Heap} {C : Addr} (X : K.In h) (q : ExcC (fun a => K.lookup a) C) : ExcC h.get? C := by
 cases q with
 | mk _ _ _ _ _ _ _ _ _ _ _ _ _ _ _ _ ho a b c d => exact .mk _ _ _ _ _ _ _ _ _ _ _ _ _ _ _ _ (X _ _ ho) a b c d
section
variable {h : Heap} {g : Array GenState} {d : Drawn} {t : Nat} {os : OsState}
variable {nm q : Str} {C N : Addr} {bs bm : List Value} {hdct : Bool} {sn : List Str} {sub : List Value} {ab : Bool} {col : Option Bool} {dd : Option Addr} {k0 k1 k2 k3 k5 : Option Value}
theorem exc_check {M : Model} {A E} (hB : bm.contains (.type "Exception") = true) {rest Q} (hC : h.get? C = some (excClassObj nm q C N bs bm hdct sn sub ab col dd k0 k1 k2 k3 k5 "Exception.__new__"))
  (hq : Q () ⟨h, g, d, t, os⟩) : wpAny M A (checkBuiltinCall "Exception.__new__" ⟨.ref C :: rest, []⟩) Q E ⟨h, g, d, t, os⟩ := by
 have hcont : (Value.ref C :: bm).contains (.type "Exception") = true := by rw [List.contains_cons, hB, Bool.or_true]
 have hstar := F.excBase_Exception.noStar
 simp only [checkBuiltinCall, F.excBase_Exception.newKind, F.excBase_Exception.newSplit, F.excBase_Exception.newRow]
 repeat (first | refine wpAny_loadPart_at hC ?_ | (refine wpAny_isSubtype_exc hC ?_; rw [hcont]) | refine wpAny_staticBase_exc hC ?_ | refine wpAny_madeBy_exc hC ?_ | simp only [bne_self_eq_false, Bool.false_eq_true, if_false] | wp_step)
 exact hq
theorem exc_new {prog w A R} (hB : bm.contains (.type "Exception") = true) (nA : bm.contains (.type "AttributeError") = false) (nN : bm.contains (.type "NameError") = false) {rest} (hC : h.get? C = some (excClassObj nm q C N bs bm hdct sn sub ab col dd k0 k1 k2 k3 k5 "Exception.__new__"))
  (hq : R (.ok (.ret (.ref (h.objs.size + 1)))) ⟨(h.push { cls := .type "tuple", data := .seq rest.toArray }).push { cls := .ref C, data := .fields #[.ref h.objs.size, .none, .none, .none, .bool false, .none] }, g, d, t, os⟩) (hrest : rest.length ≤ sizeLine) :
  codeAny (model prog w) A (.builtin "Exception.__new__" ⟨.ref C :: rest, []⟩) R ⟨h, g, d, t, os⟩ := by
 have hends := F.excBase_Exception.ends
 have hcB : (Value.ref C :: bm).contains (.type "Exception") = true := by rw [List.contains_cons, hB, Bool.or_true]
 have hcA : (Value.ref C :: bm).contains (.type "AttributeError") = false := by rw [List.contains_cons, nA]; rfl
 have hcN : (Value.ref C :: bm).contains (.type "NameError") = false := by rw [List.contains_cons, nN]; rfl
 refine codeAny_builtinAt F.excBase_Exception.entry ?_
 unfold Builtin.«BaseException.__new__»
 refine PySem.wpAt_bind ?_
 show PySem.wpAt _ _ _ (stack >>= _) _ _ _
 refine PySem.wpAt_bind (PySem.wpAt_stack fun p below => PySem.wpAt_of_wpAny ?_)
 wp_walk
 refine PySem.wpAt_of_wpAny ?_
 rw [F.excBase_Exception.owner]
 repeat (first | with_reducible refine wpAny_madeHere_exc F.excBase_Exception.canon hC ?_ | with_reducible refine wpAny_loadPart_at hC ?_ | (with_reducible refine wpAny_isSubtype_exc hC ?_; first | rw [hcB] | rw [hcA] | rw [hcN]) | wp_step)
 show R _ _
 rw [Heap.size_push]
 exact hq
noncomputable abbrev zCg (C t : Addr) : Obj := { cls := .ref C, data := .fields #[.ref t, .none, .none, .none, .bool false, .none] }
theorem call_own {prog w A E rest fI oI Q} (hB : bm.contains (.type "Exception") = true) (nA : bm.contains (.type "AttributeError") = false) (nN : bm.contains (.type "NameError") = false)
  (hC : h.get? C = some (excClassObj nm q C N bs bm hdct sn sub ab col dd k0 k1 k2 k3 k5 "Exception.__new__")) (hL : Looks (model prog w) h (typeLookup (.ref C) "__init__") (some (.ref fI))) (hfI : h.get? fI = some oI) (hfc : oI.cls = .type "function") (hrest : rest.length ≤ sizeLine)
  (hq : wpAny (model prog w) (A.under (.builtin "type.__call__" ⟨.ref C :: rest, []⟩)) (call (.ref fI) (.ref (h.objs.size + 1) :: rest)) (fun r s' => r = .none ∧ Q (.ref (h.objs.size + 1)) s') E
   ⟨(h.push { cls := .type "tuple", data := .seq rest.toArray }).push (zCg C h.objs.size), g, d, t, os⟩) : wpAny (model prog w) A (call (.ref C) rest) Q E ⟨h, g, d, t, os⟩ := by
 have f1 := tc_lookup
 have f2 := tc_bind (.ref C)
 have hT : (⟨h, g, d, t, os⟩ : Shared).TypeIs (.ref C) "type" := ⟨_, hC, rfl⟩
 refine wpAny_call (codeAny_of_tree ?_)
 show wpAny _ _ (callAny (.ref C) _) _ _ _
 repeat (any_goals (first | assumption | with_reducible refine wpAny_loadPart_at hC ?_ | wp_step))
 refine ⟨rfl, ?_⟩
 refine codeAny_call_builtin_at (Code.quiet_builtin _ (by decide +kernel)) entry_typeCall (wpAny_check_type_call_sub hC ?_)
 repeat (first | with_reducible refine wpAny_loadPart_at hC ?_ | with_reducible refine wpAny_madeBy_exc hC ?_ | wp_step)
 refine codeAny_call_builtin_code (Code.quiet_builtin _ F.excBase_Exception.quiet) (exc_check hB hC ?_)
 refine exc_new hB nA nN hC ?_ hrest
 show wpAny _ _ _ _ _ _
 have kp : ∀ b o, h.get? b = some o -> ((h.push { cls := .type "tuple", data := .seq rest.toArray }).push (zCg C h.objs.size)).get? b = some o := fun b o e => Heap.get?_push_of_some _ (Heap.get?_push_of_some _ e)
 have hC₁ := kp _ _ hC
 have hfI₁ := kp _ _ hfI
 have hget : ((h.push { cls := .type "tuple", data := .seq rest.toArray }).push (zCg C h.objs.size)).get? (h.objs.size + 1) = some { cls := .ref C, data := .fields #[.ref h.objs.size, .none, .none, .none, .bool false, .none] } := by heap_get
 have hcC : (Value.ref C :: bm).contains (.ref C) = true := by simp
 unfold isInstance
 repeat (first | with_reducible refine wpAny_loadPart_at hget ?_ | (with_reducible refine wpAny_isSubtype_exc hC₁ ?_; rw [hcC]) | wp_step)
 refine wpAny_isSubtype_exc hC₁ ?_
 rw [show (Value.ref C :: bm).contains (zCg C h.objs.size).cls = true from hcC]
 repeat wp_step
 show wpAny _ _ (typeLookup (.ref C) _) _ _ _
 refine (hL.keeps kp).here ?_
 refine wpAny_holding (wpAny_bind ?_)
 unfold bindSpecial
 refine wpAny_bind (wpAny_typeOf (T := "function") ⟨_, hfI₁, hfc⟩ ?_)
 rw [if_pos (by decide)]
 refine wpAny_pure (wpAny_bind (wpAny_mono hq (fun r s' hr => ?_) fun _ _ x => x))
 obtain ⟨rfl, hQ⟩ := hr
 wp_walk
 exact hQ
end
end
end Mine
end
section
open PySem PySem.W PyProof.Rows PySem.Calls PyProof PySem.SeqAt PySem.Builtin.ObjectAttr
set_option Elab.async false
set_option maxRecDepth 100000
set_option linter.all false
namespace Mine
noncomputable section
section
variable {prog : Program} {w : World} {A : Around} {E : Value -> Shared -> Prop} {s : Shared} {K : Frag} {C e L t : Addr} {g : Heap} {m : Str -> Option Value} {news : Led}
theorem exc_check_init {M : Model} {nm q N bs bm} {hdct : Bool} {sn sub} {ab : Bool} {col : Option Bool} {dd : Option Addr} {k0 k1 k2 k3 k5 : Option Value} {nid : String} {oe rest Q}
  (hB : bm.contains (.type "Exception") = true) (hC : s.heap.get? C = some (excClassObj nm q C N bs bm hdct sn sub ab col dd k0 k1 k2 k3 k5 nid)) (he : s.heap.get? e = some oe) (hcls : oe.cls = .ref C) (hq : Q () s) : wpAny M A (checkBuiltinCall "Exception.__init__" ⟨.ref e :: rest, []⟩) Q E s := by
 obtain ⟨h, g, d, t, os⟩ := s
 have F := PySem.F.excBase_Exception
 have hcB : (Value.ref C :: bm).contains (.type "Exception") = true := by rw [List.contains_cons, hB, Bool.or_true]
 have hshort := F.noStar
 simp only [checkBuiltinCall, F.initKind, F.initSplit, F.initRow]
 repeat (first | (with_reducible refine wpAny_loadPart_at he ?_; rw [hcls]) | with_reducible refine wpAny_loadPart_at hC ?_ | (with_reducible refine wpAny_isSubtype_exc hC ?_; rw [hcB]) | wp_step)
 refine wpAny_onRaise ?_
 rw [show ∀ (a b : String) (n : Nat), Bind.check ⟨.positional, "*", "Exception", .self, [⟨"args", .varPos, false⟩]⟩ a b n (List.map (fun x => x.fst) ({ pos := Value.ref e :: rest } : Args).kw) = pure () from
  fun a b n => check_star_args _ _ _ _ _ _]
 exact wpAny_pure hq
theorem exc_args {v Q} (F : Fr g L s.heap m) (X : K.In g) (q : ExcC (fun a => K.lookup a) C) (N : News g L s.heap ((e, zCg C t) :: news)) (ne : ∀ p ∈ news, p.1 ≠ e)
  (k : ∀ h' t1, Fr g L h' m -> News g L h' ((e, zCg C t1) :: news) -> Q .none { s with heap := h' }) : wpAny (model prog w) A (call (.builtin "Exception.__init__") [.ref e, v]) Q E s := by
 obtain ⟨nm, qn, N', bs, bm, hdct, sn, sub, ab, col, dd, k0, k1, k2, k3, k5, hC, hB, _⟩ := exc_of (X.keeps F.keep) q
 have he := (N _ (.head _)).1
 refine wpAny_call (codeAny_call_builtin PySem.F.excBase_Exception.init.plain PySem.F.excBase_Exception.initEntry (exc_check_init hB hC he rfl ?_))
 obtain ⟨h, gg, d, tk, os⟩ := s
 simp only at F N he hC k
 wp_walk
 have P1 := Fr.push F { cls := .type "tuple", data := .seq #[v] }
 have P2 : News g L (h.push { cls := .type "tuple", data := .seq #[v] }) ((e, zCg C t) :: news) := fun p hp => ⟨Heap.get?_push_of_some _ (N p hp).1, (N p hp).2⟩
 obtain ⟨U1, U2⟩ := news_upd (pre := []) (o' := zCg C h.objs.size) (f := Obj.mapFields fun vs => vs.setIfInBounds 0 (.ref h.objs.size)) P1 P2 (fun p hp => nomatch hp) ne rfl rfl
 exact k _ _ U1 U2
theorem store_in {dx name tk v es} {n : Nat} {Q : PySem.Fin -> Shared -> Prop} (F : Fr g L s.heap m) (N : News g L s.heap ((dx, dictOf es n) :: news)) (ne : ∀ p ∈ news, p.1 ≠ dx) (hl : (getL name es).isSome = true) (hz : es.length ≤ 900)
  (k : ∀ h' tk', Fr g L h' m -> News g L h' ((dx, dictOf (putL name (PyData.keyHash w.params name) (.str name s.toks) v es) (putN name es n)) :: news) -> Q (.done (.ret .none)) (sw s h' tk')) :
  wpAny (model prog w) A (storeInDict dx (.str name tk) name v) Q E s := by
 have D := (N _ (.head _)).1
 obtain ⟨U1, U2⟩ := news_upd (pre := []) (f := Obj.putName name (PyData.keyHash w.params name) (.str name s.toks) v) F N (fun p hp => nomatch hp) ne (putName_dict ..) rfl
 have D' := (U2 _ (.head _)).1
 refine wpAny_bind (wpAny_pure (wpAny_bind ?_))
 unfold nsSet
 refine wpAny_bind (wpAny_bind (wpAny_askSetting (wpAny_pure (wpAny_bind (wpAny_mkText (wpAny_bind (wpAny_loadPart D ?_)))))))
 dsimp only
 have c : (!es.toArray.any (·.key.isStr name) && es.toArray.any (·.refKey)) = false := by
  rw [← Array.any_toList, ← Array.any_toList]
  unfold getL at hl
  split at hl
  ·rename_i en he
   rw [List.any_eq_true.mpr ⟨en, List.mem_of_find?_eq_some he, List.find?_some he⟩]; rfl
  ·split at hl
   ·cases hl
   ·rename_i z; rw [Bool.not_eq_true] at z; rw [z, Bool.and_false]
 rw [aRefKeyMayBeTheName_at, c]
 refine wpAny_updatePart D ?_
 refine wpAny_bind (wpAny_lookBehind D' (pastItsLine_dict (by
  rw [List.size_toArray, sizeLine_eq]
  have : ∀ l : List DictEntry, (putL name (PyData.keyHash w.params name) (.str name s.toks) v l).length ≤ l.length + 1 := by
   intro l
   induction l with
   | nil => simp [putL]
   | cons a r ih => unfold putL; split <;> simp <;> lia
  have := this es
  lia)) ?_)
 exact wpAny_pure (k _ _ U1 U2)
noncomputable def excTail : List Value -> Bool
 | .ref _ :: r => excTail r
 | l => l == [.type "Exception", .type "BaseException", .type "object"]
theorem exc_refuse (self : Value) : ∀ {l}, excTail l = true -> refuseLoop self "__setattr__" l = pure () ∧ l.contains (.type "object") = true
 | [], h => by cases h
 | v :: r, h => by
  by_cases hv : ∃ c, v = .ref c
  ·obtain ⟨c, rfl⟩ := hv
   obtain ⟨a, b⟩ := exc_refuse self (l := r) h
   rw [refuseLoop_ref, List.contains_cons, b, Bool.or_true]
   exact ⟨a, rfl⟩
  ·have e : (v :: r) = [.type "Exception", .type "BaseException", .type "object"] := by
    unfold excTail at h
    split at h
    ·rename_i q
     cases q
     exact absurd ⟨_, rfl⟩ hv
    ·exact beq_iff_eq.mp h
   rw [e]
   exact ⟨PySem.F.store_Exception.passes self, by simp⟩
noncomputable def excOver (K : Frag) (C : Addr) : Bool := (clsIn K C).any fun cd => excTail cd.mro
theorem exc_open {ox} {od : Option Obj} {name v Q} (X : K.In s.heap) (I : W.InstAt s.heap e ox C od) (hs : findIn K (.ref C) "__setattr__" = some (some (.builtin "object.__setattr__"))) (hp : excOver K C = true) (ht : takerIn K C name = some none)
  (k : ∀ (R : Result -> Shared -> Prop) tk b, (∀ s', Q () s' -> R (.ok (.ret .none)) s') -> wpAny (model prog w) A.in1 (storeInOwnDict (.ref e) (.ref C) (.str name tk) name v b)
   (fun fin s' => match fin with | .done f => R (.ok f) s' | .again c' => c'.quiet = true ∧ codeAny (model prog w) A c' R s') (fun e s' => R (.error e) s') { s with toks := s.toks + 1 }) :
  wpAny (model prog w) A (setAttr (.ref e) name v) Q E s := by
 have SF := PySem.F.store_object
 obtain ⟨cd, hc, ho⟩ := any_some hp
 obtain ⟨hr, hob⟩ := exc_refuse (.ref e) ho
 refine set_plain X I hs ?_
 have ne : cd.mro.isEmpty = false := by cases q : cd.mro with | nil => rw [q] at ho; cases ho | cons _ _ => rfl
 have sub : Looks (model prog w) s.heap (isInstance (.ref e) (.type "object")) true := I.type.andThen (looks_mroIn X (by unfold mroIn; rw [hc, Option.bind_some, if_neg (by rw [ne]; decide), hob]))
 refine codeAny_call_builtin SF.slot.plain SF.entry (@check_slot (model prog w) _ _ _ "object.__setattr__" "object" "__setattr__" (.ref e) [.str name s.toks, v] [] _ SF.kind SF.split sub (SF.args (.ref e) (.str name s.toks) v) ?_)
 obtain ⟨attr, ha, hr'⟩ := Option.bind_eq_some_iff.mp ht
 have hm : Looks (model prog w) s.heap (mroOf (.ref C)) cd.mro := (looks_clsIn X hc).andThen .now
 have L3 : Looks (model prog w) s.heap (storeTaker? attr) none := by
  cases attr with
  | none => exact .now
  | some a =>
   obtain ⟨b, hb, hh⟩ := Option.map_eq_some_iff.mp hr'
   refine (looks_takesIn X hb).andThen ?_
   cases b
   ·exact .now
   ·cases hh
 rw [osa_eq, refuse_eq]
 have kp : ∀ b o, s.heap.get? b = some o -> s.heap.get? b = some o := fun _ _ e => e
 refine wpAny_bind (wpAny_bind (I.type _ _ _ _ kp (wpAny_bind (hm _ _ _ _ kp ?_))))
 rw [hr]
 refine wpAny_pure (wpAny_bind (I.type _ _ _ _ kp (wpAny_bind (looks_findIn X ha _ _ _ _ kp (wpAny_bind (L3 _ _ _ _ kp ?_))))))
 exact k (fun r s' => match r with | .ok (.ret _) => Q () s' | .ok _ => False | .error e => E e s') _ _ fun s' h => h
noncomputable abbrev excObjD (C t dx : Addr) : Obj := { cls := .ref C, dict := some dx, data := .fields #[.ref t, .none, .none, .none, .bool false, .none] }
theorem exc_first {name v Q} (F : Fr g L s.heap m) (X₀ : K.In g) (N : News g L s.heap ((e, zCg C t) :: news)) (ne : ∀ p ∈ news, p.1 ≠ e) (hs : findIn K (.ref C) "__setattr__" = some (some (.builtin "object.__setattr__"))) (hp : excOver K C = true) (ht : takerIn K C name = some none) (hh : hasDictIn K C = true)
  (k : ∀ h' tk tk' dx hv, dx ≠ e -> (∀ p ∈ news, p.1 ≠ dx) -> Fr g L h' m -> News g L h' ((dx, dictOf [⟨hv, .str name tk, v⟩] 1) :: (e, excObjD C t dx) :: news) -> Q () (sw s h' tk')) : wpAny (model prog w) A (setAttr (.ref e) name v) Q E s := by
 have X := X₀.keeps F.keep
 have he := (N _ (.head _)).1
 have I : W.InstAt s.heap e (zCg C t) C none := ⟨he, rfl, rfl, trivial⟩
 refine exc_open X I hs hp ht fun R tk b hR => ?_
 obtain ⟨cd, hc, hd'⟩ := any_some hh
 have P1 := Fr.push F { cls := .type "dict", data := .dict #[] }
 have N1 : News g L (s.heap.push { cls := .type "dict", data := .dict #[] }) ((e, zCg C t) :: news) := fun p hp => ⟨Heap.get?_push_of_some _ (N p hp).1, (N p hp).2⟩
 obtain ⟨P2, N2⟩ := news_upd (pre := []) (o' := excObjD C t s.heap.objs.size) (f := fun o => { o with dict := some s.heap.objs.size }) P1 N1 (fun p hp => nomatch hp) ne rfl rfl
 have hlt : ∀ p ∈ (e, zCg C t) :: news, p.1 ≠ s.heap.objs.size := fun p hp => Nat.ne_of_lt (Heap.lt_size (N p hp).1)
 have N3 : News g L ((s.heap.push { cls := .type "dict", data := .dict #[] }).update e fun o => { o with dict := some s.heap.objs.size }) ((s.heap.objs.size, dictOf [] 0) :: (e, excObjD C t s.heap.objs.size) :: news) := fun p hp => by
  rcases List.mem_cons.mp hp with rfl | hp
  ·refine ⟨(Heap.get?_update_ne _ _ _ _ (hlt _ (.head _)).symm).trans (Heap.get?_push_at rfl rfl), fun q => ?_, next_is_new F⟩
   have := F.ns.lt
   rw [← q] at this
   exact Nat.lt_irrefl _ this
  ·exact N2 p hp
 refine wpAny_bind (wpAny_pure (wpAny_bind (wpAny_bind (wpAny_loadPart he (wpAny_bind (looks_clsIn X hc _ _ _ _ (fun _ _ e => e) ?_))))))
 rw [hd', if_neg (by decide)]
 dsimp only
 rw [if_neg (by simp [typeHasDict])]
 refine wpAny_bind (wpAny_alloc ?_)
 refine wpAny_bind (wpAny_update (N1 _ (.head _)).1 ?_)
 refine wpAny_pure ?_
 refine store_in (s := (sw s _ (s.toks + 1))) P2 N3 (fun p hp => ?_) rfl (by decide) fun h' tk' F' N' => ?_
 ·rcases List.mem_cons.mp hp with rfl | hp
  ·exact hlt (e, zCg C t) (.head _)
  ·exact hlt _ (.tail _ hp)
 ·exact hR _ (k h' _ tk' _ _ (hlt _ (.head _)).symm (fun p hp => hlt p (.tail _ hp)) F' N')
theorem exc_more {dx name v es} {n : Nat} {Q} (F : Fr g L s.heap m) (X₀ : K.In g) (N : News g L s.heap ((dx, dictOf es n) :: (e, excObjD C t dx) :: news)) (hne : dx ≠ e) (ne : ∀ p ∈ news, p.1 ≠ dx) (hl : (getL name es).isSome = true) (hz : es.length ≤ 900)
  (hs : findIn K (.ref C) "__setattr__" = some (some (.builtin "object.__setattr__"))) (hp : excOver K C = true) (ht : takerIn K C name = some none) (hh : hasDictIn K C = true)
  (k : ∀ h' tk', Fr g L h' m -> News g L h' ((e, excObjD C t dx) :: news) -> Q () (sw s h' tk')) : wpAny (model prog w) A (setAttr (.ref e) name v) Q E s := by
 have X := X₀.keeps F.keep
 have he := (N _ (.tail _ (.head _))).1
 have I : W.InstAt s.heap e (excObjD C t dx) C (some (dictOf es n)) := ⟨he, rfl, rfl, (N _ (.head _)).1⟩
 refine exc_open X I hs hp ht fun R tk b hR => ?_
 obtain ⟨cd, hc, hd'⟩ := any_some hh
 refine wpAny_bind (wpAny_pure (wpAny_bind (wpAny_bind (wpAny_loadPart he (wpAny_bind (looks_clsIn X hc _ _ _ _ (fun _ _ e => e) ?_))))))
 rw [hd', if_neg (by decide)]
 refine wpAny_pure (a := some dx) ?_
 refine store_in (s := { s with toks := s.toks + 1 }) F N (fun p hp => ?_) hl hz fun h' tk' F' N' => ?_
 ·rcases List.mem_cons.mp hp with rfl | hp
  ·exact hne.symm
  ·exact ne p hp
 ·exact hR _ (k h' tk' F' fun p hp => N' p (.tail _ hp))
end
end
end Mine
end
section
open PySem PySem.W PyProof.Rows PySem.Calls PyProof PySem.SeqAt
set_option Elab.async false
set_option maxRecDepth 100000
set_option linter.all false
namespace Mine
variable [hF : HashFn]
noncomputable section
noncomputable abbrev PeT := World -> Around -> Env -> Heap -> Addr -> Prop
noncomputable abbrev PT : PeT := fun _ _ _ _ _ => True
noncomputable def ExSq (Pe : World -> Around -> Env -> Heap -> Addr -> Prop) (sc : zT) (ρ : Loc) (n : Nat) (ss : List Stmt) (fl : Fl) (ρ' : Loc) : Prop :=
 ∀ (prog : Program) (w : World) (A : Around) (env : Env) (h₀ : Heap) (L : Addr) (s : Shared) (m : Str -> Option Value) (ko led news : Led) (Q : Flow -> Shared -> Prop), Pe w A env h₀ L ->
  env.scope.names = sc -> env.locals = L -> Sit w A env h₀ L n -> St env h₀ L s.heap m ρ ko led news ->
  (∀ f h' tk m' led' news', St env h₀ L h' m' ρ' ko led' news' -> Inc led led' -> FlOK led' fl f -> Q f (sw s h' tk)) ->
  wpAny (model prog w) A (execs ss env) Q (fun _ _ => False) s
noncomputable def Ex1q (Pe : World -> Around -> Env -> Heap -> Addr -> Prop) (sc : zT) (ρ : Loc) (n : Nat) (st : Stmt) (fl : Fl) (ρ' : Loc) : Prop :=
 ∀ (prog : Program) (w : World) (A : Around) (env : Env) (h₀ : Heap) (L : Addr) (s : Shared) (m : Str -> Option Value) (ko led news : Led) (Q : Flow -> Shared -> Prop), Pe w A env h₀ L ->
  env.scope.names = sc -> env.locals = L -> Sit w A env h₀ L n -> St env h₀ L s.heap m ρ ko led news ->
  (∀ f h' tk m' led' news', St env h₀ L h' m' ρ' ko led' news' -> Inc led led' -> FlOK led' fl f -> Q f (sw s h' tk)) ->
  wpAny (model prog w) A (exec st env) Q (fun _ _ => False) s
theorem ExS.q {Pe sc ρ n ss fl ρ'} (h : ExS sc ρ n ss fl ρ') : ExSq Pe sc ρ n ss fl ρ' := fun prog w A env h₀ L s m ko led news Q _ => h prog w A env h₀ L s m ko led news Q
theorem ExSq.up {Pe} {sc ρ n k ss fl ρ'} (h : ExSq Pe sc ρ n ss fl ρ') (hk : n ≤ k) : ExSq Pe sc ρ k ss fl ρ' :=
 fun prog w A env h₀ L s m ko led news Q hp hs hl Si S K => h prog w A env h₀ L s m ko led news Q hp hs hl (Si.le hk) S K
theorem drop_at {α : Type} {ds : List α} {i : Nat} {d : α} (hlt : i < ds.length) (hd : ds[i]? = some d) : ds.drop i = d :: ds.drop (i + 1) := by
 rw [List.drop_eq_getElem_cons hlt]
 rw [List.getElem?_eq_getElem hlt] at hd
 rw [Option.some.inj hd]
inductive Lp (Pe : PeT) (sc : zT) (n : Nat) (x : Str) (body : List Stmt) : Loc -> List D -> Fl -> Loc -> Prop
 | nil {ρ} : Lp Pe sc n x body ρ [] .next ρ
 | next {ρ ρ1 ρ2 d ds fl fl2} : ExSq Pe sc (put x (.val d) ρ) n body fl ρ1 -> (fl = .next ∨ fl = .cont) -> Lp Pe sc n x body ρ1 ds fl2 ρ2 -> Lp Pe sc n x body ρ (d :: ds) fl2 ρ2
 | brk {ρ ρ1 d ds} : ExSq Pe sc (put x (.val d) ρ) n body .brk ρ1 -> Lp Pe sc n x body ρ (d :: ds) .next ρ1
 | ret {ρ ρ1 d ds v} : ExSq Pe sc (put x (.val d) ρ) n body (.ret v) ρ1 -> Lp Pe sc n x body ρ (d :: ds) (.ret v) ρ1
inductive LpV (Pe : PeT) (sc : zT) (n : Nat) (x : Str) (body : List Stmt) (ρ : Loc) (d : D) (ds : List D) (fl : Fl) (ρ' : Loc) : Prop
 | next (ρ1 : Loc) (fl1 : Fl) : ExSq Pe sc (put x (.val d) ρ) n body fl1 ρ1 -> (fl1 = .next ∨ fl1 = .cont) -> Lp Pe sc n x body ρ1 ds fl ρ' -> LpV Pe sc n x body ρ d ds fl ρ'
 | brk : ExSq Pe sc (put x (.val d) ρ) n body .brk ρ' -> fl = .next -> LpV Pe sc n x body ρ d ds fl ρ'
 | ret (v : D) : ExSq Pe sc (put x (.val d) ρ) n body (.ret v) ρ' -> fl = .ret v -> LpV Pe sc n x body ρ d ds fl ρ'
theorem Lp.inv {Pe sc n x body ρ d ds fl ρ'} (h : Lp Pe sc n x body ρ (d :: ds) fl ρ') : LpV Pe sc n x body ρ d ds fl ρ' := by
 cases h with
 | next a b c => exact .next _ _ a b c
 | brk a => exact .brk a rfl
 | ret a => exact .ret _ a rfl
theorem Lp.inv0 {Pe sc n x body ρ fl ρ'} (h : Lp Pe sc n x body ρ [] fl ρ') : fl = .next ∧ ρ = ρ' := by
 cases h
 exact ⟨rfl, rfl⟩
theorem stepNC {h₀ L wr} {own : List (Addr × Obj)} {Jn : (Str -> Option Value) -> List (Addr × Obj) -> Prop} {s₁ s₂ Qr} {Qb : Shared -> Prop} {f : Flow} {led fl} (hfl : fl = .next ∨ fl = .cont) (hf : FlOK led fl f) (h : LoopStepU h₀ L wr own Jn s₁ .next s₂) : LoopStepV h₀ L wr own Jn s₁ Qr Qb f s₂ := by
 rcases hfl with rfl | rfl
 ·obtain rfl : f = .next := hf
  exact LoopStepV.next h
 ·obtain rfl : f = .cont := hf
  exact LoopStepV.cont h
theorem stepB {h₀ L wr} {own : List (Addr × Obj)} {Jn : (Str -> Option Value) -> List (Addr × Obj) -> Prop} {s₁ s₂ Qr} {Qb : Shared -> Prop} {f : Flow} {led} (hf : FlOK led .brk f) (h : Qb s₂) : LoopStepV h₀ L wr own Jn s₁ Qr Qb f s₂ := by
 obtain rfl : f = .brk := hf
 exact LoopStepV.brk h
theorem stepR {h₀ L wr} {own : List (Addr × Obj)} {Jn : (Str -> Option Value) -> List (Addr × Obj) -> Prop} {s₁ s₂ Qr} {Qb : Shared -> Prop} {f : Flow} {led v} (hf : FlOK led (.ret v) f) (h : ∀ u, FlOK led (.ret v) (.ret u) -> Qr u s₂) : LoopStepV h₀ L wr own Jn s₁ Qr Qb f s₂ := by
 have hf' := hf
 obtain ⟨u, rfl, _⟩ := hf
 exact LoopStepV.ret (h u hf')
structure Sp (env : Env) (L : Addr) (m : Str -> Option Value) (ρ : Loc) (ko led news : Led) : Prop where
 nd : (keyL news).Nodup
 kon : Inc ko news
 sub : Inc led news
 dis : ∀ a ∈ keyL ko, a ∉ keyL led ∧ a ∉ tabs
 tab : TabOK led news
 loc : ∃ mm, Locs env L m ρ ko led news mm
theorem St.sp {env h₀ L h m ρ ko led news} (S : St env h₀ L h m ρ ko led news) : Sp env L m ρ ko led news := ⟨S.nd, S.kon, S.sub, S.dis, S.tab, S.loc⟩
theorem Sp.st {env h₀ L h m ρ ko led news} (S : Sp env L m ρ ko led news) (F : Fr h₀ L h m) (N : News h₀ L h news) : St env h₀ L h m ρ ko led news := ⟨F, N, S.nd, S.kon, S.sub, S.dis, S.tab, S.loc⟩
theorem Sp.keepOne {env L m ρ ko led news} {I o} (S : Sp env L m ρ ko led news) (hn : ∀ p ∈ news, p.1 ≠ I) (ht : I ∉ tabs) : Sp env L m ρ (ko ++ [(I, o)]) led ((I, o) :: news) where
 nd := by
  show (I :: keyL news).Nodup
  refine List.nodup_cons.mpr ⟨fun hm => ?_, S.nd⟩
  obtain ⟨p, hp, e⟩ := List.mem_map.mp hm
  exact hn p hp e
 kon := fun p hp => by
  rcases List.mem_append.mp hp with hp | hp
  ·exact .tail _ (S.kon p hp)
  ·rw [List.mem_singleton.mp hp]; exact .head _
 sub := fun p hp => .tail _ (S.sub p hp)
 dis := fun a ha => by
  obtain ⟨p, hp, rfl⟩ := List.mem_map.mp ha
  rcases List.mem_append.mp hp with hp | hp
  ·exact S.dis p.1 (zC (o := p.2) hp)
  ·rw [List.mem_singleton.mp hp]
   exact ⟨fun hl => by
    obtain ⟨q, hq, e⟩ := List.mem_map.mp hl
    exact hn q (S.sub q hq) e, ht⟩
 tab := fun P hP => let ⟨hn, ps, h, g⟩ := S.tab P hP; ⟨hn, ps, .tail _ h, g⟩
 loc := by
  obtain ⟨mm, X⟩ := S.loc
  refine ⟨mm, ?_, fun y lv e => ?_, X.inj⟩
  ·cases X.lc with
   | fn a b => exact .fn a b
   | comp oC hm h => exact .comp oC (List.mem_append_left _ hm) h
  ·obtain ⟨v, V, O, k⟩ := X.at' y lv e
   refine ⟨v, ?_, ?_, k⟩
   ·cases V with
    | loc a b => exact .loc a b
    | cel c o' a b hm d => exact .cel c o' a b (List.mem_append_left _ hm) d
   ·have key : ∀ a, a ∈ keyL news -> a ∉ keyL ko -> a ∉ keyL (ko ++ [(I, o)]) := fun a ha hk hq => by
     obtain ⟨p, hp, e⟩ := List.mem_map.mp hq
     rcases List.mem_append.mp hp with hp | hp
     ·exact hk (e ▸ zC (o := p.2) hp)
     ·rw [List.mem_singleton.mp hp] at e
      obtain ⟨q, hq', e'⟩ := List.mem_map.mp ha
      exact hn q hq' (e'.trans e.symm)
    cases lv with
    | val d => exact O
    | own ds =>
     obtain ⟨a, vs, c, rfl, hm, r, h1, h2⟩ := O
     exact ⟨a, vs, c, rfl, .tail _ hm, r, h1, key a (zC hm) h2⟩
    | obj C ns ds =>
     obtain ⟨a, dx, es, n, vs, rfl, hh, hm, ke, ev, r, h1, h2⟩ := O
     refine ⟨a, dx, es, n, vs, rfl, ?_, .tail _ hm, ke, ev, r, h1, key dx (zC hm) h2⟩
     cases ko with
     | nil => cases hh
     | cons p q => exact hh
theorem Sp.dropOne {env L m ρ ko led news} {I o} (S : Sp env L m ρ (ko ++ [(I, o)]) led news) (hk : I ∉ keyL ko) (ho : ∀ C dx, o ≠ instObj C dx) (hc : ∀ oC mm, (env.locals, oC) ∈ ko ++ [(I, o)] -> LCg.NsObj oC mm -> (env.locals, oC) ∈ ko) (hcell : ∀ v, o.data ≠ .cell v) :
  Sp env L m ρ ko led (news.filter fun p => decide (p.1 ≠ I)) where
 nd := by
  have h1 : keyL (news.filter fun p => decide (p.1 ≠ I)) = (keyL news).filter (fun a => decide (a ≠ I)) := by
   unfold keyL
   rw [List.filter_map]
   rfl
  rw [h1]
  exact S.nd.filter _
 kon := fun p hp => List.mem_filter.mpr ⟨S.kon p (List.mem_append_left _ hp), by simpa using fun (e : p.1 = I) => hk (e ▸ zC (o := p.2) hp)⟩
 sub := fun p hp => List.mem_filter.mpr ⟨S.sub p hp, by
  have := (S.dis I (List.mem_map.mpr ⟨(I, o), List.mem_append_right _ (.head _), rfl⟩)).1
  simpa using fun (e : p.1 = I) => this (e ▸ zC (o := p.2) hp)⟩
 dis := fun a ha => S.dis a (by simp only [keyL, List.map_append]; exact List.mem_append_left _ ha)
 tab := fun P hP => by
  obtain ⟨hn, ps, h, g⟩ := S.tab P hP
  refine ⟨hn, ps, List.mem_filter.mpr ⟨h, ?_⟩, g⟩
  have := (S.dis I (List.mem_map.mpr ⟨(I, o), List.mem_append_right _ (.head _), rfl⟩)).2
  simpa using fun (e : P = I) => this (e ▸ hP)
 loc := by
  obtain ⟨mm, X⟩ := S.loc
  have sm : ∀ a, a ∉ keyL (ko ++ [(I, o)]) -> a ∉ keyL ko ∧ a ≠ I := fun a h => by
   simp only [keyL, List.map_append, List.mem_append, not_or] at h
   exact ⟨h.1, fun e => h.2 (by simp [e])⟩
  refine ⟨mm, ?_, fun y lv e => ?_, X.inj⟩
  ·cases X.lc with
   | fn a b => exact .fn a b
   | comp oC hm h => exact .comp oC (hc oC mm hm h) h
  ·obtain ⟨v, V, O, k⟩ := X.at' y lv e
   refine ⟨v, ?_, ?_, k⟩
   ·cases V with
    | loc a b => exact .loc a b
    | cel c o' a b hm d =>
     refine .cel c o' a b ?_ d
     rcases List.mem_append.mp hm with hm | hm
     ·exact hm
     ·cases List.mem_singleton.mp hm
      exact absurd d (hcell _)
   ·cases lv with
    | val d => exact O
    | own ds =>
     obtain ⟨a, vs, c, rfl, hm, r, h1, h2⟩ := O
     exact ⟨a, vs, c, rfl, List.mem_filter.mpr ⟨hm, by simpa using (sm a h2).2⟩, r, h1, (sm a h2).1⟩
    | obj C ns ds =>
     obtain ⟨a, dx, es, n, vs, rfl, hh, hm, ke, ev, r, h1, h2⟩ := O
     refine ⟨a, dx, es, n, vs, rfl, ?_, List.mem_filter.mpr ⟨hm, by simpa using (sm dx h2).2⟩, ke, ev, r, h1, (sm dx h2).1⟩
     cases ko with
     | nil => simp at hh; exact absurd hh.2 (ho C dx)
     | cons p q => exact hh
section
variable {prog : Program} {w : World} {A : Around}
theorem loop_go {Pe sc env h₀ L s m ρ ρ' ko led news} {n : Nat} {x body ds fl Q I fp P Stt}
  (hPe : Pe w A env h₀ L) (hs : env.scope.names = sc) (hl : env.locals = L) (Si : Sit w A env h₀ L n) (hxl : env.kindOf x = some .local) (W : Walks prog w A I fp [I] ds.length P Stt) (hfp : ∀ b ∈ fp, b = I ∨ ∃ o, (b, o) ∈ led) (hst : Stt 0 s.heap)
  (S : St env h₀ L s.heap m ρ ko led news) (hnew : ∀ p ∈ news, p.1 ≠ I) (hI0 : h₀.get? I = none) (hIL : L ≠ I)
  (hIo : ∀ i h, Stt i h -> ∃ o, h.get? I = some o ∧ (∀ C dx, o ≠ instObj C dx) ∧ (∀ mm, ¬ LCg.NsObj o mm) ∧ ∀ v, o.data ≠ .cell v)
  (hP : ∀ i v, i < ds.length -> P i v -> ∃ d, ds[i]? = some d ∧ R led d v) (lp : Lp Pe sc n x body ρ ds fl ρ')
  (K : ∀ f h' tk m' led' news', St env h₀ L h' m' ρ' ko led' news' -> Inc led led' -> FlOK led' fl f -> Q f (sw s h' tk)) :
  LoopAtV prog w A h₀ env x body Q (fun _ _ => False) (.ref I) s := by
 subst hl
 have hIt : I ∉ tabs := fun ht => by obtain ⟨_, ps, hp, _⟩ := S.tab I ht; exact hnew _ hp rfl
 have hIk : I ∉ keyL ko := fun hm => by obtain ⟨p, hp, e⟩ := List.mem_map.mp hm; exact hnew p (S.kon p hp) e
 let J : Nat -> (Str -> Option Value) -> Led -> Prop := fun i m₁ news₁ => ∃ ρi ledi, Lp Pe sc n x body ρi (ds.drop i) fl ρ' ∧ Sp env env.locals m₁ ρi ko ledi news₁ ∧ (Inc led ledi)
 refine ⟨I, fp, [I], ds.length, P, Stt, m, news, J, rfl, W, ?_, ?_, ?_, hst, S.F, S.N, ⟨ρ, led, lp, S.sp, fun _ h => h⟩, ?_, ?_⟩
 ·intro hm
  rcases hfp _ hm with e | ⟨o, ho⟩
  ·exact hIL e
  ·exact (S.N _ (S.sub _ ho)).2.1 rfl
 ·intro b hb; rw [List.mem_singleton.mp hb]; exact hI0
 ·intro p hp hq; exact hnew p hp (List.mem_singleton.mp hq)
 ·rintro i v m₁ news₁ s₁ own ⟨hh', tk', rfl⟩ hin hPv ⟨ρi, ledi, lpi, Spi, ili⟩ hoff hown hownH hcompl hst1 F₁ N₁
  obtain ⟨d, hd, rd⟩ := hP i v hin hPv
  rw [drop_at hin hd] at lpi
  obtain ⟨oI, hoI, ho1, ho2, ho3⟩ := hIo _ _ hst1
  have hIfp : I ∈ fp := W.sub I (.head _)
  have hIown : (I, oI) ∈ own := hcompl I hIfp hI0 oI hoI
  have hnew1 : ∀ p ∈ news₁, p.1 ≠ I := fun p hp e => hoff p hp (by rw [e]; exact .head _)
  have Sk := Spi.keepOne (o := oI) hnew1 hIt
  have N' : News h₀ env.locals hh' ((I, oI) :: news₁) := fun p hp => by
   rcases List.mem_cons.mp hp with rfl | hp
   ·exact N₁ _ (List.mem_append_left _ hIown)
   ·exact N₁ _ (List.mem_append_right _ hp)
  have hnl : ∀ (h : Heap), News h₀ env.locals h ((I, oI) :: news₁) -> Fr h₀ env.locals h (upd m₁ x v) -> St env h₀ env.locals h (upd m₁ x v) (put x (.val d) ρi) (ko ++ [(I, oI)]) ledi ((I, oI) :: news₁) := fun h NN FF => by
   have S0 : Sp env env.locals (upd m₁ x v) (put x (.val d) ρi) (ko ++ [(I, oI)]) ledi ((I, oI) :: news₁) := by
    refine ⟨Sk.nd, Sk.kon, Sk.sub, Sk.dis, Sk.tab, ?_⟩
    obtain ⟨mm, X⟩ := Sk.loc
    have hmm : mm = m₁ := by
     cases X.lc with
     | fn _ e => exact e
     | comp oC hm _ => exact absurd rfl (NN _ (Sk.kon _ hm)).2.1
    subst hmm
    exact ⟨_, X.putNew rfl hxl (R.mono ili rd) fun h => (tfE h).elim⟩
   exact S0.st FF NN
  have S₁ := hnl hh' N' F₁
  have back : ∀ {h2 m2 ρ2 led2 news2}, St env h₀ env.locals h2 m2 ρ2 (ko ++ [(I, oI)]) led2 news2 -> Sp env env.locals m2 ρ2 ko led2 (news2.filter fun p => decide (p.1 ≠ I)) := fun S2 =>
   S2.sp.dropOne hIk ho1 (fun oC mm hm hns => by
    rcases List.mem_append.mp hm with hm | hm
    ·exact hm
    ·exact absurd hns (by have := congrArg Prod.snd (List.mem_singleton.mp hm); simp only at this; rw [this]; exact ho2 mm)) ho3
  have Nf : ∀ {h2 news2}, News h₀ env.locals h2 news2 -> News h₀ env.locals h2 (news2.filter fun p => decide (p.1 ≠ I)) := fun N2 p hp => N2 p (List.mem_filter.mp hp).1
  have stepBack : ∀ {h2 m2 ρ2 led2 news2 tk2}, St env h₀ env.locals h2 m2 ρ2 (ko ++ [(I, oI)]) led2 news2 -> (Inc ledi led2) -> Lp Pe sc n x body ρ2 (ds.drop (i + 1)) fl ρ' ->
    LoopStepU h₀ env.locals [I] own (J (i + 1)) (sw s hh' tk') .next (sw s h2 tk2) := fun {h2 m2 ρ2 led2 news2 tk2} S2 i2 lp2 => by
   refine ⟨rfl, h2, tk2, m2, _, rfl, S2.F, ?_, fun p hp hq => ?_, ρ2, led2, lp2, back S2, (Inc.trans ili i2)⟩
   ·intro p hp
    rcases List.mem_append.mp hp with hp | hp
    ·have hpfp := hown p hp
     have hcur := hownH p hp
     rcases hfp _ hpfp with e | ⟨o, ho⟩
     ·have : p = (I, oI) := by
       have e2 : p.2 = oI := by rw [e] at hcur; rw [hoI] at hcur; exact (Option.some.inj hcur).symm
       exact Prod.ext e e2
      rw [this]
      exact S2.N _ (S2.kon _ (List.mem_append_right _ (.head _)))
     ·have hmem : (p.1, o) ∈ ledi := ili _ ho
      have e2 : p.2 = o := by
       have := (N' _ (Sk.sub _ hmem)).1
       simp only at this
       rw [this] at hcur
       exact (Option.some.inj hcur).symm
      have : p = (p.1, o) := Prod.ext rfl e2
      rw [this]
      exact S2.N _ (S2.sub _ (i2 _ hmem))
    ·exact Nf S2.N p hp
   ·have := (List.mem_filter.mp hp).2
    simp at this
    exact this (List.mem_singleton.mp hq)
  cases lpi.inv with
  | next ρ1 fl1 hb hfl lp2 => exact hb prog w A env h₀ env.locals (sw s hh' tk') _ _ ledi _ _ hPe hs rfl Si S₁ fun f h2 tk2 m2 led2 news2 S2 i2 hf => stepNC hfl hf (stepBack S2 i2 lp2)
  | brk hb e => exact hb prog w A env h₀ env.locals (sw s hh' tk') _ _ ledi _ _ hPe hs rfl Si S₁ fun f h2 tk2 m2 led2 news2 S2 i2 hf => stepB hf (K .next h2 tk2 m2 led2 _ ((back S2).st S2.F (Nf S2.N)) (Inc.trans ili i2) (e ▸ rfl))
  | ret v hb e => exact hb prog w A env h₀ env.locals (sw s hh' tk') _ _ ledi _ _ hPe hs rfl Si S₁ fun f h2 tk2 m2 led2 news2 S2 i2 hf => stepR hf fun u hu => K (.ret u) h2 tk2 m2 led2 _ ((back S2).st S2.F (Nf S2.N)) (Inc.trans ili i2) (e ▸ hu)
 ·rintro h' tk m' news' F' N' hoff ⟨ρi, ledi, lpi, Spi, ili⟩
  rw [List.drop_length] at lpi
  obtain ⟨e, rfl⟩ := lpi.inv0
  exact K .next h' tk m' ledi news' (Spi.st F' N') ili (e ▸ rfl)
end
theorem zBm {e env} (h : zBe e = true) (x : Value) : foldedSetIterable e env x = pure x := by
 cases e <;> first | rfl | cases h
theorem St.fresh_ge {env h₀ L h m ρ ko led news} (S : St env h₀ L h m ρ ko led news) {N b} (hN : h.objs.size = N) (hb : N ≤ b) : (∀ p ∈ news, p.1 ≠ b) ∧ h₀.get? b = none ∧ L ≠ b := by
 subst hN
 have hn : h.get? b = none := by
  cases q : h.get? b with
  | none => rfl
  | some o => exact absurd (Heap.lt_size q) (Nat.not_lt.mpr hb)
 refine ⟨fun p hp q => nsE ((S.N p hp).1.symm.trans (q ▸ hn)), ?_, fun q => absurd S.F.ns.lt (Nat.not_lt.mpr (q ▸ hb))⟩
 cases q : h₀.get? b with
 | none => rfl
 | some o => exact (nsE ((S.F.keep b o q).symm.trans hn)).elim
theorem St.fresh {env h₀ L h m ρ ko led news} (S : St env h₀ L h m ρ ko led news) : (∀ p ∈ news, p.1 ≠ h.objs.size) ∧ h₀.get? h.objs.size = none ∧ L ≠ h.objs.size := S.fresh_ge rfl (Nat.le_refl _)
theorem St.pushed {env h₀ L h m ρ ko led news} (S : St env h₀ L h m ρ ko led news) (o : Obj) : St env h₀ L (h.push o) m ρ ko led news :=
 S.re (S.F.push o) fun p hp => ⟨Heap.get?_push_of_some _ (S.N p hp).1, (S.N p hp).2⟩
theorem ex1q_for_list {Pe} {sc ρ ρ' n x px it body pos ds fl} (hx : zAu sc x = true) (hn : zBe it = true) (h : EvE sc ρ n it (.lst ds)) (lp : Lp Pe sc n x body ρ ds fl ρ') : Ex1q Pe sc ρ n (.For (.Name x px) it body [] pos) fl ρ' := by
 intro prog w A env h₀ L s m ko led news Q hPe hs hl Si S K
 refine For_invV h₀ (zL hs hx) (by rw [Si.kd]; rfl) (h prog w A env h₀ L s m ko led news _ _ hs Si S fun v h' tk led' news' S' i rv => ?_) (fun _ => zBm hn _) PassesOwn.never
 obtain ⟨a, vs, c, rfl, hm, hi, rr⟩ := S'.isLst rv
 refine wpAny_pyIter_list hi ?_
 obtain ⟨f1, f2, f3⟩ := S'.fresh
 have hne : a ≠ h'.objs.size := Nat.ne_of_lt (Heap.lt_size (S'.held _ hm))
 have W := Walks.list (prog := prog) (w := w) Si.hd h'.objs.size a hne vs.toArray
 have hlen : vs.toArray.size = ds.length := by rw [List.size_toArray, Rs.length rr]
 rw [hlen] at W
 have S2 := S'.pushed { cls := .type "list_iterator", data := .fields #[.ref a, .int 0 0] }
 refine loop_go hPe hs hl Si (zL hs hx) W (fun b hb => ?_) ⟨⟨_, Heap.get?_push_size _ rfl, rfl, rfl⟩, hi.at fun o e => Heap.get?_push_of_some _ e⟩ S2 f1 f2 f3 (fun i h hst => ?_) (fun i v hin hP => ?_) lp
  fun f h2 tk2 m2 led2 news2 S3 i3 hf => K f h2 tk2 m2 led2 news2 S3 (Inc.trans i i3) hf
 ·rcases List.mem_cons.mp hb with e | hb
  ·exact .inl e
  ·rw [List.mem_singleton.mp hb]; exact .inr ⟨_, hm⟩
 ·obtain ⟨⟨o, ho, hc, hd⟩, _⟩ := hst
  exact ⟨o, ho, (fun C dx e => by rw [e] at hc; cases hc), (fun mm h => by obtain ⟨es, ep, e, _⟩ := h; rw [hd] at e; cases e), (fun v e => by rw [hd] at e; cases e)⟩
 ·have hd : ds[i]? = some ds[i] := List.getElem?_eq_getElem hin
  obtain ⟨u, hu, ru⟩ := Rs.get rr hd
  simp only [List.getElem?_toArray] at hP
  rw [hu] at hP
  cases hP
  exact ⟨_, hd, ru⟩
theorem ex1_for_list {sc ρ ρ' n x px it body pos ds fl} (hx : zAu sc x = true) (hn : zBe it = true) (h : EvE sc ρ n it (.lst ds)) (lp : Lp PT sc n x body ρ ds fl ρ') : Ex1 sc ρ n (.For (.Name x px) it body [] pos) fl ρ' :=
 fun prog w A env h₀ L s m ko led news Q => ex1q_for_list hx hn h lp prog w A env h₀ L s m ko led news Q trivial
theorem ex1_for_tuple {sc ρ ρ' n x px it body pos ds fl} (hx : zAu sc x = true) (hn : zBe it = true) (h : EvE sc ρ n it (.tup ds)) (lp : Lp PT sc n x body ρ ds fl ρ') : Ex1 sc ρ n (.For (.Name x px) it body [] pos) fl ρ' := by
 intro prog w A env h₀ L s m ko led news Q hs hl Si S K
 refine For_invV h₀ (zL hs hx) (by rw [Si.kd]; rfl) (h prog w A env h₀ L s m ko led news _ _ hs Si S fun v h' tk led' news' S' i rv => ?_) (fun _ => zBm hn _) PassesOwn.never
 obtain ⟨a, vs, rfl, hm, hi, rr⟩ := S'.isTup rv
 refine wpAny_pyIter_tuple hi ?_
 obtain ⟨f1, f2, f3⟩ := S'.fresh
 have hne : a ≠ h'.objs.size := Nat.ne_of_lt (Heap.lt_size (S'.held _ hm))
 have W := Walks.tuple (prog := prog) (w := w) Si.hd h'.objs.size a hne vs.toArray
 have hlen : vs.toArray.size = ds.length := by rw [List.size_toArray, Rs.length rr]
 rw [hlen] at W
 have S2 := S'.pushed { cls := .type "tuple_iterator", data := .fields #[.ref a, .int 0 0] }
 refine loop_go (Pe := PT) trivial hs hl Si (zL hs hx) W (fun b hb => ?_) ⟨⟨_, Heap.get?_push_size _ rfl, rfl, rfl⟩, hi.at fun o e => Heap.get?_push_of_some _ e⟩ S2 f1 f2 f3 (fun i h hst => ?_) (fun i v hin hP => ?_) lp
  fun f h2 tk2 m2 led2 news2 S3 i3 hf => K f h2 tk2 m2 led2 news2 S3 (Inc.trans i i3) hf
 ·rcases List.mem_cons.mp hb with e | hb
  ·exact .inl e
  ·rw [List.mem_singleton.mp hb]; exact .inr ⟨_, hm⟩
 ·obtain ⟨⟨o, ho, hc, hd⟩, _⟩ := hst
  exact ⟨o, ho, (fun C dx e => by rw [e] at hc; cases hc), (fun mm h => by obtain ⟨es, ep, e, _⟩ := h; rw [hd] at e; cases e), (fun v e => by rw [hd] at e; cases e)⟩
 ·have hd : ds[i]? = some ds[i] := List.getElem?_eq_getElem hin
  obtain ⟨u, hu, ru⟩ := Rs.get rr hd
  simp only [List.getElem?_toArray] at hP
  rw [hu] at hP
  cases hP
  exact ⟨_, hd, ru⟩
theorem fitsL {i : Int} (h1 : -2000 ≤ i) (h2 : i ≤ 2000) : Builtin.Range.rangeFitsLong i = true := by
 have e : ((2 : Int) ^ 63) = 9223372036854775808 := by decide
 unfold Builtin.Range.rangeFitsLong
 rw [e, Bool.and_eq_true, decide_eq_true_eq, decide_eq_true_eq]
 lia
theorem small_range {k : Nat} (h : k ≤ 1000) : Builtin.Range.small 0 (k : Int) 1 = true := by
 have hz : Builtin.Range.rangeSize 0 (k : Int) 1 = (k : Int) := by rw [rangeSize_nat]; simp
 unfold Builtin.Range.small
 rw [hz]
 rw [fitsL (by lia) (by lia), fitsL (by lia) (by lia), fitsL (by lia) (by lia)]
 have : Builtin.Range.rangeFitsLong (k : Int) = true := fitsL (by lia) (by lia)
 simp [this]
theorem ex1_for_range {sc ρ ρ' n x px rx rpos cpos e body pos fl} {k : Nat} (hx : zAu sc x = true) (hk : zZ sc rx = true) (hd : zM rx = true) (er : fnd rx bTab = some (.type "range")) (hs1 : zP e = true) (h : EvE sc ρ n e (.int (k : Nat))) (hk2 : Nat.ble k 1000 = true)
  (lp : Lp PT sc n x body ρ ((List.range k).map fun i => .int (i : Nat)) fl ρ') : Ex1 sc ρ n (.For (.Name x px) (.Call (.Name rx rpos) [e] [] cpos) body [] pos) fl ρ' := by
 intro prog w A env h₀ L s m ko led news Q hs hl Si S K
 have hk3 := Nat.le_of_ble_eq_true hk2
 refine For_invV h₀ (zL hs hx) (by rw [Si.kd]; rfl) ?_ (fun _ => rfl) PassesOwn.never
 refine Rows.Call_ (zAl hs Si S hk hd er ?_)
 refine Rows.callWith_type1 (zH hs1 h zO prog w A env h₀ L s m ko led news _ _ cpos hs Si S fun vs h' tk led' news' S' i r => ?_) (zB hs1) rfl
 obtain ⟨v, rfl, rv⟩ := Rs.inv1 r
 obtain ⟨t, rfl⟩ := zS rv
 refine call_range_1 ?_
 have S1 := S'.pushed { cls := .type "range", data := .fields #[.int 0 tk, .int (k : Int) t, .int 1 (tk + 1)] }
 have hsmall : Builtin.Range.small 0 (k : Int) 1 = true := by
  exact small_range hk3
 have hsize : Builtin.Range.rangeSize 0 (k : Int) 1 = (k : Int) := by rw [rangeSize_nat]; simp
 refine wpAny_pyIter_range (s := ⟨h'.push _, s.gens, s.drawn, _, s.os⟩) (Heap.get?_push_size _ rfl) hsmall ?_
 rw [hsize]
 obtain ⟨f1, f2, f3⟩ := S1.fresh
 have S2 := S1.pushed { cls := .type "range_iterator", data := .fields #[rawInt 0, rawInt (k : Int), rawInt 1] }
 have W := Walks.range (prog := prog) (w := w) Si.hd (h'.push { cls := .type "range", data := .fields #[.int 0 tk, .int (k : Int) t, .int 1 (tk + 1)] }).objs.size 0 1 ((List.range k).map fun i => D.int (i : Nat)).length
 have hlen : k = ((List.range k).map fun i => D.int (i : Nat)).length := by simp
 refine loop_go (Pe := PT) trivial hs hl Si (zL hs hx) W (fun b hb => .inl (List.mem_singleton.mp hb)) ?_ S2 f1 f2 f3 (fun i h hst => ?_) (fun i v hin hP => ?_) lp
  fun f h2 tk2 m2 led2 news2 S3 i3 hf => K f h2 tk2 m2 led2 news2 S3 (Inc.trans i i3) hf
 ·rw [← hlen]
  have e1 : ((0 : Int) + ((0 : Nat) : Int) * 1) = 0 := by simp
  have e2 : ((k : Int) - ((0 : Nat) : Int)) = k := by simp
  rw [e1, e2]
  exact Heap.get?_push_size _ rfl
 ·exact ⟨_, hst, (fun C dx e => by cases e), (fun mm h => by obtain ⟨es, ep, e, _⟩ := h; cases e), (fun v e => by cases e)⟩
 ·obtain ⟨u, rfl⟩ := hP
  have hik : i < k := by simpa using hin
  refine ⟨.int (i : Nat), by simp [hik], ?_⟩
  exact show ∃ t, _ = Value.int _ t from ⟨u, by simp⟩
noncomputable def zBw (sc : zT) : List Expr -> List D -> Loc -> Option Loc
 | [], ds, ρ => onNil (some ρ) ds
 | e :: es, ds, ρ => on0s none (fun d ds => onName (fun x _ => gd (zAu sc x) (zBw sc es ds (put x (.val d) ρ))) e) ds
inductive Bd (sc : zT) : List Expr -> List D -> Loc -> Loc -> Prop
 | nil {ρ} : Bd sc [] [] ρ ρ
 | cons {x p es d ds ρ ρ'} : zAu sc x = true -> Bd sc es ds (put x (.val d) ρ) ρ' -> Bd sc (.Name x p :: es) (d :: ds) ρ ρ'
theorem bind_bd {sc} : ∀ {es ds ρ}, Sat (Bd sc es ds ρ) (zBw sc es ds ρ)
 | [], ds, ρ => .onNil (P := fun ds => Bd sc [] ds ρ) (.some .nil) ds
 | e :: es, ds, ρ => .on0s (P := fun ds => Bd sc (e :: es) ds ρ) .none (fun d ds => .onName (P := fun e => Bd sc (e :: es) (d :: ds) ρ) (fun x _ => .gd fun c ρ' h => .cons c (bind_bd ρ' h)) e) ds
theorem bind2 {sc x y p q a b ρ} (e1 : zAu sc x = true) (e2 : zAu sc y = true) : zBw sc [.Name x p, .Name y q] [a, b] ρ = some (put y (.val b) (put x (.val a) ρ)) := (gd_true e1).trans (gd_true e2)
theorem bd_len {sc env es ds ρ ρ'} (h : Bd sc es ds ρ ρ') : (assignEach es env).length = ds.length ∧ (assignEach es env).findIdx? (·.1) = none := by
 induction h with
 | nil => exact ⟨rfl, rfl⟩
 | @cons x p es d ds ρ ρ' _ _ ih =>
  refine ⟨congrArg Nat.succ ih.1, ?_⟩
  show List.findIdx? _ ((false, _) :: assignEach es env) = none
  rw [List.findIdx?_cons, ih.2]
  rfl
theorem bindNm_len {sc env es ds ρ ρ'} (h : zBw sc es ds ρ = some ρ') : (assignEach es env).length = ds.length ∧ (assignEach es env).findIdx? (·.1) = none := bd_len (bind_bd ρ' h)
section
variable {prog : Program} {w : World} {A : Around} {E : Value -> Shared -> Prop}
theorem asg_bd {sc env h₀ L ko led news} (hs : env.scope.names = sc) (hl : env.locals = L) (kd : env.scope.kind = .function) {es ds ρ ρ'} (b : Bd sc es ds ρ ρ') : ∀ {vs s m Q},
  St env h₀ L s.heap m ρ ko led news -> Rs led ds vs -> (∀ h' tk m', St env h₀ L h' m' ρ' ko led news -> Q () (sw s h' tk)) -> wpAny (model prog w) A (assignInOrder ((assignEach es env).map (·.2)) vs) Q E s := by
 induction b with
 | nil => exact fun {vs s m Q} S r K => assignInOrder_nil (K s.heap s.toks m S)
 | @cons x p es d ds ρ ρ' hx _ ih =>
  intro vs s m Q S r K
  obtain ⟨v, vs, rfl, r1, r2⟩ := Rs_cons_inv r
  refine assignInOrder_cons (t := assign (.Name x p) env) ?_
  refine wpAny_assign_Name (store_ kd hl (zL hs hx) S.F S.N fun h' F N => ?_)
  exact ih (s := (sw s h' (s.toks + 1))) (S.putVal hl (zL hs hx) F N r1) r2 fun h2 tk2 m2 S2 => K h2 tk2 m2 S2
theorem asg_names {sc env h₀ L ko led news} (hs : env.scope.names = sc) (hl : env.locals = L) (kd : env.scope.kind = .function) {es ds vs ρ ρ' s m Q}
  (h : zBw sc es ds ρ = some ρ') (S : St env h₀ L s.heap m ρ ko led news) (r : Rs led ds vs) (K : ∀ h' tk m', St env h₀ L h' m' ρ' ko led news -> Q () (sw s h' tk)) : wpAny (model prog w) A (assignInOrder ((assignEach es env).map (·.2)) vs) Q E s := asg_bd hs hl kd (bind_bd ρ' h) S r K
end
theorem ex1_assign_tup {sc ρ ρ' n elts k tpos e pos ds} (hn : zBx e = true) (hsw : ∀ env, env.scope.names = sc -> env.scope.kind = .function -> swappedStores [.Tuple elts k tpos] e env = pure none) (h : EvE sc ρ n e (.tup ds)) (hb : zBw sc elts ds ρ = some ρ') : Ex1 sc ρ n (.Assign [.Tuple elts k tpos] e pos) .next ρ' := by
 intro prog w A env h₀ L s m ko led news Q hs hl Si S K
 refine Rows.Assign_Tuple (h prog w A env h₀ L s m ko led news _ _ hs Si S fun v h' tk led' news' S' i rv => ?_) (show swapsWithSole [.Tuple elts k tpos] e pos.line env = pure false from noSwap hn (some (.Tuple elts k tpos)) pos.line env) (hsw env hs Si.kd)
 obtain ⟨a, vs, rfl, hm, hi, rr⟩ := S'.isTup rv
 obtain ⟨l1, l2⟩ := bindNm_len (env := env) hb
 refine assign_Tuple_tuple Si.hd hi (by rw [l1, List.size_toArray, Rs.length rr]) l2 fun h2 he => ?_
 have S2 : St env h₀ L h2 m ρ ko led' news' := S'.re (S'.F.extBut he (Nat.le_refl _)) fun p hp => by
  have z := S'.N p hp
  exact ⟨he p.1 p.2 (Nat.ne_of_lt (Heap.lt_size z.1)) z.1, z.2⟩
 exact asg_names hs hl Si.kd hb (s := (sw s h2 tk)) S2 rr fun h3 tk3 m3 S3 => K .next h3 tk3 m3 led' news' S3 i rfl
inductive Lt (sc : zT) (n : Nat) (elts : List Expr) (body : List Stmt) : Loc -> List (List D) -> Fl -> Loc -> Prop
 | nil {ρ} : Lt sc n elts body ρ [] .next ρ
 | next {ρ ρ0 ρ1 ρ2 d ds fl fl2} : zBw sc elts d ρ = some ρ0 -> ExS sc ρ0 n body fl ρ1 -> (fl = .next ∨ fl = .cont) -> Lt sc n elts body ρ1 ds fl2 ρ2 -> Lt sc n elts body ρ (d :: ds) fl2 ρ2
 | brk {ρ ρ0 ρ1 d ds} : zBw sc elts d ρ = some ρ0 -> ExS sc ρ0 n body .brk ρ1 -> Lt sc n elts body ρ (d :: ds) .next ρ1
 | ret {ρ ρ0 ρ1 d ds v} : zBw sc elts d ρ = some ρ0 -> ExS sc ρ0 n body (.ret v) ρ1 -> Lt sc n elts body ρ (d :: ds) (.ret v) ρ1
inductive LtV (sc : zT) (n : Nat) (elts : List Expr) (body : List Stmt) (ρ : Loc) (d : List D) (ds : List (List D)) (fl : Fl) (ρ' : Loc) : Prop
 | next (ρ0 ρ1 : Loc) (fl1 : Fl) : zBw sc elts d ρ = some ρ0 -> ExS sc ρ0 n body fl1 ρ1 -> (fl1 = .next ∨ fl1 = .cont) -> Lt sc n elts body ρ1 ds fl ρ' -> LtV sc n elts body ρ d ds fl ρ'
 | brk (ρ0 : Loc) : zBw sc elts d ρ = some ρ0 -> ExS sc ρ0 n body .brk ρ' -> fl = .next -> LtV sc n elts body ρ d ds fl ρ'
 | ret (ρ0 : Loc) (v : D) : zBw sc elts d ρ = some ρ0 -> ExS sc ρ0 n body (.ret v) ρ' -> fl = .ret v -> LtV sc n elts body ρ d ds fl ρ'
theorem Lt.inv {sc n elts body ρ d ds fl ρ'} (h : Lt sc n elts body ρ (d :: ds) fl ρ') : LtV sc n elts body ρ d ds fl ρ' := by
 cases h with
 | next a b c e => exact .next _ _ _ a b c e
 | brk a b => exact .brk _ a b rfl
 | ret a b => exact .ret _ _ a b rfl
theorem Lt.inv0 {sc n elts body ρ fl ρ'} (h : Lt sc n elts body ρ [] fl ρ') : fl = .next ∧ ρ = ρ' := by
 cases h
 exact ⟨rfl, rfl⟩
theorem ev_isinst {sc ρ n fx fpos e cx cpos pos C ns ds} (hk : zZ sc fx = true) (hd : zM fx = true) (ef : fnd fx bTab = some (.builtin "isinstance")) (hn : zP e = true) (he : EvE sc ρ n e (.inst C ns ds))
  (hk2 : zZ sc cx = true) (hd2 : zM cx = true) (ec : fnd cx gTab = some (.ref C)) : EvE sc ρ n (.Call (.Name fx fpos) [e, .Name cx cpos] [] pos) (.bool true) := by
 intro prog w A env h₀ L s m ko led news Q E hs Si S K
 refine Rows.Call_ (zAl hs Si S hk hd ef ?_)
 refine callWith_builtin1 (args_cons (he prog w A env h₀ L s m ko led news _ E hs Si S fun v h' tk led' news' S' i rv => ?_) (zB hn)) (zB hn) rfl
 refine args_cons (zBl hs Si S' hk2 hd2 ec ?_) rfl
 refine args_nil ?_
 have rv : R led' (.inst C ns ds) v := rv
 obtain ⟨a, dx, es, k, vs, rfl, m1, m2, hke, rfl, rr⟩ := rv
 refine isi_call (s := (sw s h' tk)) (Si.X.keeps S'.F.keep) (fun M => (W.InstAt.of_news S'.N (S'.sub _ m1) (S'.sub _ m2)).type) (by simp [isIn]) (by intro h; cases h) (K _ h' tk led' news' S' i R_bool)
theorem evo_list_of {sc ρ n x xpos pos e d ds} (hk : zZ sc x = true) (hd : zM x = true) (ef : fnd x bTab = some (.type "list")) (hn : zP e = true) (he : EvE sc ρ n e d) (hi : itemsD d = some ds) (hl : Nat.ble ds.length 10000 = true) : EvO sc ρ n (.Call (.Name x xpos) [e] [] pos) ds := by
 intro prog w A env h₀ L s m ko led news Q E hs Si S K
 refine Rows.Call_ (zAl hs Si S hk hd ef ?_)
 refine Rows.callWith_type1 (zH hn he zO prog w A env h₀ L s m ko led news _ E pos hs Si S fun vs h' tk led' news' S' i r => ?_) (zB hn) rfl
 obtain ⟨v, rfl, rv⟩ := Rs.inv1 r
 have h1 := Nat.le_of_ble_eq_true hl
 have fin : ∀ (ws : List Value) (b c' h2), Rs led' ds ws -> Fr h₀ L h2 m -> News h₀ L h2 ((b, listOf ws.toArray c') :: news') -> (∀ q ∈ news', q.1 < b) -> Q (.ref b) (sw s h2 tk) := fun ws b c' h2 rr F N lt => by
  have S2 := S'.apart (new := [(b, listOf ws.toArray c')]) F N (zQ S'.nd lt)
  obtain ⟨mm, X⟩ := S'.loc
  obtain ⟨mm2, X2⟩ := S2.loc
  obtain rfl := Lc.uniq S' S2 X.lc X2.lc
  exact K b ws c' h2 tk led' _ S2 i (.head _) rr (zBh fun p hp => lt p (S'.sub p hp)) (zBh fun p hp => lt p (S'.kon p hp)) ⟨mm, X2, X.apart S'.kon lt⟩
 cases d with
 | tup =>
  obtain rfl := Option.some.inj hi
  obtain ⟨a, ws, rfl, hm, hi, rr⟩ := S'.isTup rv
  exact kup_listOfT (s := (sw s h' tk)) S'.F S'.N (S'.sub _ hm) rfl (fun b c' h2 F N lt => fin ws b c' h2 rr F N lt) (sz_line (le_k (Rs.length rr ▸ h1) rfl))
 | lst =>
  obtain rfl := Option.some.inj hi
  obtain ⟨a, ws, c, rfl, hm, hi, rr⟩ := S'.isLst rv
  exact kup_listOf (s := (sw s h' tk)) S'.F S'.N (S'.sub _ hm) rfl (fun b c' h2 F N lt => fin ws b c' h2 rr F N lt) (sz_line (le_k (Rs.length rr ▸ h1) rfl))
 | _ => cases hi
theorem ex1_assign_own {sc ρ n x px e pos ds} (hx : zAu sc x = true) (hn : zBx e = true) (h : EvO sc ρ n e ds) : Ex1 sc ρ n (.Assign [.Name x px] e pos) .next (put x (.own ds) ρ) := by
 intro prog w A env h₀ L s m ko led news Q hs hl Si S K
 refine wpAny_Assign_Name (h prog w A env h₀ L s m ko led news _ _ hs Si S fun a vs c h' tk led' news' S' i hm r n1 n2 ap => ?_) (noSwap hn _ _ _)
 refine store_ Si.kd hl (zL hs hx) S'.F S'.N fun h2 F2 N2 => ?_
 obtain ⟨mm, X, ap⟩ := ap
 obtain rfl := S'.fn hl X
 exact K .next h2 _ _ led' news' (S'.putOwn hl (zL hs hx) F2 N2 hm r n1 n2 ap) i rfl
theorem strValues_Rs {led} : ∀ (l : List (Str × Tok)), Rs led ((l.map (·.1)).map D.str) (strValues l)
 | [] => Rs.nil
 | p :: l => Rs.cons (by exact R_str) (strValues_Rs l)
theorem St.newList {env h₀ L h h' m ρ ko led news} {vs ds} (S : St env h₀ L h m ρ ko led news) (F : Fr h₀ L h' m) (N : News h₀ L h' ((h.objs.size, listOf vs.toArray 0) :: news)) (r : Rs led ds vs) :
  ∃ led', (Inc led led') ∧ St env h₀ L h' m ρ ko led' ((h.objs.size, listOf vs.toArray 0) :: news) ∧ R led' (.lst ds) (.ref h.objs.size) := by
 refine ⟨_, fun p hp => .tail _ hp, S.grow (new := [(h.objs.size, listOf vs.toArray 0)]) F N (zQ S.nd fun p hp => Heap.lt_size (S.N p hp).1), ?_⟩
 exact R_lst (.head _) (Rs.mono (fun p hp => .tail _ hp) r)
theorem ev_split0 {sc ρ n o att apos pos x} (ho : EvE sc ρ n o (.str x)) (ha : isNm att "split" = true) (hok : zCf o apos pos [] = true) (hx : Nat.ble x.cps.size 1000000 = true) : EvE sc ρ n (.Call (.Attribute o att apos) [] [] pos) (.lst ((Txt.words x).map D.str)) := by
 intro prog w A env h₀ L s m ko led news Q E hs Si S K
 obtain rfl := zW.mp ha
 refine MethodCall_ (ho prog w A env h₀ L s m ko led news _ E hs Si S fun v h' tk led' news' S' i r => ?_) (meth_eq hok)
 obtain ⟨t, rfl⟩ := zAf r
 refine GM.split (callWith_method0 ?_)
 have h1 := Nat.le_of_ble_eq_true hx
 refine splitN0 (s := (sw s h' tk)) S'.F S'.N (fun l h2 k e F N => ?_) (by show x.cps.size + 2 ≤ _; have : sizeLine = 2 ^ 24 := rfl; lia)
 obtain ⟨led2, i2, S2, r2⟩ := S'.newList F N (strValues_Rs l)
 rw [e] at r2
 exact K _ h2 k led2 _ S2 (Inc.trans i i2) r2
theorem ev_split1 {sc ρ n o att apos pos e x y} (ho : EvE sc ρ n o (.str x)) (he : EvE sc ρ n e (.str y)) (hy : (y.length == 0) = false) (ha : isNm att "split" = true) (hok : zCf o apos pos [e] = true) (hx : Nat.ble x.cps.size 1000000 = true) :
  EvE sc ρ n (.Call (.Attribute o att apos) [e] [] pos) (.lst ((Txt.split x y).map D.str)) := by
 intro prog w A env h₀ L s m ko led news Q E hs Si S K
 obtain rfl := zW.mp ha
 have hst := methOK_one hok
 refine MethodCall_ (ho prog w A env h₀ L s m ko led news _ E hs Si S fun v h' tk led' news' S' i r => ?_) (meth_eq hok)
 obtain ⟨t, rfl⟩ := zAf r
 refine GM.split (callWith_method1 (zH hst he zO prog w A env h₀ L _ m ko led' news' _ E pos hs Si S' fun vs h2 tk2 led2 news2 S2 i2 r2 => ?_) (zB hst) rfl)
 obtain ⟨v, rfl, rv⟩ := Rs.inv1 r2
 obtain ⟨u, rfl⟩ := zAf rv
 have h1 := Nat.le_of_ble_eq_true hx
 refine splitN1 (s := (sw s h2 tk2)) S2.F S2.N hy (fun l h3 k e F N => ?_) (by show x.cps.size + 2 ≤ _; have : sizeLine = 2 ^ 24 := rfl; lia)
 obtain ⟨led3, i3, S3, r3⟩ := S2.newList F N (strValues_Rs l)
 rw [e] at r3
 exact K _ h3 k led3 _ S3 (Inc.trans i (Inc.trans i2 i3)) r3
theorem ev_lstrip {sc ρ n o att apos pos e x y} (ho : EvE sc ρ n o (.str x)) (he : EvE sc ρ n e (.str y)) (ha : isNm att "lstrip" = true) (hok : zCf o apos pos [e] = true) (hx : Nat.ble x.cps.size 1000000 = true) :
  EvE sc ρ n (.Call (.Attribute o att apos) [e] [] pos) (.str (Txt.lstripChars x y)) := by
 intro prog w A env h₀ L s m ko led news Q E hs Si S K
 obtain rfl := zW.mp ha
 have hst := methOK_one hok
 refine MethodCall_ (ho prog w A env h₀ L s m ko led news _ E hs Si S fun v h' tk led' news' S' i r => ?_) (meth_eq hok)
 obtain ⟨t, rfl⟩ := zAf r
 refine GM.lstrip (callWith_method1 (zH hst he zO prog w A env h₀ L _ m ko led' news' _ E pos hs Si S' fun vs h2 tk2 led2 news2 S2 i2 r2 => ?_) (zB hst) rfl)
 obtain ⟨v, rfl, rv⟩ := Rs.inv1 r2
 obtain ⟨u, rfl⟩ := zAf rv
 have h1 := Nat.le_of_ble_eq_true hx
 exact SCL.lstripChars (s := (sw s h2 tk2)) (fun t' k _ => K _ h2 k led2 news2 S2 (Inc.trans i i2) R_str) (by show x.cps.size ≤ _; have : sizeLine = 2 ^ 24 := rfl; lia)
theorem ev_index {sc ρ n o att apos pos e x y} (ho : EvE sc ρ n o (.str x)) (he : EvE sc ρ n e (.str y)) (ha : isNm att "index" = true) (hok : zCf o apos pos [e] = true) (hx : (Builtin.Str.occurrences x y 0 x.length 1).isEmpty = false) :
  EvE sc ρ n (.Call (.Attribute o att apos) [e] [] pos) (.int (Txt.find x y)) := by
 intro prog w A env h₀ L s m ko led news Q E hs Si S K
 obtain rfl := zW.mp ha
 have hst := methOK_one hok
 refine MethodCall_ (ho prog w A env h₀ L s m ko led news _ E hs Si S fun v h' tk led' news' S' i r => ?_) (meth_eq hok)
 obtain ⟨t, rfl⟩ := zAf r
 refine GM.index (callWith_method1 (zH hst he zO prog w A env h₀ L _ m ko led' news' _ E pos hs Si S' fun vs h2 tk2 led2 news2 S2 i2 r2 => ?_) (zB hst) rfl)
 obtain ⟨v, rfl, rv⟩ := Rs.inv1 r2
 obtain ⟨u, rfl⟩ := zAf rv
 exact index_or (s := (sw s h2 tk2)) Si.hd (fun _ e => by rw [hx] at e; cases e) fun _ _ => K _ h2 _ led2 news2 S2 (Inc.trans i i2) R_int
theorem blt_str {n : Nat} {a : Int} (h : a.natAbs.log2 < 1920) : BltOK n (.type "str") [.int a] (.str (Str.ofString (toString a))) := by
 intro prog w A env h₀ L s m ρ ko led news vs Q E Si S r K
 obtain ⟨v, rfl, rv⟩ := Rs.inv1 r
 obtain ⟨t, rfl⟩ := zS rv
 exact P.str_of_int h (K _ s.heap _ led news S (fun _ h => h) R_str)
theorem St.overObj {env h₀ L h h' m ρ ko led news led' news'} {self x dx} {C : Nat} {es es'} {k k' : Nat} {ns0 ns fs0 fs} (S : St env h₀ L h m ρ ko led news) (hl : env.locals = L)
  (e : fnd self ρ = some (.obj C ns0 fs0)) (hv : m self = some (.ref x)) (hhd : ko.head? = some (x, instObj C dx)) (hdm : (dx, dictOf es k) ∈ news) (hdk : dx ∉ keyL ko)
  (F : Fr h₀ L h' m) (N : News h₀ L h' news') (nd : (keyL news').Nodup) (tab : TabOK led' news') (hk : ∀ p ∈ koOf led news, p.1 ≠ dx -> p ∈ news' ∧ p.1 ∉ keyL led')
  (hs : Inc led' news') (i : Inc led led') (hd' : (dx, dictOf es' k') ∈ news') (ndx : dx ∉ keyL led') (ke : zAe es' ns) (rf : Rs led' fs (es'.map (·.val))) : St env h₀ L h' m (put self (.obj C ns fs) ρ) ko led' news' := by
 have hkk : ∀ p ∈ ko, p ∈ news' ∧ p.1 ∉ keyL led' := fun p hp => hk p (zAd.mpr ⟨S.kon p hp, S.dis p.1 (zC (o := p.2) hp)⟩) fun q => hdk (q ▸ zC (o := p.2) hp)
 refine ⟨F, N, nd, fun p hp => (hkk p hp).1, hs, fun a ha => ?_, tab, ?_⟩
 ·obtain ⟨p, hp, rfl⟩ := List.mem_map.mp ha
  exact ⟨(hkk p hp).2, (S.dis p.1 ha).2⟩
 ·obtain ⟨mm, X⟩ := S.loc
  obtain rfl := S.fn hl X
  refine ⟨mm, X.putKeep e rfl hv ⟨x, dx, es', k', _, rfl, hhd, hd', ke, rfl, rf, ndx, hdk⟩ fun y lv u q ey V O => ?_⟩
  cases lv with
  | val d => exact R.mono i O
  | own ds =>
   obtain ⟨a, vs, c, rfl, hm, r, n1, n2⟩ := O
   have := hk _ (own_koOf S.nd S.tab hm n1 (by intro h; cases h)) fun (p : a = dx) => by
    subst p
    exact no_ld (zAm S.nd hm hdm)
   exact ⟨a, vs, c, rfl, this.1, Rs.mono i r, this.2, n2⟩
  | obj C2 ns2 ds2 =>
   obtain ⟨b, dx2, es2, n2, vs2, rfl, m2, _⟩ := O
   rw [hhd] at m2
   cases m2
   exact absurd (X.inj y self _ _ _ ey e rfl rfl (V rfl) hv) q
theorem ex1_super {sc ρ n cx cxp att apos self sp e cpos pos C ns0 fs0 d ns fs} (hk : zZ sc cx = true) (hd : zM cx = true) (ec : fnd cx gTab = some (.ref 320)) (ha : isNm att "__init__" = true) (hok : zCf (.Name cx cxp) apos cpos [.Name self sp, e] = true)
  (es : fnd self ρ = some (.obj C ns0 fs0)) (hds : zM self = true) (he : EvE sc ρ n e d) (hc : InitOK n 296 C ns0 fs0 [d] ns fs) : Ex1 sc ρ n (.Expr (.Call (.Attribute (.Name cx cxp) att apos) [.Name self sp, e] [] cpos) pos) .next (put self (.obj C ns fs) ρ) := by
 intro prog w A env h₀ L s m ko led news Q hs hloc Si S K
 obtain rfl := zW.mp ha
 have hst : zP e = true := and2 (methOK_all hok) fun _ h => and2 h fun h _ => h
 have o1 := op_init w.params
 refine wpAny_Expr ?_ (inter_false Si.kd) rfl
 refine MethodCall_ (zBl hs Si S hk hd ec ?_) (meth_eq hok)
 refine method_of_cls S.F Si.X o1.sp ?_
 refine cls_val S.F Si.X o1.ty o1.rd o1.fc rfl ?_
 have hkeep : keepIn (KW w.params) (.ref 296) = true := List.all_eq_true.mp (keep_ok w.params) r296 mem_fn296
 refine callWith_K (h₀ := h₀) Si.X hkeep ?_ rfl (by rw [zAr]; exact zAa (es := [e]) (methOK_tl hok))
 obtain ⟨mm, X⟩ := S.loc
 obtain rfl := S.fn hloc X
 obtain ⟨v, V, O, kk⟩ := X.at' self _ es
 obtain ⟨x, dx, de, k, vs, rfl, hhd, hdm, ke, rfl, rr, n1, n2⟩ := O
 have hv := V.local (kk rfl)
 refine args_cons (load_vw (h₀ := h₀) (s := { s with toks := s.toks + 1 }) Si.kd S X.lc V hds ?_) rfl
 refine zH hst he zO prog w A env h₀ L { s with toks := s.toks + 1 } mm ko led news _ _ cpos hs Si S fun vs1 h' tk led' news' S' i r1 => ?_
 refine ⟨Si.X.keeps S'.F.keep, ?_⟩
 obtain ⟨mm2, X2⟩ := S'.loc
 obtain rfl := S'.fn hloc X2
 obtain ⟨v2, V2, O2, kk2⟩ := X2.at' self _ es
 obtain ⟨x2, dx2, de2, k2, vs2, rfl, hhd2, hdm2, ke2, rfl, rr2, n12, n22⟩ := O2
 have hv2 := V2.local (kk2 rfl)
 rw [hv] at hv2
 cases hv2
 rw [hhd] at hhd2
 cases hhd2
 have hxk : (x, instObj C dx) ∈ ko := zAw hhd
 refine wpAny_call (hc prog w A env h₀ L (sw s h' tk) mm2 ρ ko led' news' vs1 _ x dx de2 k2 Si S' r1 (S'.kon _ hxk) hdm2 ke2 rr2 (S'.dis x (zC hxk)).1 n12 ?_)
 intro h3 tk3 led3 news3 es3 k3 F3 N3 nd3 tab3 hkeep3 hsub3 i3 hx3 hd3 nx3 ndx3 ke3 rf3
 exact K .next h3 tk3 mm2 led3 news3 (S'.overObj hloc es hv hhd hdm2 n22 F3 N3 nd3 tab3 hkeep3 hsub3 i3 hd3 ndx3 ke3 rf3) (Inc.trans i i3) rfl
noncomputable def bindT (sc : zT) (t : Expr) (d : D) (ρ : Loc) : Option Loc := onNA (fun x _ => gd (zAu sc x) (some (put x (.val d) ρ))) (fun _ _ _ => none) (fun es _ _ => onLT noV (fun ds => zBw sc es ds ρ) d) t
theorem bindT_tup {sc es} {k : Nat} {p d ρ ρ1} (h : bindT sc (.Tuple es k p) d ρ = some ρ1) : ∃ ds, d = .tup ds ∧ zBw sc es ds ρ = some ρ1 := by
 cases d with
 | tup ds => exact ⟨ds, rfl, h⟩
 | _ => cases h
inductive Cp (sc : zT) (n : Nat) (t elt : Expr) (ifs : List Expr) (ρ : Loc) : List D -> List D -> Prop
 | nil : Cp sc n t elt ifs ρ [] []
 | keep {d ds y ys ρ1} : bindT sc t d ρ = some ρ1 -> (∀ c ∈ ifs, EvT sc ρ1 n c true) -> EvE sc ρ1 n elt y -> Cp sc n t elt ifs ρ ds ys -> Cp sc n t elt ifs ρ (d :: ds) (y :: ys)
 | drop {d ds c ys ρ1} : bindT sc t d ρ = some ρ1 -> ifs = [c] -> EvT sc ρ1 n c false -> Cp sc n t elt ifs ρ ds ys -> Cp sc n t elt ifs ρ (d :: ds) ys
inductive CpV (sc : zT) (n : Nat) (t elt : Expr) (ifs : List Expr) (ρ : Loc) (d : D) (ds outs : List D) : Prop
 | keep (ρ1 : Loc) (y : D) (ys : List D) : bindT sc t d ρ = some ρ1 -> (∀ c ∈ ifs, EvT sc ρ1 n c true) -> EvE sc ρ1 n elt y -> Cp sc n t elt ifs ρ ds ys -> outs = y :: ys -> CpV sc n t elt ifs ρ d ds outs
 | drop (ρ1 : Loc) (c : Expr) : bindT sc t d ρ = some ρ1 -> ifs = [c] -> EvT sc ρ1 n c false -> Cp sc n t elt ifs ρ ds outs -> CpV sc n t elt ifs ρ d ds outs
theorem Cp.inv {sc n t elt ifs ρ d ds outs} (h : Cp sc n t elt ifs ρ (d :: ds) outs) : CpV sc n t elt ifs ρ d ds outs := by
 cases h with
 | keep a b c e => exact .keep _ _ _ a b c e rfl
 | drop a b c e => exact .drop _ _ a b c e
theorem Cp.inv0 {sc n t elt ifs ρ outs} (h : Cp sc n t elt ifs ρ [] outs) : outs = [] := by
 cases h
 rfl
noncomputable def zAg (sc : zT) (scope : Scope) : zT := scope.names.map fun x => if (x.2 == .free && fnd x.1 sc == some .cell) then (x.1, .cell) else x
noncomputable def okSc (scope : Scope) : Bool := (scope.kind == .function) && scope.names.all fun x => x.2 != .cell && (x.2 != .local || fnd x.1 scope.names == some .local)
theorem okSc_of {scope} (h : okSc scope = true) : scope.kind = .function ∧ (∀ y ∈ scope.names, y.2 ≠ .cell) ∧ ∀ x ∈ scope.names, x.2 = .local -> scope.names.lookup x.1 = some .local := by
 simp only [okSc, Bool.and_eq_true, beq_iff_eq, List.all_eq_true, bne_iff_ne, Bool.or_eq_true] at h
 refine ⟨h.1, fun y hy => (h.2 y hy).1, fun x hx hl => ?_⟩
 rw [zAc]
 rcases (h.2 x hx).2 with q | q
 ·exact absurd hl q
 ·exact q
theorem relabel_names {env sc scope} (hs : env.scope.names = sc) (hk : env.scope.kind = .function) : (relabel scope env).names = zAg sc scope := by
 unfold relabel zAg
 simp only
 refine List.map_congr_left fun x _ => ?_
 obtain ⟨a, b⟩ := x
 simp only [kind_of hs, hk]
 simp
inductive ClAt (env : Env) (ko led : Led) (mm : Str -> Option Value) (y : Str) (lv : LV) : Prop
 | mk (d : D) (v : Value) : lv = .val d -> R led d v -> Vw env mm ko y v -> ClAt env ko led mm y lv
noncomputable def CL (env : Env) (ko led : Led) (mm : Str -> Option Value) (ρ : Loc) : Prop := ∀ y lv, fnd y ρ = some lv -> ClAt env ko led mm y lv
theorem Vw.mono {env mm ko ko' x v} (V : Vw env mm ko x v) (h : Inc ko ko') : Vw env mm ko' x v := by
 cases V with
 | loc a b => exact .loc a b
 | cel c o a b m d => exact .cel c o a b (h _ m) d
theorem CL.put {env ko led mm ρ} {x d v} (c : CL env ko led mm ρ) (hk : env.kindOf x = some .local) (r : R led d v) : CL env ko led (upd mm x v) (put x (.val d) ρ) := by
 intro y lv e
 rw [zN] at e
 split at e
 ·rename_i q
  obtain rfl := zW.mp q
  cases e
  exact ⟨d, v, rfl, r, .loc hk (by simp [upd])⟩
 ·rename_i q
  obtain ⟨d', u, e1, r', V⟩ := c y lv e
  have hne : y ≠ x := fun h => q (by rw [h]; exact zI x)
  refine ⟨d', u, e1, r', ?_⟩
  cases V with
  | loc a b => exact .loc a (by simp [upd, hne, b])
  | cel c o a b c' d' => exact .cel c o a b c' d'
theorem St.enterC {env env' h₀ L h m ρ ko led news ρ1 mm oC} (S : St env h₀ L h m ρ ko led news) (hC : (env'.locals, oC) ∈ koOf led news) (ns : LCg.NsObj oC mm) (cl : CL env' ko led mm ρ1) : St env' h₀ L h m ρ1 (koOf led news) led news where
 F := S.F
 N := S.N
 nd := S.nd
 kon := fun p hp => (zAd.mp hp).1
 sub := S.sub
 dis := fun a ha => by
  obtain ⟨p, hp, rfl⟩ := List.mem_map.mp ha
  exact (zAd.mp hp).2
 tab := S.tab
 loc := by
  refine ⟨mm, .comp oC hC ns, fun x lv e => ?_, fun x y lx ly v e1 e2 h1 h2 => ?_⟩
  ·obtain ⟨d, v, rfl, r, V⟩ := cl x lv e
   exact ⟨v, V.mono fun p hp => zAd.mpr ⟨S.kon p hp, S.dis p.1 (zC (o := p.2) hp)⟩, r, fun h => by cases h⟩
  ·obtain ⟨d, v, rfl, _⟩ := cl x lx e1
   cases h1
section
variable {prog : Program} {w : World} {A : Around} {E : Value -> Shared -> Prop}
theorem storeC {s env x px v mm Q} (kd : env.scope.kind = .function) (hk : env.kindOf x = some .local) (hn : s.heap.Ns env.locals mm)
  (h : ∀ h', h'.Ns env.locals (upd mm x v) -> Heap.SameBut env.locals s.heap h' -> Q () (sw s h' (s.toks + 1))) : wpAny (model prog w) A (assign (.Name x px) env v) Q E s :=
 wpAny_assign_Name (wpAny_storeName_local hk hn h (by rw [kd]; rfl))
theorem asgC {sc env ko led} (hs : env.scope.names = sc) (kd : env.scope.kind = .function) {es ds ρ ρ'} (b : zBw sc es ds ρ = some ρ') : ∀ {vs s mm Q},
  CL env ko led mm ρ -> s.heap.Ns env.locals mm -> Rs led ds vs -> (∀ h' tk mm', h'.Ns env.locals mm' -> Heap.SameBut env.locals s.heap h' -> CL env ko led mm' ρ' -> Q () (sw s h' tk)) ->
  wpAny (model prog w) A (assignInOrder ((assignEach es env).map (·.2)) vs) Q E s := by
 replace b := bind_bd ρ' b
 induction b with
 | nil => exact fun {vs s mm Q} c hn r K => assignInOrder_nil (K s.heap s.toks mm hn (Heap.SameBut.refl _ _) c)
 | @cons x p es d ds ρ ρ' hx _ ih =>
  intro vs s mm Q c hn r K
  obtain ⟨v, vs, rfl, r1, r2⟩ := Rs_cons_inv r
  refine assignInOrder_cons (t := assign (.Name x p) env) ?_
  refine storeC kd (zL hs hx) hn fun h' hn' hs' => ?_
  exact ih (s := (sw s h' (s.toks + 1))) (c.put (zL hs hx) r1) hn' r2 fun h2 tk2 mm2 hn2 hs2 c2 => K h2 tk2 mm2 hn2 (hs'.trans hs2) c2
end
theorem St.locals_ne {env h₀ L h m ρ ko led news} (S : St env h₀ L h m ρ ko led news) {a} (hn : ∀ p ∈ news, p.1 ≠ a) (hL : L ≠ a) : env.locals ≠ a := by
 obtain ⟨mm, X⟩ := S.loc
 cases X.lc with
 | fn e _ => rw [e]; exact hL
 | comp oC hm _ => exact hn _ (S.kon _ hm)
theorem Sp.locals_ne {env L m ρ ko led news} (S : Sp env L m ρ ko led news) {a} (hn : ∀ p ∈ news, p.1 ≠ a) (hL : L ≠ a) : env.locals ≠ a := by
 obtain ⟨mm, X⟩ := S.loc
 cases X.lc with
 | fn e _ => rw [e]; exact hL
 | comp oC hm _ => exact hn _ (S.kon _ hm)
theorem Sp.not_tab {env L m ρ ko led news} (S : Sp env L m ρ ko led news) {a} (hn : ∀ p ∈ news, p.1 ≠ a) : a ∉ tabs := fun ht => by
 obtain ⟨_, ps, hp, _⟩ := S.tab a ht
 exact hn _ hp rfl
theorem Sp.not_ko {env L m ρ ko led news} (S : Sp env L m ρ ko led news) {a} (hn : ∀ p ∈ news, p.1 ≠ a) : a ∉ keyL ko := fun hm => by
 obtain ⟨p, hp, e⟩ := List.mem_map.mp hm
 exact hn p (S.kon p hp) e
theorem Sp.not_led {env L m ρ ko led news} (S : Sp env L m ρ ko led news) {a} (hn : ∀ p ∈ news, p.1 ≠ a) : a ∉ keyL led := fun hm => by
 obtain ⟨p, hp, e⟩ := List.mem_map.mp hm
 exact hn p (S.sub p hp) e
theorem Sp.drop1 {env L m ρ ko led news} {I o} (S : Sp env L m ρ (ko ++ [(I, o)]) led news) (hk : I ∉ keyL ko) (ho : ∀ C dx, o ≠ instObj C dx) (hl : env.locals ≠ I) (hcell : ∀ v, o.data ≠ .cell v) :
  Sp env L m ρ ko led (news.filter fun p => decide (p.1 ≠ I)) :=
 S.dropOne hk ho (fun oC mm hm _ => by
  rcases List.mem_append.mp hm with hm | hm
  ·exact hm
  ·exact absurd (congrArg Prod.fst (List.mem_singleton.mp hm)) hl) hcell
theorem news_filter {h₀ L h news} {f : Addr × Obj -> Bool} (N : News h₀ L h news) : News h₀ L h (news.filter f) := fun p hp => N p (List.mem_filter.mp hp).1
theorem filter_ne {news : Led} {I : Addr} : ∀ p ∈ news.filter (fun p => decide (p.1 ≠ I)), p.1 ≠ I := fun p hp => by
 have := (List.mem_filter.mp hp).2
 simpa using this
structure CEnd (env : Env) (h₀ : Heap) (L : Addr) (m : Str -> Option Value) (ρ : Loc) (ko led : Led) (outs : List D) (D C : Addr) (h : Heap) (led' news' : Led) (ys : List Value) (m' : Str -> Option Value) : Prop where
 sp : Sp env L m ρ ko led' news'
 inc : Inc led led'
 F : Fr h₀ L h m
 N : News h₀ L h news'
 gD : h.get? D = some (LCg.lst ys)
 r : Rs led' outs ys
 nC : h.Ns C m'
 c0 : h₀.get? C = none
 d0 : h₀.get? D = none
 cL : C ≠ L
 dL : D ≠ L
 cd : C ≠ D
 offC : ∀ p ∈ news', p.1 ≠ C
 offD : ∀ p ∈ news', p.1 ≠ D
noncomputable def tgtOK (t : Expr) (ifs : List Expr) : Bool := (onNA (fun _ _ => on0s (some ()) (fun _ l => onNil (some ()) l) ifs) (fun _ _ _ => none) (fun _ _ _ => onNil (some ()) ifs) t).isSome
noncomputable def mapsTo (sc : zT) (scope : Scope) (ρ ρC : Loc) : Prop := ∀ y lv, fnd y ρC = some lv -> ∃ d, lv = .val d ∧ fnd y ρ = some (.val d) ∧ fnd y scope.names = some .free ∧ (fnd y sc = some .cell ∨ fnd y sc = some .free)
theorem compNames_free {sc : zT} {y : Str} : ∀ {l : zT}, fnd y l = some .free -> fnd y (l.map fun x => if (x.2 == NameKind.free && fnd x.1 sc == some .cell) then (x.1, .cell) else x) = some .cell ∨ fnd y (l.map fun x => if (x.2 == NameKind.free && fnd x.1 sc == some .cell) then (x.1, .cell) else x) = some .free
 | [], h => by cases h
 | (z, k) :: r, h => by
  unfold fnd at h
  simp only [List.map_cons]
  split at h
  ·rename_i q
   cases h
   split
   ·left; simp only [fnd, q, if_true]
   ·right; simp only [fnd, q, if_true]
  ·rename_i q
   have ih := compNames_free (sc := sc) h
   split <;> (simp only [fnd, q]; simpa using ih)
theorem zero_of_cl {sc : zT} {env env' : Env} {scope : Scope} {ρ ρC : Loc} {L : Addr} {m m' : Str -> Option Value} {ko led news : Led} (hs : env.scope.names = sc) (hs' : env'.scope.names = zAg sc scope) (hC : mapsTo sc scope ρ ρC)
  (hcl : ∀ y, fnd y scope.names = some .free -> env'.cells.lookup y = env.cells.lookup y) (S : Sp env L m ρ ko led news) : CL env' ko led m' ρC := by
 intro y lv e
 obtain ⟨d, rfl, e1, e2, e3⟩ := hC y lv e
 obtain ⟨mm, X⟩ := S.loc
 obtain ⟨v, V, O, _⟩ := X.at' y _ e1
 refine ⟨d, v, rfl, O, ?_⟩
 cases V with
 | loc a b =>
  rw [kind_of hs] at a
  rcases e3 with q | q <;> rw [a] at q <;> cases q
 | cel c o a b hm hd =>
  refine .cel c o ?_ ((hcl y e2).trans b) hm hd
  rw [kind_of hs']
  exact compNames_free e2
structure CG (Stt : Nat -> Heap -> Prop) (env : Env) (h₀ : Heap) (L : Addr) (m : Str -> Option Value) (ρ : Loc) (ko led : Led) (I DD i : Nat) (h : Heap) (mm : Str -> Option Value) (ledi newsi : Led) (ysd : List D) (ys : List Value) : Prop where
 st : Stt i h
 sp : Sp env L m ρ ko ledi newsi
 inc : Inc led ledi
 F : Fr h₀ L h m
 N : News h₀ L h newsi
 gD : h.get? DD = some (LCg.lst ys)
 nC : h.Ns (DD + 1) mm
 off : ∀ p ∈ newsi, p.1 ≠ I ∧ p.1 ≠ DD + 1 ∧ p.1 ≠ DD
 r : Rs ledi ysd ys
inductive CInv (G : Nat -> Heap -> (Str -> Option Value) -> Led -> Led -> List D -> List Value -> Prop) (s₂ : Shared) (ds outs : List D) (C : List D -> List D -> Prop) (k : Nat) (s' : Shared) : Prop
 | mk (h' : Heap) (tk i : Nat) (mm : Str -> Option Value) (ledi newsi : Led) (ysd : List D) (ys : List Value) (rest : List D) : s' = (sw s₂ h' tk) -> i ≤ ds.length -> k = ds.length + 1 - i -> G i h' mm ledi newsi ysd ys -> ys.length ≤ i -> outs = ysd ++ rest -> C (ds.drop i) rest -> CInv G s₂ ds outs C k s'
theorem turn_less {i n : Nat} (h : i < n) : n + 1 - (i + 1) < n + 1 - i := by lia
theorem snoc_le {ys : List Value} {y : Value} {i : Nat} (h : ys.length ≤ i) : (ys ++ [y]).length ≤ i + 1 := by
 rw [List.length_append]
 exact Nat.succ_le_succ h
theorem app_room {ys : List Value} {i n : Nat} (h : ys.length ≤ i) (k : i < n) (l : n ≤ 10000) : ys.toArray.size ≤ sizeLine := by
 have : sizeLine = 2 ^ 24 := rfl
 rw [List.size_toArray]
 lia
theorem bindT_name {sc x px d ρ ρ1} (h : bindT sc (.Name x px) d ρ = some ρ1) : zAu sc x = true ∧ ρ1 = put x (.val d) ρ := by
 have h : gd (zAu sc x) (some (put x (.val d) ρ)) = some ρ1 := h
 cases q : zAu sc x with
 | true => rw [q] at h; exact ⟨rfl, (Option.some.inj h).symm⟩
 | false => rw [q] at h; cases h
section
variable {prog : Program} {w : World} {A : Around} {E : Value -> Shared -> Prop}
theorem comp_go {sc : zT} {env : Env} {h₀ : Heap} {L : Addr} {s₂ : Shared} {m : Str -> Option Value} {ρ ρC : Loc} {ko led news : Led} {n : Nat} {t elt iter : Expr} {ifs : List Expr} {scope : Scope} {pos : Pos} {cl : List (Str × Addr)} {ds outs : List D} {I : Addr} {fp : List Addr} {P : Nat -> Value -> Prop} {Stt : Nat -> Heap -> Prop} {RR : Value -> Addr -> Result -> Shared -> Prop}
  (hs : env.scope.names = sc) (Si : Sit w A env h₀ L n) (hok : okSc scope = true) (ht : tgtOK t ifs = true) (hC : mapsTo sc scope ρ ρC) (hcl : ∀ y, fnd y scope.names = some .free -> cl.lookup y = env.cells.lookup y)
  (W : Walks prog w A I fp [I] ds.length P Stt) (hfp : ∀ b ∈ fp, b = I ∨ ∃ o, (b, o) ∈ led) (hst : Stt 0 s₂.heap)
  (S : St env h₀ L s₂.heap m ρ ko led news) (hnew : ∀ p ∈ news, p.1 ≠ I) (hI0 : h₀.get? I = none) (hIL : L ≠ I)
  (hIo : ∀ i h, Stt i h -> ∃ o, h.get? I = some o ∧ (∀ C dx, o ≠ instObj C dx) ∧ (∀ v, o.data ≠ .cell v))
  (hIt : ∀ es k tp, t = .Tuple es k tp -> ∀ i h, Stt i h -> ∃ l j, h.IsListIter I l j)
  (hP : ∀ i v, i < ds.length -> P i v -> ∃ d, ds[i]? = some d ∧ R led d v) (hsz : Nat.ble ds.length 10000 = true)
  (cp : Cp (zAg sc scope) n t elt ifs ρC ds outs)
  (K : ∀ D C h tk led' news' ys m', CEnd env h₀ L m ρ ko led outs D C h led' news' ys m' -> RR (.ref D) C (.ok .next) (sw s₂ h tk)) :
  wpAny (model prog w) A (newList []) (fun acc s₃ => wpAny (model prog w) A (newFunctionEnv scope env.globals cl [] env.qual none .none (some env)) (fun cenv s₄ =>
   codeAny (model prog w) A (.compStart (.ListComp elt [⟨t, iter, ifs, 0⟩] scope pos) 0 (.ref I) acc { cenv with scope := relabel scope env }) (RR acc cenv.locals) s₄) E s₃) E s₂ := by
 obtain ⟨hkind, hcell, -⟩ := okSc_of hok
 have hI : I ∈ fp := W.sub I (.head _)
 have hIlt : I < s₂.heap.objs.size := by obtain ⟨o, ho, _⟩ := hIo 0 _ hst; exact Heap.lt_size ho
 refine wpAny_newObj_type (wpAny_newFunctionEnv hcell (by intro y hy; simp at hy) (fun h₁ hns₁ hsb₁ => ?_) hkind)
 dsimp only at hns₁ hsb₁ ⊢
 have S1 := S.pushed { cls := .type "list", dict := none, data := .seq ([] : List Value).toArray }
 obtain ⟨d1, d2, d3⟩ := S.fresh
 generalize hDD : s₂.heap.objs.size = DD at *
 have hDg : (s₂.heap.push { cls := .type "list", dict := none, data := .seq ([] : List Value).toArray }).get? DD = some (LCg.lst []) := by rw [← hDD]; exact Heap.get?_push_size _ rfl
 have hC1 : (s₂.heap.push { cls := .type "list", dict := none, data := .seq ([] : List Value).toArray }).objs.size = DD + 1 := by rw [Heap.size_push, hDD]
 have old : ∀ b o, s₂.heap.get? b = some o -> (s₂.heap.push { cls := .type "list", dict := none, data := .seq ([] : List Value).toArray }).get? b = some o := fun b o e => Heap.get?_push_of_some _ e
 generalize s₂.heap.push { cls := .type "list", dict := none, data := .seq ([] : List Value).toArray } = H1 at *
 obtain ⟨c1, c2, c3⟩ := S1.fresh
 rw [hC1] at hns₁ hsb₁ c1 c2 c3
 have hH1 : ∀ b o, H1.get? b = some o -> h₁.get? b = some o := fun b o e => hsb₁.extBut b o (by have := Heap.lt_size e; rw [hC1] at this; exact Nat.ne_of_lt this) (Heap.get?_push_of_some _ e)
 have hCL : DD + 1 ≠ L := fun e => c3 e.symm
 have hDL : DD ≠ L := fun e => d3 e.symm
 have hCD : DD + 1 ≠ DD := Nat.succ_ne_self _
 have hIC : I ≠ DD + 1 := Nat.ne_of_lt (Nat.lt_succ_of_lt hIlt)
 have hID : I ≠ DD := Nat.ne_of_lt hIlt
 have hfpC : ∀ b ∈ fp, b ≠ DD + 1 ∧ b ≠ DD := fun b hb => by
  rcases hfp b hb with rfl | ⟨o, ho⟩
  ·exact ⟨hIC, hID⟩
  ·exact ⟨c1 _ (S.sub _ ho), d1 _ (S.sub _ ho)⟩
 have F1 : Fr h₀ L h₁ m := S1.F.keeps hH1
 have N1 : News h₀ L h₁ news := S1.N.grown hH1
 have hst1 : Stt 0 h₁ := W.frame _ _ _ hst fun b _ o e => hH1 b o (old b o e)
 have kd' : (compEnvC scope cl (DD + 1) env).scope.kind = .function := hkind
 have hs' : (compEnvC scope cl (DD + 1) env).scope.names = zAg sc scope := relabel_names hs Si.kd
 have Si' : Sit w A (compEnvC scope cl (DD + 1) env) h₀ L n := ⟨Si.fr, kd', Si.gl, Si.bl, Si.X, Si.T, Si.hd, Si.dp, Si.un, Si.hs⟩
 let G := CG Stt env h₀ L m ρ ko led I DD
 let Inv := CInv G s₂ ds outs (Cp (zAg sc scope) n t elt ifs ρC)
 have inv0 : Inv (ds.length + 1) (sw s₂ h₁ (s₂.toks + ([] : List (Str × Value)).length)) :=
  .mk h₁ _ 0 _ led news [] [] outs rfl (Nat.zero_le _) rfl ⟨hst1, S.sp, fun _ h => h, F1, N1, hH1 _ _ hDg, hns₁, fun p hp => ⟨hnew p hp, c1 p hp, d1 p hp⟩, Rs.nil⟩ (Nat.zero_le _) rfl cp
 have after : ∀ {i : Nat} {h₃ : Heap} {mm : Str -> Option Value} {ledi newsi : Led} {ysd : List D} {ys : List Value} {ρ1 : Loc}, G i h₃ mm ledi newsi ysd ys -> CL (compEnvC scope cl (DD + 1) env) ko ledi mm ρ1 ->
   ∃ ko' news', St (compEnvC scope cl (DD + 1) env) h₀ L h₃ m ρ1 ko' ledi news' ∧
    ∀ h4 led2 news2, St (compEnvC scope cl (DD + 1) env) h₀ L h4 m ρ1 ko' led2 news2 -> (Inc ledi led2) -> ∃ news5, G i h4 mm led2 news5 ysd ys := by
  intro i h₃ mm ledi newsi ysd ys ρ1 g hCL1
  obtain ⟨hst₃, Spi, ili, F₃, N₃, gD, hns, off, r⟩ := g
  obtain ⟨oI, hoI, ho1, ho2⟩ := hIo _ _ hst₃
  obtain ⟨oC, hoC, nsC⟩ := LCg.ns_obj hns
  have offI : ∀ p ∈ newsi, p.1 ≠ I := fun p hp => (off p hp).1
  have offC : ∀ p ∈ newsi, p.1 ≠ DD + 1 := fun p hp => (off p hp).2.1
  have offD : ∀ p ∈ newsi, p.1 ≠ DD := fun p hp => (off p hp).2.2
  have K1 := Spi.keepOne (o := oI) offI (Spi.not_tab offI)
  have offC1 : ∀ p ∈ (I, oI) :: newsi, p.1 ≠ DD + 1 := fun p hp => by
   rcases List.mem_cons.mp hp with rfl | hp
   ·exact hIC
   ·exact offC p hp
  have K2 := K1.keepOne (o := oC) offC1 (K1.not_tab offC1)
  have offD2 : ∀ p ∈ (DD + 1, oC) :: (I, oI) :: newsi, p.1 ≠ DD := fun p hp => by
   rcases List.mem_cons.mp hp with rfl | hp
   ·exact hCD
   ·rcases List.mem_cons.mp hp with rfl | hp
    ·exact hID
    ·exact offD p hp
  have K3 := K2.keepOne (o := LCg.lst ys) offD2 (K2.not_tab offD2)
  have N3 : News h₀ L h₃ ((DD, LCg.lst ys) :: (DD + 1, oC) :: (I, oI) :: newsi) := fun p hp => by
   rcases List.mem_cons.mp hp with rfl | hp
   ·exact ⟨gD, hDL, d2⟩
   ·rcases List.mem_cons.mp hp with rfl | hp
    ·exact ⟨hoC, hCL, c2⟩
    ·rcases List.mem_cons.mp hp with rfl | hp
     ·exact ⟨hoI, fun e => hIL e.symm, hI0⟩
     ·exact N₃ p hp
  have S3 := K3.st F₃ N3
  have hCm : (DD + 1, oC) ∈ koOf ledi ((DD, LCg.lst ys) :: (DD + 1, oC) :: (I, oI) :: newsi) :=
   zAd.mpr ⟨.tail _ (.head _), Spi.not_led offC, Spi.not_tab offC⟩
  have S4 := S3.enterC (env' := compEnvC scope cl (DD + 1) env) (ρ1 := ρ1) hCm nsC fun y lv e => by
   obtain ⟨d, v, e1, r, V⟩ := hCL1 y lv e
   exact ⟨d, v, e1, r, V.mono fun p hp => List.mem_append_left _ (List.mem_append_left _ (List.mem_append_left _ hp))⟩
  refine ⟨_, _, S4, fun h4 led2 news2 S5 i5 => ?_⟩
  have S6 := S3.back S5 i5 S5.F S5.N
  have mI : (I, oI) ∈ news2 := S6.kon _ (List.mem_append_left _ (List.mem_append_left _ (List.mem_append_right _ (.head _))))
  have mC : (DD + 1, oC) ∈ news2 := S6.kon _ (List.mem_append_left _ (List.mem_append_right _ (.head _)))
  have mD : (DD, LCg.lst ys) ∈ news2 := S6.kon _ (List.mem_append_right _ (.head _))
  have kD := K2.not_ko offD2
  have kC := K1.not_ko offC1
  have kI := Spi.not_ko offI
  have lD := Spi.locals_ne offD hDL.symm
  have lC := Spi.locals_ne offC hCL.symm
  have lI := Spi.locals_ne offI hIL
  have Q1 := S6.sp.drop1 kD (fun C dx e => by cases e) lD (fun v e => by cases e)
  have Q2 := Q1.drop1 kC (fun C dx e => by obtain ⟨es, ep, h, _⟩ := nsC; rw [e] at h; cases h) lC (fun v e => by obtain ⟨es, ep, h, _⟩ := nsC; rw [e] at h; cases h)
  have Q3 := Q2.drop1 kI ho1 lI ho2
  refine ⟨_, ?_, Q3, (Inc.trans ili i5), S5.F, news_filter (news_filter (news_filter S5.N)), (S5.N _ mD).1, nsC.ns (S5.N _ mC).1, fun p hp => ?_, Rs.mono i5 r⟩
  ·refine W.frame _ _ _ hst₃ fun b hb o e => ?_
   rcases hfp b hb with rfl | ⟨o', ho'⟩
   ·rw [hoI] at e
    cases e
    exact (S5.N _ mI).1
   ·have z1 := (N3 _ (K3.sub _ (ili _ ho'))).1
    have z2 := (S5.N _ (S5.sub _ (i5 _ (ili _ ho')))).1
    simp only at z1 z2
    rw [z1] at e
    cases e
    exact z2
  ·refine ⟨filter_ne p hp, ?_, ?_⟩
   ·exact filter_ne p (List.mem_filter.mp hp).1
   ·exact filter_ne p (List.mem_filter.mp (List.mem_filter.mp hp).1).1
 have hlen : ds.length ≤ 10000 := Nat.le_of_ble_eq_true hsz
 have keepEnd : ∀ {i : Nat} {h4 : Heap} {tk4 : Nat} {mm : Str -> Option Value} {led2 news5 : Led} {ysd : List D} {ys : List Value} {y : Value} {yd : D} {rest : List D} {E' : Value -> Shared -> Prop}, i < ds.length -> G (i + 1) h4 mm led2 news5 ysd ys -> ys.length ≤ i -> outs = ysd ++ (yd :: rest) -> R led2 yd y -> Cp (zAg sc scope) n t elt ifs ρC (ds.drop (i + 1)) rest ->
   wpAny (model prog w) A (call (.builtin "list.append") [.ref DD, y]) (fun _ s₅ => ∃ k', k' < ds.length + 1 - i ∧ Inv k' s₅) E' (sw s₂ h4 tk4) := by
  intro i h4 tk4 mm led2 news5 ysd ys y yd rest E' hi g hl4 ho4 ry cp4
  refine append_at (hsz := app_room hl4 hi hlen) g.gD fun h5 hs5 gD5 => ?_
  refine ⟨ds.length + 1 - (i + 1), turn_less hi, .mk h5 tk4 (i + 1) mm led2 news5 (ysd ++ [yd]) (ys ++ [y]) rest rfl hi rfl ⟨W.frame _ _ _ g.st fun b hb o e => hs5.extBut b o (hfpC b hb).2 e, g.sp, g.inc, g.F.change hs5 hDL d2, fun p hp => ⟨hs5.extBut _ _ (g.off p hp).2.2 (g.N p hp).1, (g.N p hp).2⟩,
   gD5.trans (congrArg some (LCg.lst_snoc ys y)), g.nC.sameBut hs5 hCD, g.off, Rs.append g.r (Rs.one ry)⟩ (snoc_le hl4) (by rw [ho4, List.append_assoc]; rfl) cp4⟩
 have loop : codeAny (model prog w) A (.compLoop (.ListComp elt [⟨t, iter, ifs, 0⟩] scope pos) 0 (.ref I) (.ref DD) (compEnvC scope cl (DD + 1) env)) (RR (.ref DD) (DD + 1)) (sw s₂ h₁ (s₂.toks + ([] : List (Str × Value)).length)) := by
  have elts : ∀ {i : Nat} {h₃ : Heap} {tk₃ : Nat} {mm : Str -> Option Value} {ledi newsi : Led} {ysd : List D} {ys : List Value} {ρ1 : Loc} {y : D} {rest : List D} {E' : Value -> Shared -> Prop}, i < ds.length -> G (i + 1) h₃ mm ledi newsi ysd ys -> CL (compEnvC scope cl (DD + 1) env) ko ledi mm ρ1 -> ys.length ≤ i -> outs = ysd ++ (y :: rest) -> Cp (zAg sc scope) n t elt ifs ρC (ds.drop (i + 1)) rest ->
    EvE (zAg sc scope) ρ1 n elt y ->
    wpAny (model prog w) A (eval elt (compEnvC scope cl (DD + 1) env)) (fun x s₄ => wpAny (model prog w) A (call (.builtin "list.append") [.ref DD, x]) (fun _ s₅ => ∃ k', k' < ds.length + 1 - i ∧ Inv k' s₅) E' s₄) E' (sw s₂ h₃ tk₃) := by
   intro i h₃ tk₃ mm ledi newsi ysd ys ρ1 y rest E' hi g cl1 hl ho cp1 he
   obtain ⟨ko', news', S4, back⟩ := after g cl1
   refine he prog w A _ h₀ L (sw s₂ h₃ tk₃) m ko' ledi news' _ E' hs' Si' S4 fun v h4 tk4 led2 news2 S5 i5 rv => ?_
   obtain ⟨news5, g5⟩ := back h4 led2 news2 S5 i5
   exact keepEnd hi g5 hl ho rv cp1
  have fin : ∀ {i h' h2 tk2 mm ledi newsi ysd ys rest}, G i h' mm ledi newsi ysd ys -> outs = ysd ++ rest -> Cp (zAg sc scope) n t elt ifs ρC [] rest -> (∀ b o, b ∉ [I] -> h'.get? b = some o -> h2.get? b = some o) -> RR (.ref DD) (DD + 1) (.ok .next) (sw s₂ h2 tk2) := by
   intro i h' h2 tk2 mm ledi newsi ysd ys rest g ho cp1 hk2
   rw [cp1.inv0, List.append_nil] at ho
   subst ho
   exact K _ _ h2 tk2 ledi newsi ys mm ⟨g.sp, g.inc, LCg.fr_but g.F hk2 hIL hI0, LCg.news_but g.N hk2 fun p hp => (g.off p hp).1, hk2 _ _ (fun q => hID (List.mem_singleton.mp q).symm) g.gD, g.r, g.nC.at' fun o e => hk2 _ o (fun q => hIC (List.mem_singleton.mp q).symm) e, c2, d2, hCL, hDL, hCD, fun p hp => (g.off p hp).2.1, fun p hp => (g.off p hp).2.2⟩
  have hcl' : ∀ y, fnd y scope.names = some .free -> (compEnvC scope cl (DD + 1) env).cells.lookup y = env.cells.lookup y := hcl
  cases t with
  | Name x px =>
   refine codeAny_compLoop_tests Inv ?_ _ inv0
   rintro k s' ⟨h', tk, i, m', ledi, newsi, ysd, ys, rest, rfl, hi, rfl, g, hl, ho, cp1⟩
   by_cases hlt : i < ds.length
   ·refine W.item i _ _ _ hlt g.st fun v h2 tk2 hPv hst2 hk2 => ?_
    obtain ⟨d, hd, rd⟩ := hP i v hlt hPv
    rw [drop_at hlt hd] at cp1
    have offk : ∀ b, b ≠ I -> ∀ o, h'.get? b = some o -> h2.get? b = some o := fun b hb o e => hk2 b o (fun q => hb (List.mem_singleton.mp q)) e
    have V := cp1.inv
    have hloc : zAu (zAg sc scope) x = true := by
     cases V with
     | keep _ _ _ hb => exact (bindT_name hb).1
     | drop _ _ hb => exact (bindT_name hb).1
    refine storeC kd' (zL hs' hloc) (g.nC.at' fun o e => offk _ (Ne.symm hIC) o e) fun h3 hn3 hs3 => ?_
    have N2 := LCg.news_but g.N hk2 fun p hp => (g.off p hp).1
    have g3 : G (i + 1) h3 (upd m' x v) ledi newsi ysd ys := ⟨W.frame _ _ _ hst2 fun b hb o e => hs3.extBut b o (hfpC b hb).1 e, g.sp, g.inc, (LCg.fr_but g.F hk2 hIL hI0).change hs3 hCL c2, fun p hp => ⟨hs3.extBut _ _ (g.off p hp).2.1 (N2 p hp).1, (N2 p hp).2⟩,
     hs3.extBut _ _ hCD.symm (offk _ (Ne.symm hID) _ g.gD), hn3, g.off, g.r⟩
    have goT : ∀ {c b ρ1}, bindT (zAg sc scope) (.Name x px) d ρC = some ρ1 -> EvT (zAg sc scope) ρ1 n c b -> ∀ {Q' : Bool -> Shared -> Prop} {E' : Value -> Shared -> Prop}, (∀ h4 tk4 led2 news5, G (i + 1) h4 (upd m' x v) led2 news5 ysd ys -> CL (compEnvC scope cl (DD + 1) env) ko led2 (upd m' x v) ρ1 -> Q' b (sw s₂ h4 tk4)) ->
      wpAny (model prog w) A (isTrue c (compEnvC scope cl (DD + 1) env) (eval c (compEnvC scope cl (DD + 1) env))) Q' E' (sw s₂ h3 (tk2 + 1)) := by
     intro c b ρ1 hb ht' Q' E' k'
     obtain ⟨_, rfl⟩ := bindT_name hb
     obtain ⟨ko', news', S4, back⟩ := after g3 ((zero_of_cl hs hs' hC hcl' g.sp).put (zL hs' hloc) (R.mono g.inc rd))
     refine ht' prog w A _ h₀ L (sw s₂ h3 (tk2 + 1)) m ko' ledi news' _ E' hs' Si' S4 fun h4 tk4 led2 news2 S5 i5 => ?_
     obtain ⟨news5, g5⟩ := back h4 led2 news2 S5 i5
     exact k' h4 tk4 led2 news5 g5 ((zero_of_cl hs hs' hC hcl' g5.sp).put (zL hs' hloc) (R.mono g5.inc rd))
    cases V with
    | keep ρ1 y ys' hb htests he cp2 er =>
     rw [er] at ho
     rcases ifs with _ | ⟨c, _ | _⟩
     ·refine wpAny_tests_nil ?_
      rw [if_pos rfl]
      obtain ⟨_, rfl⟩ := bindT_name hb
      exact elts hlt g3 ((zero_of_cl hs hs' hC hcl' g.sp).put (zL hs' hloc) (R.mono g.inc rd)) hl ho cp2 he
     ·refine wpAny_tests_one ?_
      refine goT hb (htests c (.head _)) fun h4 tk4 led2 news5 g5 cl5 => ?_
      rw [if_pos rfl]
      exact elts hlt g5 cl5 hl ho cp2 he
     ·cases ht
    | drop ρ1 c hb hif he cp2 =>
     subst hif
     refine wpAny_tests_one ?_
     refine goT hb he fun h4 tk4 led2 news5 g5 cl5 => ?_
     rw [if_neg Bool.false_ne_true]
     exact ⟨ds.length + 1 - (i + 1), turn_less hlt, .mk h4 tk4 (i + 1) _ led2 news5 ysd ys _ rfl hlt rfl g5 (Nat.le_succ_of_le hl) ho cp2⟩
   ·obtain rfl : i = ds.length := Nat.le_antisymm hi (Nat.not_lt.mp hlt)
    rw [List.drop_length] at cp1
    exact W.done _ _ _ g.st fun h2 tk2 hk2 => fin g ho cp1 hk2
  | Tuple es kt tp =>
   obtain rfl : ifs = [] := by
    cases ifs with
    | nil => rfl
    | cons c r => cases ht
   refine LCp.codeAny_compLoop_pair Inv ?_ _ inv0
   rintro k s' ⟨h', tk, i, m', ledi, newsi, ysd, ys, rest, rfl, hi, rfl, g, hl, ho, cp1⟩
   by_cases hlt : i < ds.length
   ·refine W.item i _ _ _ hlt g.st fun v h2 tk2 hPv hst2 hk2 => ?_
    obtain ⟨d, hd, rd⟩ := hP i v hlt hPv
    rw [drop_at hlt hd] at cp1
    cases cp1.inv with
    | drop ρ1 c hb hif he cp2 => cases hif
    | keep ρ1 y ys' hb htests he cp2 er =>
     rw [er] at ho
     have offk : ∀ b, b ≠ I -> ∀ o, h'.get? b = some o -> h2.get? b = some o := fun b hb o e => hk2 b o (fun q => hb (List.mem_singleton.mp q)) e
     obtain ⟨dd, rfl, hb⟩ := bindT_tup hb
     obtain ⟨lI, jI, hLi⟩ := hIt _ _ _ rfl _ _ hst2
     have N2 := LCg.news_but g.N hk2 fun p hp => (g.off p hp).1
     have S2 := g.sp.st (LCg.fr_but g.F hk2 hIL hI0) N2
     obtain ⟨a, vs, rfl, hm, hiT, rr⟩ := S2.isTup (R.mono g.inc rd)
     refine wpAny_letOwnedTupleGo_listiter hLi ?_
     obtain ⟨l1, l2⟩ := bindNm_len (env := compEnvC scope cl (DD + 1) env) hb
     refine assign_Tuple_tuple Si.hd hiT (by rw [l1, List.size_toArray, Rs.length rr]) l2 fun h2' he2 => ?_
     have up : ∀ b o, h2.get? b = some o -> h2'.get? b = some o := fun b o e => he2 b o (Nat.ne_of_lt (Heap.lt_size e)) e
     refine asgC (s := (sw s₂ h2' tk2)) hs' kd' hb (zero_of_cl (m' := m') hs hs' hC hcl' g.sp) (g.nC.at' fun o e => up _ o (offk _ (Ne.symm hIC) o e)) rr fun h3 tk3 mm hn3 hs3 cl1 => ?_
     exact elts hlt ⟨W.frame _ _ _ hst2 fun b hb o e => hs3.extBut b o (hfpC b hb).1 (up b o e), g.sp, g.inc, ((LCg.fr_but g.F hk2 hIL hI0).keeps up).change hs3 hCL c2, fun p hp => ⟨hs3.extBut _ _ (g.off p hp).2.1 (up _ _ (N2 p hp).1), (N2 p hp).2⟩,
      hs3.extBut _ _ hCD.symm (up _ _ (offk _ (Ne.symm hID) _ g.gD)), hn3, g.off, g.r⟩ cl1 hl ho cp2 he
   ·obtain rfl : i = ds.length := Nat.le_antisymm hi (Nat.not_lt.mp hlt)
    rw [List.drop_length] at cp1
    exact W.done _ _ _ g.st fun h2 tk2 hk2 => fin g ho cp1 hk2
  | _ => cases ht
 rw [hC1]
 exact codeAny_compStart_list loop (W.self 0 _ _ _ hst1 loop)
end
theorem closure_go {env : Env} : ∀ {names : zT} {cs0 : List (Str × Addr)}, (∀ y, (y, NameKind.free) ∈ names -> ∃ c, env.cells.lookup y = some c) ->
  ∃ cl, (forIn names cs0 (fun (x : Str × NameKind) (r : List (Str × Addr)) => (if (x.2 == NameKind.free) = true then (do let a ← cellOf env x.1; pure (ForInStep.yield ((x.1, a) :: r))) else pure (ForInStep.yield r) : Sem _)) : Sem _) = pure cl ∧ ∀ y, (cs0.lookup y = env.cells.lookup y ∨ (y, NameKind.free) ∈ names) -> cl.lookup y = env.cells.lookup y
 | [], cs0, _ => ⟨cs0, rfl, fun y h => by
   rcases h with h | h
   ·exact h
   ·cases h⟩
 | (n, k) :: r, cs0, h => by
  by_cases hk : k = .free
  ·subst hk
   obtain ⟨c, hc⟩ := h n (.head _)
   obtain ⟨cl, e1, e2⟩ := closure_go (names := r) (cs0 := (n, c) :: cs0) fun y hy => h y (.tail _ hy)
   refine ⟨cl, ?_, fun y hy => e2 y ?_⟩
   ·rw [List.forIn_cons, ← e1]
    have : cellOf env n = pure c := by unfold cellOf; rw [hc]
    simp only [this]
    rfl
   ·by_cases q : y = n
    ·subst q; left; rw [List.lookup_cons]; simp [hc]
    ·rcases hy with hy | hy
     ·left
      rw [List.lookup_cons]
      have : (y == n) = false := by simpa using q
      rw [this]; exact hy
     ·rcases List.mem_cons.mp hy with e | hy
      ·cases e; exact absurd rfl q
      ·exact .inr hy
  ·obtain ⟨cl, e1, e2⟩ := closure_go (names := r) (cs0 := cs0) fun y hy => h y (.tail _ hy)
   refine ⟨cl, ?_, fun y hy => e2 y ?_⟩
   ·rw [List.forIn_cons, ← e1]
    have : (k == NameKind.free) = false := by simpa using hk
    simp only [this]
    rfl
   ·rcases hy with hy | hy
    ·exact .inl hy
    ·rcases List.mem_cons.mp hy with e | hy
     ·cases e; exact absurd rfl hk
     ·exact .inr hy
theorem closure_ok {env : Env} {scope : Scope} (h : ∀ y, (y, NameKind.free) ∈ scope.names -> ∃ c, env.cells.lookup y = some c) : ∃ cl, closureFor scope env = pure cl ∧ ∀ y, fnd y scope.names = some .free -> cl.lookup y = env.cells.lookup y := by
 obtain ⟨cl, e1, e2⟩ := closure_go (env := env) (names := scope.names) (cs0 := []) h
 refine ⟨cl, ?_, fun y hy => e2 y (.inr (fnd_mem hy))⟩
 unfold closureFor
 show (forIn scope.names [] (fun (x : Str × NameKind) (r : List (Str × Addr)) => (if (x.2 == NameKind.free) = true then (do let a ← cellOf env x.1; pure (ForInStep.yield ((x.1, a) :: r))) else pure (ForInStep.yield r) : Sem _)) >>= fun s => pure s) = pure cl
 rw [e1]
 rfl
noncomputable def freeOK (sc : zT) (ρ : Loc) (scope : Scope) : Bool := zAz (scope.names.map (·.1)) && scope.names.all fun x => x.2 != .free || ((fnd x.1 ρ).isSome && (fnd x.1 sc == some .cell || fnd x.1 sc == some .free))
noncomputable def freeV (ρ : Loc) (x : Str) (k : NameKind) : Option D := gd (k == .free) ((fnd x ρ).bind (onLV some noV noO3))
theorem freeV_ok {ρ x} {k : NameKind} : Sat (fun d => k = .free ∧ fnd x ρ = some (.val d)) (freeV ρ x k) :=
 .gd fun hk => .bind .is fun lv e => Sat.onLV (P := Is (fnd x ρ)) (fun d e => .some ⟨beq_iff_eq.mp hk, e⟩) (fun _ _ => .none) (fun _ _ _ _ => .none) lv e
noncomputable def zCc (ρ : Loc) : zT -> Loc
 | [] => []
 | (x, k) :: r => (freeV ρ x k).elim (zCc ρ r) fun d => (x, .val d) :: zCc ρ r
theorem freeVals_mem {ρ y} {lv : LV} : ∀ {l}, fnd y (zCc ρ l) = some lv -> (y, NameKind.free) ∈ l ∧ ∃ d, lv = .val d ∧ fnd y ρ = some (.val d)
 | [], h => by cases h
 | (x, k) :: r, h0 => by
  have h : fnd y ((freeV ρ x k).elim (zCc ρ r) fun d => (x, .val d) :: zCc ρ r) = some lv := h0
  clear h0
  cases e : freeV ρ x k with
  | none =>
   rw [e] at h
   exact (freeVals_mem h).imp_left (.tail _)
  | some d =>
   rw [e] at h
   obtain ⟨rfl, hv⟩ := freeV_ok d e
   have h2 : (if eqS y x = true then some (LV.val d) else fnd y (zCc ρ r)) = some lv := h
   by_cases q : eqS y x = true
   ·rw [if_pos q] at h2
    obtain rfl := zW.mp q
    exact ⟨.head _, d, (Option.some.inj h2).symm, hv⟩
   ·rw [if_neg q] at h2
    exact (freeVals_mem h2).imp_left (.tail _)
theorem fnd_distinct {α : Type} {x} {v : α} : ∀ {l : List (Str × α)}, zAz (l.map (·.1)) = true -> (x, v) ∈ l -> fnd x l = some v
 | [], _, h => by cases h
 | (y, u) :: r, hd, h => by
  simp only [List.map_cons, zAz, Bool.and_eq_true, Bool.not_eq_true'] at hd
  unfold fnd
  rcases List.mem_cons.mp h with e | h3
  ·cases e; rw [zI]; rfl
  ·have : eqS x y = false := by
    rw [← Bool.not_eq_true]
    intro q
    obtain rfl := zW.mp q
    have := List.any_eq_false.mp hd.1 x (List.mem_map.mpr ⟨(x, v), h3, rfl⟩)
    rw [zI] at this
    exact absurd rfl this
   rw [this]
   exact fnd_distinct hd.2 h3
theorem freeOK_maps {sc ρ scope} (h : freeOK sc ρ scope = true) : mapsTo sc scope ρ (zCc ρ scope.names) := by
 intro y lv e
 obtain ⟨h1, d, rfl, h2⟩ := freeVals_mem e
 simp only [freeOK, Bool.and_eq_true, List.all_eq_true, Bool.or_eq_true, bne_iff_ne, beq_iff_eq] at h
 refine ⟨d, rfl, h2, fnd_distinct h.1 h1, ?_⟩
 rcases h.2 _ h1 with q | q
 ·exact absurd rfl q
 ·exact q.2
theorem freeOK_cells {sc ρ scope env h₀ L h m ko led news} (hs : env.scope.names = sc) (S : St env h₀ L h m ρ ko led news) (hf : freeOK sc ρ scope = true) : ∃ cl, closureFor scope env = pure cl ∧ ∀ y, fnd y scope.names = some .free -> cl.lookup y = env.cells.lookup y := by
 refine closure_ok fun y hy => ?_
 simp only [freeOK, Bool.and_eq_true, List.all_eq_true, Bool.or_eq_true, bne_iff_ne, beq_iff_eq] at hf
 rcases hf.2 _ hy with q | ⟨q1, q2⟩
 ·exact absurd rfl q
 ·obtain ⟨lv, e⟩ := Option.isSome_iff_exists.mp q1
  obtain ⟨mm, X⟩ := S.loc
  obtain ⟨v, V, _, _⟩ := X.at' y lv e
  cases V with
  | loc a b =>
   rw [kind_of hs] at a
   rcases q2 with q | q <;> rw [a] at q <;> cases q
  | cel c o a b _ _ => exact ⟨c, b⟩
theorem apart_ne {env L m ρ ko led news mm} {a} (hko : Inc ko news) (X : Locs env L m ρ ko led news mm) (hf : ∀ p ∈ news, p.1 ≠ a) : Apart ρ mm a := by
 intro y lv e hv hm
 obtain ⟨v, V, O, k⟩ := X.at' y lv e
 have e1 := V.local (k hv)
 rw [hm] at e1
 cases e1
 cases lv with
 | val d => cases hv
 | own ds =>
  obtain ⟨a', vs, c, e2, hm', _⟩ := O
  cases e2
  exact hf _ hm' rfl
 | obj C ns ds =>
  obtain ⟨a', dx, es, n, vs, e2, hm', _⟩ := O
  cases e2
  exact hf _ (hko _ (zAw hm')) rfl
theorem CEnd.own {env h₀ L m ρ ko led outs D C h led' news' ys m'} (c : CEnd env h₀ L m ρ ko led outs D C h led' news' ys m') {h2 : Heap} {m2 : Str -> Option Value} (hs : Heap.SameBut C h h2) :
  St env h₀ L h2 m ρ ko led' ([(D, LCg.lst ys)] ++ news') ∧ (∃ mm, Locs env L m ρ ko led' ([(D, LCg.lst ys)] ++ news') mm ∧ Apart ρ mm D) ∧ D ∉ keyL led' ∧ D ∉ keyL ko := by
 have F2 : Fr h₀ L h2 m := c.F.change hs c.cL c.c0
 have N2 : News h₀ L h2 news' := fun p hp => ⟨hs.extBut _ _ (c.offC p hp) (c.N p hp).1, (c.N p hp).2⟩
 have S := c.sp.st F2 N2
 have N3 : News h₀ L h2 ([(D, LCg.lst ys)] ++ news') := fun p hp => by
  rcases List.mem_cons.mp hp with rfl | hp
  ·exact ⟨hs.extBut _ _ c.cd.symm c.gD, c.dL, c.d0⟩
  ·exact N2 p hp
 have nd : (keyL ([(D, LCg.lst ys)] ++ news')).Nodup := by
  show (D :: keyL news').Nodup
  refine List.nodup_cons.mpr ⟨fun hm => ?_, S.nd⟩
  obtain ⟨p, hp, e⟩ := List.mem_map.mp hm
  exact c.offD p hp e
 refine ⟨S.apart F2 N3 nd, ?_, S.sp.not_led c.offD, S.sp.not_ko c.offD⟩
 obtain ⟨mm, X⟩ := c.sp.loc
 refine ⟨mm, ⟨X.lc, fun x lv e => ?_, X.inj⟩, apart_ne S.kon X c.offD⟩
 obtain ⟨v, V, O, k⟩ := X.at' x lv e
 exact ⟨v, V, O.mono (fun p hp => hp) (fun a o hm hn _ _ => ⟨List.mem_append_right _ hm, hn⟩), k⟩
noncomputable def notTupT : Expr -> Bool
 | .Name _ _ => true
 | _ => false
noncomputable def EvEq (Pe : World -> Around -> Env -> Heap -> Addr -> Prop) (sc : zT) (ρ : Loc) (n : Nat) (e : Expr) (d : D) : Prop :=
 ∀ (prog : Program) (w : World) (A : Around) (env : Env) (h₀ : Heap) (L : Addr) (s : Shared) (m : Str -> Option Value) (ko led news : Led) (Q E : Value -> Shared -> Prop), Pe w A env h₀ L ->
  env.scope.names = sc -> Sit w A env h₀ L n -> St env h₀ L s.heap m ρ ko led news -> Kept env h₀ L m ρ ko led s (fun l v => R l d v) Q -> wpAny (model prog w) A (eval e env) Q E s
inductive Src (Pe : World -> Around -> Env -> Heap -> Addr -> Prop) (sc : zT) (ρ : Loc) (n : Nat) (t : Expr) : Expr -> List D -> Prop
 | list {it ds} : zBe it = true -> EvE sc ρ n it (.lst ds) -> Src Pe sc ρ n t it ds
 | listq {it ds} : zBe it = true -> EvEq Pe sc ρ n it (.lst ds) -> Src Pe sc ρ n t it ds
 | tuple {it ds} : notTupT t = true -> zBe it = true -> EvE sc ρ n it (.tup ds) -> Src Pe sc ρ n t it ds
 | range {rx rpos e cpos} {k : Nat} : notTupT t = true -> zZ sc rx = true -> zM rx = true -> fnd rx bTab = some (.type "range") -> zP e = true -> EvE sc ρ n e (.int (k : Nat)) -> Nat.ble k 1000 = true -> Src Pe sc ρ n t (.Call (.Name rx rpos) [e] [] cpos) ((List.range k).map fun i => .int (i : Nat))
theorem src_set {Pe sc ρ n t it ds} (h : Src Pe sc ρ n t it ds) {env} (x : Value) : foldedSetIterable it env x = pure x := by
 cases h with
 | list h _ => exact zBm h x
 | listq h _ => exact zBm h x
 | tuple _ h _ => exact zBm h x
 | range _ _ _ _ _ _ => rfl
theorem src_go {prog w A E sc env h₀ L s m ρ ρC ko led news} {n : Nat} {t elt iter ifs scope pos cl ds outs} {RR : Value -> Addr -> Result -> Shared -> Prop}
  (hs : env.scope.names = sc) (Si : Sit w A env h₀ L n) (S : St env h₀ L s.heap m ρ ko led news) (hok : okSc scope = true) (ht : tgtOK t ifs = true) (hC : mapsTo sc scope ρ ρC) (hcl : ∀ y, fnd y scope.names = some .free -> cl.lookup y = env.cells.lookup y)
  {Pe : World -> Around -> Env -> Heap -> Addr -> Prop} (src : Src Pe sc ρ n t iter ds) (hPe : Pe w A env h₀ L) (hsz : Nat.ble ds.length 10000 = true) (cp : Cp (zAg sc scope) n t elt ifs ρC ds outs)
  (K : ∀ D C h tk led' news' ys m', CEnd env h₀ L m ρ ko led outs D C h led' news' ys m' -> RR (.ref D) C (.ok .next) (sw s h tk)) :
  wpAny (model prog w) A (eval iter env) (fun x s₁ => wpAny (model prog w) A (pyIter x) (fun it s₂ => wpAny (model prog w) A (newList []) (fun acc s₃ => wpAny (model prog w) A (newFunctionEnv scope env.globals cl [] env.qual none .none (some env)) (fun cenv s₄ =>
   codeAny (model prog w) A (.compStart (.ListComp elt [⟨t, iter, ifs, 0⟩] scope pos) 0 it acc { cenv with scope := relabel scope env }) (RR acc cenv.locals) s₄) E s₃) E s₂) E s₁) E s := by
 have K2 : ∀ {led'}, Inc led led' -> ∀ D C h tk2 led2 news2 ys m', CEnd env h₀ L m ρ ko led' outs D C h led2 news2 ys m' -> RR (.ref D) C (.ok .next) (sw s h tk2) := fun i D C h tk2 led2 news2 ys m' c =>
  K D C h tk2 led2 news2 ys m' ⟨c.sp, fun p hp => c.inc p (i p hp), c.F, c.N, c.gD, c.r, c.nC, c.c0, c.d0, c.cL, c.dL, c.cd, c.offC, c.offD⟩
 cases src with
 | list hn h =>
  refine h prog w A env h₀ L s m ko led news _ _ hs Si S fun v h' tk led' news' S' i rv => ?_
  obtain ⟨a, vs, c, rfl, hm, hi, rr⟩ := S'.isLst rv
  refine wpAny_pyIter_list hi ?_
  obtain ⟨f1, f2, f3⟩ := S'.fresh
  have hne : a ≠ h'.objs.size := Nat.ne_of_lt (Heap.lt_size (S'.held _ hm))
  have W := Walks.list (prog := prog) (w := w) Si.hd h'.objs.size a hne vs.toArray
  have hlen : vs.toArray.size = ds.length := by rw [List.size_toArray, Rs.length rr]
  rw [hlen] at W
  have S2 := S'.pushed { cls := .type "list_iterator", data := .fields #[.ref a, .int 0 0] }
  refine comp_go hs Si hok ht hC hcl W (fun b hb => ?_) ⟨⟨_, Heap.get?_push_size _ rfl, rfl, rfl⟩, hi.at fun o e => Heap.get?_push_of_some _ e⟩ S2 f1 f2 f3 (fun i h hst => ?_) (fun _ _ _ _ i h hst => ⟨_, _, hst.1⟩) (fun i v hin hP => ?_) hsz cp (K2 i)
  ·rcases List.mem_cons.mp hb with e | hb
   ·exact .inl e
   ·rw [List.mem_singleton.mp hb]; exact .inr ⟨_, hm⟩
  ·obtain ⟨⟨o, ho, hc, hd⟩, _⟩ := hst
   exact ⟨o, ho, (fun C dx e => by rw [e] at hc; cases hc), (fun v e => by rw [hd] at e; cases e)⟩
  ·have hd : ds[i]? = some ds[i] := List.getElem?_eq_getElem hin
   obtain ⟨u, hu, ru⟩ := Rs.get rr hd
   simp only [List.getElem?_toArray] at hP
   rw [hu] at hP
   cases hP
   exact ⟨_, hd, ru⟩
 | listq hn h =>
  refine h prog w A env h₀ L s m ko led news _ _ hPe hs Si S fun v h' tk led' news' S' i rv => ?_
  obtain ⟨a, vs, c, rfl, hm, hi, rr⟩ := S'.isLst rv
  refine wpAny_pyIter_list hi ?_
  obtain ⟨f1, f2, f3⟩ := S'.fresh
  have hne : a ≠ h'.objs.size := Nat.ne_of_lt (Heap.lt_size (S'.held _ hm))
  have W := Walks.list (prog := prog) (w := w) Si.hd h'.objs.size a hne vs.toArray
  have hlen : vs.toArray.size = ds.length := by rw [List.size_toArray, Rs.length rr]
  rw [hlen] at W
  have S2 := S'.pushed { cls := .type "list_iterator", data := .fields #[.ref a, .int 0 0] }
  refine comp_go hs Si hok ht hC hcl W (fun b hb => ?_) ⟨⟨_, Heap.get?_push_size _ rfl, rfl, rfl⟩, hi.at fun o e => Heap.get?_push_of_some _ e⟩ S2 f1 f2 f3 (fun i h hst => ?_) (fun _ _ _ _ i h hst => ⟨_, _, hst.1⟩) (fun i v hin hP => ?_) hsz cp (K2 i)
  ·rcases List.mem_cons.mp hb with e | hb
   ·exact .inl e
   ·rw [List.mem_singleton.mp hb]; exact .inr ⟨_, hm⟩
  ·obtain ⟨⟨o, ho, hc, hd⟩, _⟩ := hst
   exact ⟨o, ho, (fun C dx e => by rw [e] at hc; cases hc), (fun v e => by rw [hd] at e; cases e)⟩
  ·have hd : ds[i]? = some ds[i] := List.getElem?_eq_getElem hin
   obtain ⟨u, hu, ru⟩ := Rs.get rr hd
   simp only [List.getElem?_toArray] at hP
   rw [hu] at hP
   cases hP
   exact ⟨_, hd, ru⟩
 | tuple htu hn h =>
  refine h prog w A env h₀ L s m ko led news _ _ hs Si S fun v h' tk led' news' S' i rv => ?_
  obtain ⟨a, vs, rfl, hm, hi, rr⟩ := S'.isTup rv
  refine wpAny_pyIter_tuple hi ?_
  obtain ⟨f1, f2, f3⟩ := S'.fresh
  have hne : a ≠ h'.objs.size := Nat.ne_of_lt (Heap.lt_size (S'.held _ hm))
  have W := Walks.tuple (prog := prog) (w := w) Si.hd h'.objs.size a hne vs.toArray
  have hlen : vs.toArray.size = ds.length := by rw [List.size_toArray, Rs.length rr]
  rw [hlen] at W
  have S2 := S'.pushed { cls := .type "tuple_iterator", data := .fields #[.ref a, .int 0 0] }
  refine comp_go hs Si hok ht hC hcl W (fun b hb => ?_) ⟨⟨_, Heap.get?_push_size _ rfl, rfl, rfl⟩, hi.at fun o e => Heap.get?_push_of_some _ e⟩ S2 f1 f2 f3 (fun i h hst => ?_) (fun es k tp e => by rw [e] at htu; cases htu) (fun i v hin hP => ?_) hsz cp (K2 i)
  ·rcases List.mem_cons.mp hb with e | hb
   ·exact .inl e
   ·rw [List.mem_singleton.mp hb]; exact .inr ⟨_, hm⟩
  ·obtain ⟨⟨o, ho, hc, hd⟩, _⟩ := hst
   exact ⟨o, ho, (fun C dx e => by rw [e] at hc; cases hc), (fun v e => by rw [hd] at e; cases e)⟩
  ·have hd : ds[i]? = some ds[i] := List.getElem?_eq_getElem hin
   obtain ⟨u, hu, ru⟩ := Rs.get rr hd
   simp only [List.getElem?_toArray] at hP
   rw [hu] at hP
   cases hP
   exact ⟨_, hd, ru⟩
 | @range rx rpos e cpos k htu hk hd er hs1 h hk2 =>
  have hk3 := Nat.le_of_ble_eq_true hk2
  refine Rows.Call_ (zAl hs Si S hk hd er ?_)
  refine Rows.callWith_type1 (zH hs1 h zO prog w A env h₀ L s m ko led news _ _ cpos hs Si S fun vs h' tk led' news' S' i r => ?_) (zB hs1) rfl
  obtain ⟨v, rfl, rv⟩ := Rs.inv1 r
  obtain ⟨t', rfl⟩ := zS rv
  refine call_range_1 ?_
  have S1 := S'.pushed { cls := .type "range", data := .fields #[.int 0 tk, .int (k : Int) t', .int 1 (tk + 1)] }
  have hsmall : Builtin.Range.small 0 (k : Int) 1 = true := small_range hk3
  have hsize : Builtin.Range.rangeSize 0 (k : Int) 1 = (k : Int) := by rw [rangeSize_nat]; simp
  refine wpAny_pyIter_range (s := ⟨h'.push _, s.gens, s.drawn, _, s.os⟩) (Heap.get?_push_size _ rfl) hsmall ?_
  rw [hsize]
  obtain ⟨f1, f2, f3⟩ := S1.fresh
  have S2 := S1.pushed { cls := .type "range_iterator", data := .fields #[rawInt 0, rawInt (k : Int), rawInt 1] }
  have W := Walks.range (prog := prog) (w := w) Si.hd (h'.push { cls := .type "range", data := .fields #[.int 0 tk, .int (k : Int) t', .int 1 (tk + 1)] }).objs.size 0 1 ((List.range k).map fun i => D.int (i : Nat)).length
  have hlen : k = ((List.range k).map fun i => D.int (i : Nat)).length := by simp
  refine comp_go hs Si hok ht hC hcl W (fun b hb => .inl (List.mem_singleton.mp hb)) ?_ S2 f1 f2 f3 (fun i h hst => ?_) (fun es k tp e => by rw [e] at htu; cases htu) (fun i v hin hP => ?_) hsz cp (K2 i)
  ·rw [← hlen]
   have e1 : ((0 : Int) + ((0 : Nat) : Int) * 1) = 0 := by simp
   have e2 : ((k : Int) - ((0 : Nat) : Int)) = k := by simp
   rw [e1, e2]
   exact Heap.get?_push_size _ rfl
  ·exact ⟨_, hst, (fun C dx e => by cases e), (fun v e => by cases e)⟩
  ·obtain ⟨u, rfl⟩ := hP
   have hik : i < k := by simpa using hin
   refine ⟨.int (i : Nat), by simp [hik], ?_⟩
   exact show ∃ t, _ = Value.int _ t from ⟨u, by simp⟩
theorem evo_comp {sc ρ n t elt iter ifs scope pos ds outs} (hok : okSc scope = true) (ht : tgtOK t ifs = true) (hf : freeOK sc ρ scope = true) (src : Src (fun _ _ _ _ _ => True) sc ρ n t iter ds) (hsz : Nat.ble ds.length 10000 = true)
  (cp : Cp (zAg sc scope) n t elt ifs (zCc ρ scope.names) ds outs) : EvO sc ρ n (.ListComp elt [⟨t, iter, ifs, 0⟩] scope pos) outs := by
 intro prog w A env h₀ L s m ko led news Q E hs Si S K
 obtain ⟨hkind, hcell, hnames⟩ := okSc_of hok
 obtain ⟨cl, hclos, hcl⟩ := freeOK_cells hs S hf
 rw [eval_ListComp]
 refine wpAny_comprehension_free (use := none) rfl (fun x => src_set src x) hclos hkind hnames ?_
 refine src_go (RR := fun acc C => compPost _ A E none Q acc C) hs Si S hok ht (freeOK_maps hf) hcl src trivial hsz cp fun D C h tk led' news' ys m' c => ?_
 refine ⟨m', c.nC, fun h'' hs'' => ?_⟩
 obtain ⟨S2, ap, n1, n2⟩ := c.own (m2 := m) hs''
 exact K D ys _ h'' tk led' _ S2 c.inc (.head _) c.r n1 n2 ap
theorem evq_comp {Pe sc ρ n t elt iter ifs scope pos ds outs} (hok : okSc scope = true) (ht : tgtOK t ifs = true) (hf : freeOK sc ρ scope = true) (src : Src Pe sc ρ n t iter ds) (hsz : Nat.ble ds.length 10000 = true)
  (cp : Cp (zAg sc scope) n t elt ifs (zCc ρ scope.names) ds outs) : EvEq Pe sc ρ n (.ListComp elt [⟨t, iter, ifs, 0⟩] scope pos) (.lst outs) := by
 intro prog w A env h₀ L s m ko led news Q E hPe hs Si S K
 obtain ⟨hkind, hcell, hnames⟩ := okSc_of hok
 obtain ⟨cl, hclos, hcl⟩ := freeOK_cells hs S hf
 rw [eval_ListComp]
 refine wpAny_comprehension_free (use := none) rfl (fun x => src_set src x) hclos hkind hnames ?_
 refine src_go (RR := fun acc C => compPost _ A E none Q acc C) hs Si S hok ht (freeOK_maps hf) hcl src hPe hsz cp fun D C h tk led' news' ys m' c => ?_
 refine ⟨m', c.nC, fun h'' hs'' => ?_⟩
 obtain ⟨S2, ap, n1, n2⟩ := c.own (m2 := m) hs''
 obtain ⟨mm, X, ap⟩ := ap
 have S3 := S2.shareList X (.head _) n2 ap
 refine K _ h'' tk _ _ S3 (fun p hp => .tail _ (c.inc p hp)) ?_
 show R _ _ _
 exact R_lst (.head _) (Rs.mono (fun p hp => .tail _ hp) c.r)
theorem ex1_assign_comp {sc ρ n x px t elt iter ifs scope cpos pos ds outs} (hx : zAu sc x = true) (hok : okSc scope = true) (ht : tgtOK t ifs = true) (hf : freeOK sc ρ scope = true) (src : Src (fun _ _ _ _ _ => True) sc ρ n t iter ds) (hsz : Nat.ble ds.length 10000 = true)
  (hsw : ∀ env : Env, env.scope.names = sc -> env.scope.kind = .function -> swapsWith (.ListComp elt [⟨t, iter, ifs, 0⟩] scope cpos) (some (.Name x px)) pos.line env = pure true)
  (cp : Cp (zAg sc scope) n t elt ifs (zCc ρ scope.names) ds outs) : Ex1 sc ρ n (.Assign [.Name x px] (.ListComp elt [⟨t, iter, ifs, 0⟩] scope cpos) pos) .next (put x (.own outs) ρ) := by
 intro prog w A env h₀ L s m ko led news Q hs hl Si S K
 obtain ⟨hkind, hcell, hnames⟩ := okSc_of hok
 obtain ⟨cl, hclos, hcl⟩ := freeOK_cells hs S hf
 rw [exec_Assign_Name_used _ _ _ _ (hsw env hs Si.kd)]
 refine wpAny_bind (wpAny_standAt (wpAny_bind ?_))
 show wpAny _ A (do let _ ← comprehension (.ListComp elt [⟨t, iter, ifs, 0⟩] scope cpos) scope env _ (newList []) false (eval iter env) (some (assign (.Name x px) env))) _ _ s
 refine wpAny_bind (wpAny_mono (wpAny_comprehension_free (use := some (assign (.Name x px) env)) (Q := fun _ s' => Q .next s') rfl (fun x => src_set src x) hclos hkind hnames ?_) (fun _ s' hq => wpAny_pure (wpAny_pure hq)) fun _ _ e => e)
 refine src_go (RR := fun acc C => compPost _ A _ (some (assign (.Name x px) env)) _ acc C) hs Si S hok ht (freeOK_maps hf) hcl src trivial hsz cp fun D C h tk led' news' ys m' c => ?_
 show wpAny _ A (assign (.Name x px) env (.ref D)) _ _ _
 have hkl := zL hs hx
 subst hl
 refine wpAny_assign_Name (wpAny_storeName_local hkl c.F.ns (fun h2 hn2 hs2 => ?_) (by rw [Si.kd]; rfl))
 obtain ⟨S2, ⟨mm, X, ap⟩, n1, n2⟩ := c.own (m2 := m) (Heap.SameBut.refl C h)
 obtain rfl := S2.fn rfl X
 have F2 : Fr h₀ env.locals h2 (upd mm x (.ref D)) := c.F.set hn2 hs2
 have N2 : News h₀ env.locals h2 ([(D, LCg.lst ys)] ++ news') := fun p hp => ⟨hs2.extBut _ _ (S2.N p hp).2.1 (S2.N p hp).1, (S2.N p hp).2⟩
 have S3 := S2.putOwn rfl hkl F2 N2 (.head _) c.r n1 n2 ap
 refine ⟨m', c.nC.sameBut hs2 c.cL, fun h'' hs'' => ?_⟩
 have S4 := S3.re (S3.F.change hs'' c.cL c.c0) fun p hp => ⟨hs''.extBut _ _ (by
  rcases List.mem_cons.mp hp with rfl | hp
  ·exact c.cd.symm
  ·exact c.offC p hp) (S3.N p hp).1, (S3.N p hp).2⟩
 exact K .next h'' _ _ led' _ S4 c.inc rfl
open PySem.AutoSeq1 (wpAny_loadPart')
section
variable {prog : Program} {w : World} {A : Around} {E : Value -> Shared -> Prop} {s : Shared}
theorem nextOf_tup {it t} {i : Nat} {items : Array Value} {Q} (hh : A.handled = none) (hit : s.heap.IsTupleIter it t i) (ht : s.heap.IsTuple t items)
  (hQ : ∀ x h', items[i]? = some x -> h'.IsTupleIter it t (i + 1) -> Heap.SameBut it s.heap h' -> Q x { s with heap := h' })
  (hE : ∀ h' e, items[i]? = none -> Heap.ExtBut it s.heap h' -> (∃ o, h'.get? e = some o ∧ o.cls = .type "StopIteration") -> E (.ref e) { s with heap := h' }) :
  wpAny (model prog w) A (Builtin.SmallTypes.nextOf (.ref it)) Q E s := by
 obtain ⟨o, ho, hc, hd⟩ := id hit
 obtain ⟨ol, hol, _, nl, hdl⟩ := ht
 unfold Builtin.SmallTypes.nextOf
 refine wpAny_bind (wpAny_callSpecial?_slot (name := Str.ofString "__next__") hit.typeIs F.slot_tuple_iterator_next (wpAny_call_entry F.slot_tuple_iterator_next hit.typeIs F.entry_tuple_iterator_next ?_ (F.args_tuple_iterator_next_1 _)))
 show wpAny _ _ (field (.ref it) 0 >>= _) _ _ s
 refine wpAny_bind (wpAny_field ho hd (x := .ref t) rfl ?_)
 show wpAny _ _ (if (Value.ref t == Value.none) = true then _ else _) _ _ s
 rw [if_neg (show ¬ ((Value.ref t == Value.none) = true) from Bool.false_ne_true)]
 show wpAny _ _ (field (.ref it) 1 >>= _) _ _ s
 refine wpAny_bind (wpAny_field ho hd (x := .int i 0) rfl ?_)
 show wpAny _ _ (seqItems? (.ref t) >>= _) _ _ s
 refine wpAny_bind (wpAny_seqItems hol hdl ?_)
 cases hx : items[i]? with
 | some x =>
  simp only [Int.toNat_natCast, hx]
  refine wpAny_bind (wpAny_setField ho hd (by simp) (wpAny_pure ⟨x, rfl, wpAny_pure (hQ x _ hx ?_ (Heap.SameBut.update ..))⟩))
  exact ⟨_, Heap.get?_update_self _ ho (Obj.isFreed_of_fields (Obj.data_mapFields hd _)), (Obj.cls_mapFields ..).trans hc, by rw [Obj.data_mapFields hd]; simp [rawInt]⟩
 | none =>
  simp only [Int.toNat_natCast, hx]
  refine wpAny_bind (wpAny_rule (wpAny_bind (wpAny_setField ho hd (by simp) ?_)))
  show wpAny _ _ (newExc (.type "StopIteration") [] >>= _) _ _ _
  refine wpAny_bind ?_
  simp only [newExc, newTuple]
  refine wpAny_bind (wpAny_newObj_type ?_ (by size_fits))
  refine wpAny_bind (m := firstArgMember _ _) (wpAny_of_eq (a := Value.none) (by first | rfl | (simp only [firstArgMember]; rfl)) ?_)
  refine wpAny_newObj_type ?_ (by size_fits)
  simp only [raiseNew]
  refine wpAny_bind (wpAny_handled ?_)
  first | rw [show A.in1.handled = none from hh] | rw [hh]
  exact wpAny_bind (wpAny_pure (wpAny_throw (hE _ _ hx (((Heap.SameBut.update ..).extBut.push _).push _) ⟨_, Heap.get?_push_size _ rfl, rfl⟩)))
end
theorem drawsTup {prog w A} (hh : A.handled = none) (it t : Addr) (hne : t ≠ it) (items : Array Value) :
  Draws prog w A it [it, t] items.size (fun i v => items[i]? = some v) (fun i h => h.IsTupleIter it t i ∧ h.IsTuple t items) where
 live := fun _ _ st => let ⟨o, ho, _⟩ := st.1; ⟨o, ho⟩
 frame := fun _ _ _ st hk => ⟨by obtain ⟨o, ho, r⟩ := st.1; exact ⟨o, hk it (by simp) o ho, r⟩, st.2.at fun o e => hk t (by simp) o e⟩
 item := fun i s Q E hi st hQ => nextOf_tup hh st.1 st.2 (fun x h' hx hit' hs' => hQ _ h' s.toks hx ⟨hit', st.2.extBut hs'.extBut hne⟩ hs') fun h' e hx => by
  rw [Array.getElem?_eq_getElem hi] at hx; cases hx
 done := fun s Q E st hE => nextOf_tup hh st.1 st.2 (fun x h' hx => by rw [Array.getElem?_eq_none (Nat.le_refl _)] at hx; cases hx) fun h' e _ h1 h2 => hE h' e h1 h2
theorem meets_enum_tup (t : Addr) (items : Array Value) (n : Nat) (dct : Option Addr) (sl : Array (Option Value)) :
  Meets (Builtin.«enumerate.__new__» ⟨[.type "enumerate", .ref t], []⟩) (fun _ R s => s.heap.get? t = some { cls := .type "tuple", dict := dct, data := .seq items n, slots := sl } ∧
   R (.ok (.ret (.ref (s.heap.push { cls := .type "tuple_iterator", data := .fields #[.ref t, .int 0 0] }).objs.size)))
    { s with heap := (s.heap.push { cls := .type "tuple_iterator", data := .fields #[.ref t, .int 0 0] }).push { cls := .type "enumerate", data := .fields #[.none, .bool false, .ref s.heap.objs.size, rawInt 0, .none, .none] } }) :=
 .of_wp fun prog w A R s h => by
  obtain ⟨hp, g, d, tk, os⟩ := s; obtain ⟨hl, h⟩ := h
  have hsub := sub_enumerate
  have hT : Heap.IsTuple (Shared.heap ⟨hp, g, d, tk, os⟩) t items := ⟨_, hl, rfl, n, rfl⟩
  wp_walk using wpAny_loadPart' hl
  refine wpAny_stack_any fun st => wpAny_pure ?_
  split
  ·rename_i c _ _ _ _ _
   cases (c == Value.type "enumerate")
   ·wp_walk using wpAny_loadPart' hl, wpAny_pyIter_tuple hT
    exact ⟨_, rfl, h⟩
   ·wp_walk using wpAny_loadPart' hl, wpAny_pyIter_tuple hT
    exact ⟨_, rfl, h⟩
  ·wp_walk using wpAny_loadPart' hl, wpAny_pyIter_tuple hT
   exact ⟨_, rfl, h⟩
theorem call_enum_tup {prog w A E s t} {items : Array Value} {Q} (hL : s.heap.IsTuple t items)
  (h : ∀ h', IsEnum h' (s.heap.objs.size + 1) s.heap.objs.size 0 .none -> h'.IsTupleIter s.heap.objs.size t 0 -> h'.objs.size = s.heap.objs.size + 2 ->
   (∀ b o, s.heap.get? b = some o -> h'.get? b = some o) -> Q (.ref (s.heap.objs.size + 1)) { s with heap := h' }) :
  wpAny (model prog w) A (call (.type "enumerate") [.ref t]) Q E s := by
 obtain ⟨⟨c, dct, dt, sl⟩, hl, hc, n, hd⟩ := hL
 replace hc : c = .type "tuple" := hc
 replace hd : dt = .seq items n := hd
 subst hc hd
 refine callType_new F.called_enumerate (by decide) (F.typeCall_enumerate_1 _) (F.newCall_enumerate_1 _) (fun obj => F.args_object_init_2 obj _) F.entry_enumerate_new (meets_enum_tup t items n dct sl) ⟨hl, ?_⟩
 have hz : (s.heap.push { cls := .type "tuple_iterator", data := .fields #[.ref t, .int 0 0] }).objs.size = s.heap.objs.size + 1 := Heap.size_push ..
 have he := Heap.get?_push_size (s.heap.push { cls := .type "tuple_iterator", data := .fields #[.ref t, .int 0 0] })
   (o := { cls := .type "enumerate", data := .fields #[.none, .bool false, .ref s.heap.objs.size, rawInt 0, .none, .none] }) rfl
 show _ ∧ _
 rw [hz] at he ⊢
 exact ⟨⟨_, he, rfl⟩, h _ he ⟨_, Heap.get?_push_of_some _ (Heap.get?_push_size _ rfl), rfl, rfl⟩ (by rw [Heap.size_push, hz]) fun b o x => Heap.get?_push_of_some _ (Heap.get?_push_of_some _ x)⟩
open PySem.AutoSeq1 (wpAny_loadPart')
structure ZA (z TI TO i1 i2 : Addr) (f1 f2 : List Addr) : Prop where
 z1 : z ∉ f1
 z2 : z ∉ f2
 o1 : TO ∉ f1
 o2 : TO ∉ f2
 m1 : i1 ∈ f1
 m2 : i2 ∈ f2
 a12 : i1 ∉ f2
 a21 : i2 ∉ f1
 tz : TI ≠ z
 toz : TO ≠ z
 tt : TI ≠ TO
 t1 : TI ≠ i1
 t2 : TI ≠ i2
section
variable {prog : Program} {w : World} {A : Around} {E : Value -> Shared -> Prop} {s : Shared} {z TI TO i1 i2 : Addr} {f1 f2 : List Addr} {n : Nat} {P1 P2 : Nat -> Value -> Prop} {S1 S2 : Nat -> Heap -> Prop}
theorem ZA.z_i1 (D : ZA z TI TO i1 i2 f1 f2) : z ≠ i1 := fun e => D.z1 (e ▸ D.m1)
theorem ZA.z_i2 (D : ZA z TI TO i1 i2 f1 f2) : z ≠ i2 := fun e => D.z2 (e ▸ D.m2)
theorem ZA.o_i1 (D : ZA z TI TO i1 i2 f1 f2) : TO ≠ i1 := fun e => D.o1 (e ▸ D.m1)
theorem ZA.o_i2 (D : ZA z TI TO i1 i2 f1 f2) : TO ≠ i2 := fun e => D.o2 (e ▸ D.m2)
theorem zip_item {i : Nat} {a b : Value} {Q : Value -> Shared -> Prop} (D1 : Draws prog w A i1 f1 n P1 S1) (D2 : Draws prog w A i2 f2 n P2 S2) (D : ZA z TI TO i1 i2 f1 f2)
  (hz : IsZip s.heap z TI TO .none) (hTI : IsPair s.heap TI (.ref i1) (.ref i2)) (hTO : IsPair s.heap TO a b) (h1 : S1 i s.heap) (h2 : S2 i s.heap) (hi : i < n)
  (hQ : ∀ x y h' tk, P1 i x -> P2 i y -> IsZip h' z TI TO (rawInt s.heap.objs.size) -> IsPair h' TO x y -> S1 (i + 1) h' -> S2 (i + 1) h' -> IsPair h' s.heap.objs.size x y ->
   (∀ c o, c ≠ z -> c ≠ TO -> c ≠ i1 -> c ≠ i2 -> s.heap.get? c = some o -> h'.get? c = some o) -> Q (.ref s.heap.objs.size) (sw s h' tk)) :
  wpAny (model prog w) A (Builtin.«zip.__next__» ⟨[.ref z], []⟩) (fun fin s' => ∃ v, fin = .done (.ret v) ∧ Q v s') E s := by
 show wpAny _ _ (field (.ref z) 2 >>= _) _ _ _
 refine wpAny_bind (wpAny_field hz rfl (x := .bool false) rfl ?_)
 show wpAny _ _ (field (.ref z) 3 >>= _) _ _ _
 refine wpAny_bind (wpAny_field hz rfl (x := .ref TI) rfl ?_)
 refine wpAny_bind (wpAny_seqItems hTI rfl ?_)
 show wpAny _ _ (Builtin.SmallTypes.ownedTupleIsFree (.ref z) >>= _) _ _ _
 refine wpAny_bind ?_
 unfold Builtin.SmallTypes.ownedTupleIsFree
 refine wpAny_bind (wpAny_field hz rfl (x := .none) rfl (wpAny_pure ?_))
 simp only [if_true]
 refine wpAny_bind (wpAny_rule ?_)
 refine wpAny_bind (wpAny_field hz rfl (x := .ref TO) rfl ?_)
 refine wpAny_bind (wpAny_setField_rec hz (by simp) fun g1 hz1 k1 => ?_)
 replace hz1 : IsZip g1 z TI TO .ellipsis := hz1
 replace k1 : Heap.SameBut z s.heap g1 := k1
 refine wpAny_bind ?_
 simp only [List.zipIdx_cons, List.zipIdx_nil, List.forIn_cons, List.forIn_nil]
 refine wpAny_bind (wpAny_bind (wpAny_onRaise ?_))
 show wpAny _ _ (Builtin.SmallTypes.nextOf (.ref i1) >>= _) _ _ _
 refine wpAny_bind (D1.item i _ _ _ hi (D1.frame _ _ _ h1 fun b hb o e => k1.extBut b o (fun q => D.z1 (q ▸ hb)) e) fun x g2 tk2 px s1 k2 => wpAny_pure ?_)
 replace k2 : Heap.SameBut i1 g1 g2 := k2
 have o2 : IsPair g2 TO a b := k2.extBut _ _ D.o_i1 (k1.extBut _ _ D.toz hTO)
 refine wpAny_bind (wpAny_seqItems o2 rfl ?_)
 refine wpAny_bind (wpAny_updateSeq_pair o2 fun g3 o3 k3 => ?_)
 replace o3 : IsPair g3 TO x b := o3
 replace k3 : Heap.SameBut TO g2 g3 := k3
 refine wpAny_bind (wpAny_letGo (wpAny_pure ?_))
 refine wpAny_bind (wpAny_bind (wpAny_onRaise ?_))
 show wpAny _ _ (Builtin.SmallTypes.nextOf (.ref i2) >>= _) _ _ _
 have c2 : ∀ b ∈ f2, ∀ o, s.heap.get? b = some o -> g3.get? b = some o := fun b hb o e =>
  k3.extBut b o (fun q => D.o2 (q ▸ hb)) (k2.extBut b o (fun q => D.a12 (q ▸ hb)) (k1.extBut b o (fun q => D.z2 (q ▸ hb)) e))
 refine wpAny_bind (D2.item i _ _ _ hi (D2.frame _ _ _ h2 c2) fun y g4 tk4 py s2 k4 => wpAny_pure ?_)
 replace k4 : Heap.SameBut i2 g3 g4 := k4
 have o4 : IsPair g4 TO x b := k4.extBut _ _ D.o_i2 o3
 refine wpAny_bind (wpAny_seqItems o4 rfl ?_)
 refine wpAny_bind (wpAny_updateSeq_pair o4 fun g5 o5 k5 => ?_)
 replace o5 : IsPair g5 TO x y := o5
 replace k5 : Heap.SameBut TO g4 g5 := k5
 refine wpAny_bind (wpAny_letGo (wpAny_pure (wpAny_pure ?_)))
 refine wpAny_bind (wpAny_seqItems o5 rfl ?_)
 refine wpAny_bind (wpAny_newTuple ?_)
 have hsz : g5.objs.size = s.heap.objs.size := by rw [k5.1, k4.1, k3.1, k2.1, k1.1]
 have z5 : IsZip g5 z TI TO .ellipsis := k5.extBut _ _ D.toz.symm (k4.extBut _ _ D.z_i2 (k3.extBut _ _ D.toz.symm (k2.extBut _ _ D.z_i1 hz1)))
 have zlt : z < g5.objs.size := Heap.lt_size z5
 show wpAny _ _ (Builtin.SmallTypes.ownedTupleHandOut (.ref z) (.ref g5.objs.size) >>= _) _ _ _
 refine wpAny_bind ?_
 unfold Builtin.SmallTypes.ownedTupleHandOut
 have z6 : IsZip (g5.push { cls := .type "tuple", data := .seq #[x, y] }) z TI TO .ellipsis := Heap.get?_push_of_some _ z5
 refine wpAny_bind (wpAny_setField_rec z6 (by simp) fun g7 z7 k7 => ?_)
 replace z7 : IsZip g7 z TI TO (rawInt g5.objs.size) := z7
 refine wpAny_setField_rec z7 (by simp) fun g8 z8 k8 => ?_
 replace z8 : IsZip g8 z TI TO (rawInt g5.objs.size) := z8
 have up : ∀ c o, c ≠ z -> g5.get? c = some o -> g8.get? c = some o := fun c o hc e => k8.extBut _ _ hc (k7.extBut _ _ hc (Heap.get?_push_of_some _ e))
 have p8 : IsPair g8 g5.objs.size x y := k8.extBut _ _ (Nat.ne_of_gt zlt) (k7.extBut _ _ (Nat.ne_of_gt zlt) (Heap.get?_push_size _ rfl))
 refine wpAny_pure ⟨_, rfl, ?_⟩
 show Q (.ref g5.objs.size) _
 rw [hsz] at z8 p8 ⊢
 refine hQ x y g8 tk4 px py z8 (up _ _ D.toz o5) ?_ ?_ p8 fun c o c1 c2 c3 c4 e => up c o c1 (k5.extBut _ _ c2 (k4.extBut _ _ c4 (k3.extBut _ _ c2 (k2.extBut _ _ c3 (k1.extBut _ _ c1 e)))))
 ·exact D1.frame _ _ _ s1 fun b hb o e => up b o (fun q => D.z1 (q ▸ hb)) (k5.extBut b o (fun q => D.o1 (q ▸ hb)) (k4.extBut b o (fun q => D.a21 (q ▸ hb)) (k3.extBut b o (fun q => D.o1 (q ▸ hb)) e)))
 ·exact D2.frame _ _ _ s2 fun b hb o e => up b o (fun q => D.z2 (q ▸ hb)) (k5.extBut b o (fun q => D.o2 (q ▸ hb)) e)
theorem zip_end {a b} {Q : Fin -> Shared -> Prop} (D1 : Draws prog w A i1 f1 n P1 S1) (D : ZA z TI TO i1 i2 f1 f2)
  (hz : IsZip s.heap z TI TO .none) (hTI : IsPair s.heap TI (.ref i1) (.ref i2)) (hTO : IsPair s.heap TO a b) (h1 : S1 n s.heap)
  (hE : ∀ h' e, (∀ c o, c ≠ z -> c ≠ i1 -> s.heap.get? c = some o -> h'.get? c = some o) -> (∃ o, h'.get? e = some o ∧ o.cls = .type "StopIteration") -> E (.ref e) { s with heap := h' }) :
  wpAny (model prog w) A (Builtin.«zip.__next__» ⟨[.ref z], []⟩) Q E s := by
 show wpAny _ _ (field (.ref z) 2 >>= _) _ _ _
 refine wpAny_bind (wpAny_field hz rfl (x := .bool false) rfl ?_)
 show wpAny _ _ (field (.ref z) 3 >>= _) _ _ _
 refine wpAny_bind (wpAny_field hz rfl (x := .ref TI) rfl ?_)
 refine wpAny_bind (wpAny_seqItems hTI rfl ?_)
 show wpAny _ _ (Builtin.SmallTypes.ownedTupleIsFree (.ref z) >>= _) _ _ _
 refine wpAny_bind ?_
 unfold Builtin.SmallTypes.ownedTupleIsFree
 refine wpAny_bind (wpAny_field hz rfl (x := .none) rfl (wpAny_pure ?_))
 simp only [if_true]
 refine wpAny_bind (wpAny_rule ?_)
 refine wpAny_bind (wpAny_field hz rfl (x := .ref TO) rfl ?_)
 refine wpAny_bind (wpAny_setField_rec hz (by simp) fun g1 hz1 k1 => ?_)
 replace hz1 : IsZip g1 z TI TO .ellipsis := hz1
 replace k1 : Heap.SameBut z s.heap g1 := k1
 refine wpAny_bind ?_
 simp only [List.zipIdx_cons, List.zipIdx_nil, List.forIn_cons, List.forIn_nil]
 refine wpAny_bind (wpAny_bind (wpAny_onRaise ?_))
 show wpAny _ _ (Builtin.SmallTypes.nextOf (.ref i1) >>= _) _ _ _
 refine wpAny_bind (D1.done _ _ _ (D1.frame _ _ _ h1 fun b hb o e => k1.extBut b o (fun q => D.z1 (q ▸ hb)) e) fun g2 e k2 he => ?_)
 replace k2 : Heap.ExtBut i1 g1 g2 := k2
 obtain ⟨oe, hoe, hce⟩ := he
 have hz2 : IsZip g2 z TI TO .ellipsis := k2 _ _ D.z_i1 hz1
 have hez : e ≠ z := fun x => by subst x; rw [hz2] at hoe; cases hoe; simp at hce
 refine wpAny_setField_rec hz2 (by simp) fun g3 _ k3 => hE g3 e (fun c o c1 c3 x => k3.extBut _ _ c1 (k2 _ _ c3 (k1.extBut _ _ c1 x))) ⟨oe, k3.extBut _ _ hez hoe, hce⟩
theorem zipWalks (D1 : Draws prog w A.in1 i1 f1 n P1 S1) (D2 : Draws prog w A.in1 i2 f2 n P2 S2) (D : ZA z TI TO i1 i2 f1 f2) :
  WalksU prog w A z ([z, TI, TO] ++ f1 ++ f2) [z, TO, i1, i2] n (fun i vals => ∃ x y, P1 i x ∧ P2 i y ∧ vals = #[x, y])
   (fun i h => IsZip h z TI TO .none ∧ IsPair h TI (.ref i1) (.ref i2) ∧ (∃ a b, IsPair h TO a b) ∧ S1 i h ∧ S2 i h)
   (fun i T h => IsZip h z TI TO (rawInt T) ∧ IsPair h TI (.ref i1) (.ref i2) ∧ (∃ a b, IsPair h TO a b) ∧ S1 (i + 1) h ∧ S2 (i + 1) h ∧ T ≠ z ∧ T ≠ TO ∧ T ≠ i1 ∧ T ≠ i2) where
 sub := fun c hc => by
  have m1 := D.m1
  have m2 := D.m2
  simp at hc ⊢
  rcases hc with rfl | rfl | rfl | rfl <;> simp_all
 frame := fun i h h' hst hk => by
  obtain ⟨hz, hTI, ⟨a, b, hTO⟩, h1, h2⟩ := hst
  exact ⟨hk z (by simp) _ hz, hk TI (by simp) _ hTI, ⟨a, b, hk TO (by simp) _ hTO⟩, D1.frame _ _ _ h1 fun b hb o e => hk b (by simp [hb]) o e, D2.frame _ _ _ h2 fun b hb o e => hk b (by simp [hb]) o e⟩
 item := fun i s Q E hi hst hQ => by
  obtain ⟨hz, hTI, ⟨a, b, hTO⟩, h1, h2⟩ := hst
  have hT : s.TypeIs (.ref z) "zip" := ⟨_, hz, rfl⟩
  have lt : ∀ {c o}, s.heap.get? c = some o -> s.heap.objs.size ≠ c := fun e => Nat.ne_of_gt (Heap.lt_size e)
  unfold pyNext
  refine wpAny_bind (wpAny_attempt (wpAny_callSpecial?_slot (name := Str.ofString "__next__") hT F.slot_zip_next (wpAny_call_entry F.slot_zip_next hT F.entry_zip_next
   (zip_item D1 D2 D hz hTI hTO h1 h2 hi fun x y h' tk px py a1 a2 a3 a4 a5 a6 => wpAny_pure ?_) (F.args_zip_next_1 _))))
  exact hQ s.heap.objs.size #[x, y] h' tk ⟨x, y, px, py, rfl⟩ ⟨_, a5, rfl, _, rfl⟩ ⟨a1, a6 _ _ D.tz D.tt D.t1 D.t2 hTI, ⟨_, _, a2⟩, a3, a4, lt hz, lt hTO, (by obtain ⟨_, e⟩ := D1.live _ _ h1; exact lt e), (by obtain ⟨_, e⟩ := D2.live _ _ h2; exact lt e)⟩
   fun c o hc e => a6 c o (fun x => hc (by simp [x])) (fun x => hc (by simp [x])) (fun x => hc (by simp [x])) (fun x => hc (by simp [x])) e
 go := fun elts k pos i T s Q E hm hQ => by
  obtain ⟨hz, hTI, ⟨a, b, hTO⟩, h1, h2, _⟩ := hm
  refine wpAny_letOwnedTupleGo_zip hz fun h' hz' hs' => hQ h' ⟨hz', hs'.extBut _ _ D.tz hTI, ⟨a, b, hs'.extBut _ _ D.toz hTO⟩, D1.frame _ _ _ h1 fun b hb o e => hs'.extBut b o (fun q => D.z1 (q ▸ hb)) e, D2.frame _ _ _ h2 fun b hb o e => hs'.extBut b o (fun q => D.z2 (q ▸ hb)) e⟩ fun c o hc e => hs'.extBut _ _ (fun x => hc (by simp [x])) e
 apart := fun i T h hm hT => by
  obtain ⟨_, _, _, _, _, t1, t2, t3, t4⟩ := hm
  simp at hT
  rcases hT with rfl | rfl | rfl | rfl
  ·exact t1 rfl
  ·exact t2 rfl
  ·exact t3 rfl
  ·exact t4 rfl
 done := fun s Q E hst hQ => by
  obtain ⟨hz, hTI, ⟨a, b, hTO⟩, h1, h2⟩ := hst
  have hT : s.TypeIs (.ref z) "zip" := ⟨_, hz, rfl⟩
  unfold pyNext
  refine wpAny_bind (wpAny_attempt (wpAny_callSpecial?_slot (name := Str.ofString "__next__") hT F.slot_zip_next (wpAny_call_entry F.slot_zip_next hT F.entry_zip_next (zip_end D1 D hz hTI hTO h1 fun h' e hk he => ?_) (F.args_zip_next_1 _))))
  obtain ⟨o, ho, hc⟩ := he
  refine wpAny_bind (wpAny_isInstance (T := "StopIteration") (b := true) ⟨o, ho, hc⟩ isSubtype_stop ?_)
  exact wpAny_pure (hQ _ _ fun c o hc e => hk c o (fun x => hc (by simp [x])) (fun x => hc (by simp [x])) e)
 self := fun i s Q E hst hQ => wpAny_pyIter_zip hst.1 hQ
end
noncomputable abbrev zg1 (h : Heap) (l1 : Addr) : Heap := h.push { cls := .type "tuple_iterator", data := .fields #[.ref l1, .int 0 0] }
noncomputable abbrev zg2 (h : Heap) (l1 l2 : Addr) : Heap := (zg1 h l1).push { cls := .type "tuple_iterator", data := .fields #[.ref l2, .int 0 0] }
noncomputable abbrev zg3 (h : Heap) (l1 l2 : Addr) : Heap := (zg2 h l1 l2).push { cls := .type "tuple", data := .seq #[.ref h.objs.size, .ref (zg1 h l1).objs.size] }
noncomputable abbrev zg4 (h : Heap) (l1 l2 : Addr) : Heap := (zg3 h l1 l2).push { cls := .type "tuple", data := .seq #[.none, .none] }
noncomputable abbrev zg5 (h : Heap) (l1 l2 : Addr) : Heap := (zg4 h l1 l2).push { cls := .type "zip", data := .fields #[.none, .bool false, .bool false, .ref (zg2 h l1 l2).objs.size, .ref (zg3 h l1 l2).objs.size] }
theorem meets_zip_tup (l1 l2 : Addr) (xs ys : Array Value) :
  Meets (Builtin.«zip.__new__» ⟨[.type "zip", .ref l1, .ref l2], []⟩) (fun _ R s => s.heap.IsTuple l1 xs ∧ s.heap.IsTuple l2 ys ∧ R (.ok (.ret (.ref (zg4 s.heap l1 l2).objs.size))) { s with heap := zg5 s.heap l1 l2 }) :=
 .of_wp fun prog w A R s h => by
  obtain ⟨hp, g, d, tk, os⟩ := s; obtain ⟨hl1, hl2, h⟩ := h
  have hsub := sub_zip
  have hL1 : Heap.IsTuple (Shared.heap ⟨hp, g, d, tk, os⟩) l1 xs := hl1
  have hL2 : Heap.IsTuple (Shared.heap ⟨hp.push { cls := .type "tuple_iterator", data := .fields #[.ref l1, .int 0 0] }, g, d, tk, os⟩) l2 ys := Heap.IsTuple.push hl2 _
  wp_walk using wpAny_pyIter_tuple hL1, wpAny_pyIter_tuple hL2
  exact ⟨_, rfl, h⟩
theorem call_zip_tup {prog w A E s l1 l2} {xs ys : Array Value} {Q} (hl1 : s.heap.IsTuple l1 xs) (hl2 : s.heap.IsTuple l2 ys)
  (h : Q (.ref (s.heap.objs.size + 4)) { s with heap := zg5 s.heap l1 l2 }) : wpAny (model prog w) A (call (.type "zip") [.ref l1, .ref l2]) Q E s := by
 refine callType_new F.called_zip (by decide) (F.typeCall_zip_2 _ _) (F.newCall_zip_2 _ _) (fun obj => F.args_object_init_3 obj _ _) F.entry_zip_new (meets_zip_tup l1 l2 xs ys) ⟨hl1, hl2, ?_⟩
 have z4 : (zg4 s.heap l1 l2).objs.size = s.heap.objs.size + 4 := by simp only [zg4, zg3, zg2, zg1, Heap.size_push]
 have g5 : (zg5 s.heap l1 l2).get? (zg4 s.heap l1 l2).objs.size = some _ := Heap.get?_push_size _ rfl
 show _ ∧ _
 rw [z4] at g5 ⊢
 exact ⟨⟨_, g5, rfl⟩, h⟩
theorem Sp.keepAll {env L m ρ led} : ∀ {os ko news}, Sp env L m ρ ko led news -> (keyL os).Nodup -> (∀ q ∈ os, ∀ p ∈ news, p.1 ≠ q.1) -> Sp env L m ρ (ko ++ os) led (os.reverse ++ news)
 | [], ko, news, S, _, _ => by simpa using S
 | q :: r, ko, news, S, nd, h => by
  have nd' : q.1 ∉ keyL r ∧ (keyL r).Nodup := by simpa [keyL] using nd
  have S1 := S.keepOne (I := q.1) (o := q.2) (h q (.head _)) (S.not_tab (h q (.head _)))
  have S2 := S1.keepAll nd'.2 fun q' hq' p hp => by
   rcases List.mem_cons.mp hp with rfl | hp
   ·intro e
    have e' : q.1 = q'.1 := e
    exact nd'.1 (e' ▸ zC (o := q'.2) hq')
   ·exact h q' (.tail _ hq') p hp
  simpa using S2
theorem Sp.dropAll {env L m ρ led} : ∀ {os ko news}, Sp env L m ρ (ko ++ os) led news -> (keyL os).Nodup -> (∀ q ∈ os, q.1 ∉ keyL ko) -> (∀ q ∈ os, (∀ C dx, q.2 ≠ instObj C dx) ∧ (∀ v, q.2.data ≠ .cell v) ∧ env.locals ≠ q.1) ->
  ∃ news', Sp env L m ρ ko led news' ∧ (Inc news' news) ∧ ∀ p ∈ news', ∀ q ∈ os, p.1 ≠ q.1
 | [], ko, news, S, _, _, _ => ⟨news, by simpa using S, fun _ h => h, fun p hp q hq => by cases hq⟩
 | q :: r, ko, news, S, nd, hk, h => by
  have nd' : q.1 ∉ keyL r ∧ (keyL r).Nodup := by simpa [keyL] using nd
  have S0 : Sp env L m ρ ((ko ++ [(q.1, q.2)]) ++ r) led news := by simpa using S
  obtain ⟨n1, S1, i1, o1⟩ := S0.dropAll nd'.2 (fun q' hq' hm => by
   simp only [keyL, List.map_append, List.mem_append] at hm
   rcases hm with hm | hm
   ·exact hk q' (.tail _ hq') hm
   ·simp at hm
    exact nd'.1 (hm ▸ zC (o := q'.2) hq')) fun q' hq' => h q' (.tail _ hq')
  obtain ⟨a, b, c⟩ := h q (.head _)
  have S2 := S1.drop1 (hk q (.head _)) a c b
  refine ⟨_, S2, fun p hp => i1 p (List.mem_filter.mp hp).1, fun p hp q' hq' => ?_⟩
  rcases List.mem_cons.mp hq' with rfl | hq'
  ·exact filter_ne p hp
  ·exact o1 p (List.mem_filter.mp hp).1 q' hq'
noncomputable def zCb (h : Heap) : List Addr -> Led
 | [] => []
 | a :: r => match h.get? a with
  | some o => (a, o) :: zCb h r
  | none => zCb h r
theorem zBa {h p} : ∀ {l}, p ∈ zCb h l -> p.1 ∈ l ∧ h.get? p.1 = some p.2
 | [], x => by cases x
 | a :: r, x => by
  unfold zCb at x
  split at x
  ·rename_i o e
   rcases List.mem_cons.mp x with rfl | x
   ·exact ⟨.head _, e⟩
   ·exact ⟨.tail _ (zBa x).1, (zBa x).2⟩
  ·exact ⟨.tail _ (zBa x).1, (zBa x).2⟩
theorem mem_objsAt {h a o} (e : h.get? a = some o) : ∀ {l}, a ∈ l -> (a, o) ∈ zCb h l
 | [], x => by cases x
 | b :: r, x => by
  unfold zCb
  rcases List.mem_cons.mp x with rfl | x
  ·rw [e]; exact .head _
  ·split
   ·exact .tail _ (mem_objsAt e x)
   ·exact mem_objsAt e x
theorem objsAt_keys {h} : ∀ {l}, ∀ a ∈ keyL (zCb h l), a ∈ l := fun a ha => by
 obtain ⟨p, hp, rfl⟩ := List.mem_map.mp ha
 exact (zBa hp).1
theorem objsAt_nodup {h} : ∀ {l}, l.Nodup -> (keyL (zCb h l)).Nodup
 | [], _ => List.nodup_nil
 | a :: r, nd => by
  have nd' := List.nodup_cons.mp nd
  unfold zCb
  split
  ·refine List.nodup_cons.mpr ⟨fun hm => nd'.1 (objsAt_keys _ hm), objsAt_nodup nd'.2⟩
  ·exact objsAt_nodup nd'.2
section
variable {prog : Program} {w : World} {A : Around}
theorem loop_turns {sc env h₀ L s m ρ ρ' ko led news} {n : Nat} {elts} {kt : Nat} {tpos body} {dss : List (List D)} {fl Q I fp wr} {P Md : Nat -> Value -> Heap -> Prop} {Stt}
  (hs : env.scope.names = sc) (hl : env.locals = L) (Si : Sit w A env h₀ L n) (W : KTurns prog w A (.Tuple elts kt tpos) I fp wr dss.length P Md Stt) (own0 : List Addr) (hnd : own0.Nodup) (hwo : ∀ p ∈ wr, p ∈ own0) (hof : ∀ p ∈ own0, p ∈ fp) (hfp : ∀ b ∈ fp, b ∈ own0 ∨ ∃ o, (b, o) ∈ led) (hst : Stt 0 s.heap)
  (S : St env h₀ L s.heap m ρ ko led news) (hnew : ∀ p ∈ news, p.1 ∉ own0) (hI0 : ∀ b ∈ own0, h₀.get? b = none) (hIL : L ∉ own0)
  (hIo : ∀ i h, Stt i h -> ∀ b ∈ own0, ∃ o, h.get? b = some o ∧ (∀ C dx, o ≠ instObj C dx) ∧ (∀ v, o.data ≠ .cell v))
  (hP : ∀ i v h, i < dss.length -> P i v h -> (∀ p ∈ led, h.get? p.1 = some p.2) -> ∃ ds T vs, dss[i]? = some ds ∧ v = .ref T ∧ h.IsTuple T vs.toArray ∧ Rs led ds vs) (lp : Lt sc n elts body ρ dss fl ρ')
  (K : ∀ f h' tk m' led' news', St env h₀ L h' m' ρ' ko led' news' -> Inc led led' -> FlOK led' fl f -> Q f (sw s h' tk)) :
  TurnsAt prog w A h₀ env (.Tuple elts kt tpos) body Q (fun _ _ => False) (.ref I) s := by
 subst hl
 let J : Nat -> (Str -> Option Value) -> Led -> Prop := fun i m₁ news₁ => ∃ ρi ledi, Lt sc n elts body ρi (dss.drop i) fl ρ' ∧ Sp env env.locals m₁ ρi ko ledi news₁ ∧ (Inc led ledi) ∧ ∀ p ∈ news₁, p.1 ∉ own0
 refine ⟨I, fp, wr, dss.length, P, Md, Stt, m, news, J, rfl, W, ?_, ?_, ?_, hst, S.F, S.N, ⟨ρ, led, lp, S.sp, fun _ h => h, hnew⟩, ?_, ?_⟩
 ·intro hm
  rcases hfp _ hm with e | ⟨o, ho⟩
  ·exact hIL e
  ·exact (S.N _ (S.sub _ ho)).2.1 rfl
 ·intro b hb; exact hI0 b (hwo b hb)
 ·intro p hp hq; exact hnew p hp (hwo _ hq)
 ·rintro i v m₁ news₁ hh' tk' own hin hPv ⟨ρi, ledi, lpi, Spi, ili, hoff2⟩ hoff hown hownH hcompl hst1 F₁ N₁
  obtain ⟨ds, T, vs, hd, rfl, hiT, rds⟩ := hP i v hh' hin hPv (fun p hp => (N₁ p (List.mem_append_right _ (Spi.sub p (ili p hp)))).1)
  rw [drop_at hin hd] at lpi
  have hkeys : ∀ b ∈ own0, ∃ o, (b, o) ∈ zCb hh' own0 := fun b hb => by
   obtain ⟨o, ho, _⟩ := hIo _ _ hst1 b hb
   exact ⟨o, mem_objsAt ho hb⟩
  have Sk := Spi.keepAll (os := zCb hh' own0) (objsAt_nodup hnd) fun q hq p hp e => hoff2 p hp (e ▸ (zBa hq).1)
  have hOwn : ∀ q ∈ zCb hh' own0, q ∈ own := fun q hq => by
   obtain ⟨a, b⟩ := zBa hq
   exact hcompl q.1 (hof _ a) (hI0 _ a) q.2 b
  have N' : News h₀ env.locals hh' ((zCb hh' own0).reverse ++ news₁) := fun p hp => by
   rcases List.mem_append.mp hp with hp | hp
   ·exact N₁ _ (List.mem_append_left _ (hOwn p (List.mem_reverse.mp hp)))
   ·exact N₁ _ (List.mem_append_right _ hp)
  have S₀ := Sk.st F₁ N'
  have Lne : ∀ q ∈ zCb hh' own0, env.locals ≠ q.1 := fun q hq e => hIL (e ▸ (zBa hq).1)
  have back : ∀ {h2 m2 ρ2 led2 news2}, St env h₀ env.locals h2 m2 ρ2 (ko ++ zCb hh' own0) led2 news2 -> ∃ news3, Sp env env.locals m2 ρ2 ko led2 news3 ∧ (Inc news3 news2) ∧ ∀ p ∈ news3, p.1 ∉ own0 := fun S2 => by
   obtain ⟨news3, a, b, c⟩ := S2.sp.dropAll (objsAt_nodup hnd) (fun q hq hm => by
    obtain ⟨p, hp, e⟩ := List.mem_map.mp hm
    exact hoff2 p (Spi.kon p hp) (e ▸ (zBa hq).1)) fun q hq => by
     obtain ⟨o, ho, h1, h2⟩ := hIo _ _ hst1 q.1 (zBa hq).1
     rw [(zBa hq).2] at ho
     cases ho
     exact ⟨h1, h2, Lne q hq⟩
   refine ⟨news3, a, b, fun p hp hm => ?_⟩
   obtain ⟨o, ho⟩ := hkeys p.1 hm
   exact c p hp _ ho rfl
  have stepBack : ∀ {h2 m2 ρ2 led2 news2 tk2}, St env h₀ env.locals h2 m2 ρ2 (ko ++ zCb hh' own0) led2 news2 -> (Inc ledi led2) -> Lt sc n elts body ρ2 (dss.drop (i + 1)) fl ρ' ->
    LoopStepU h₀ env.locals wr own (J (i + 1)) (sw s hh' tk') .next (sw s h2 tk2) := fun {h2 m2 ρ2 led2 news2 tk2} S2 i2 lp2 => by
   obtain ⟨news3, a, b, c⟩ := back S2
   refine ⟨rfl, h2, tk2, m2, news3, rfl, S2.F, ?_, fun p hp hq => c p hp (hwo _ hq), ρ2, led2, lp2, a, (Inc.trans ili i2), c⟩
   intro p hp
   rcases List.mem_append.mp hp with hp | hp
   ·have hpfp := hown p hp
    have hcur := hownH p hp
    rcases hfp _ hpfp with e | ⟨o, ho⟩
    ·exact S2.N _ (S2.kon _ (List.mem_append_right _ (mem_objsAt hcur e)))
    ·have hmem : (p.1, o) ∈ ledi := ili _ ho
     have e2 : p.2 = o := by
      have := (N' _ (Sk.sub _ hmem)).1
      simp only at this
      rw [this] at hcur
      exact (Option.some.inj hcur).symm
     have : p = (p.1, o) := Prod.ext rfl e2
     rw [this]
     exact S2.N _ (S2.sub _ (i2 _ hmem))
   ·exact S2.N p (b p hp)
  have go : ∀ {ρ0 Q1 fl1 ρ1}, zBw sc elts ds ρi = some ρ0 -> ExS sc ρ0 n body fl1 ρ1 ->
    (∀ f h2 tk2 m2 led2 news2, St env h₀ env.locals h2 m2 ρ1 (ko ++ zCb hh' own0) led2 news2 -> (Inc ledi led2) -> FlOK led2 fl1 f -> Q1 f (sw s h2 tk2)) ->
    wpAny (model prog w) A (assign (.Tuple elts kt tpos) env (.ref T)) (fun _ s₃ => wpAny (model prog w) A (execs body env) Q1 (fun _ _ => False) s₃) (fun _ _ => False) (sw s hh' tk') := fun {ρ0 Q1 fl1 ρ1} hbn hb k => by
   obtain ⟨l1, l2⟩ := bindNm_len (env := env) hbn
   refine assign_Tuple_tuple Si.hd hiT (by rw [l1, List.size_toArray, Rs.length rds]) l2 fun h2 he => ?_
   have S2 : St env h₀ env.locals h2 m₁ ρi (ko ++ zCb hh' own0) ledi ((zCb hh' own0).reverse ++ news₁) := S₀.re (S₀.F.extBut he (Nat.le_refl _)) fun p hp => by
    have z := S₀.N p hp
    exact ⟨he p.1 p.2 (Nat.ne_of_lt (Heap.lt_size z.1)) z.1, z.2⟩
   refine asg_names hs rfl Si.kd hbn (s := (sw s h2 tk')) S2 (Rs.mono ili rds) fun h3 tk3 m3 S3 => ?_
   exact hb prog w A env h₀ env.locals (sw s h3 tk3) m3 _ ledi _ Q1 hs rfl Si S3 fun f h4 tk4 m4 led4 news4 S4 i4 hf => k f h4 tk4 m4 led4 news4 S4 i4 hf
  cases lpi.inv with
  | next ρ0 ρ1 fl1 hbn hb hfl lp2 => exact go hbn hb fun f h2 tk2 m2 led2 news2 S2 i2 hf => stepNC hfl hf (stepBack S2 i2 lp2)
  | brk ρ0 hbn hb e =>
   refine go hbn hb fun f h2 tk2 m2 led2 news2 S2 i2 hf => stepB hf ?_
   obtain ⟨news3, a, b, c⟩ := back S2
   exact K .next h2 tk2 m2 led2 _ (a.st S2.F fun p hp => S2.N p (b p hp)) (Inc.trans ili i2) (e ▸ rfl)
  | ret ρ0 v hbn hb e =>
   refine go hbn hb fun f h2 tk2 m2 led2 news2 S2 i2 hf => stepR hf fun u hu => ?_
   obtain ⟨news3, a, b, c⟩ := back S2
   exact K (.ret u) h2 tk2 m2 led2 _ (a.st S2.F fun p hp => S2.N p (b p hp)) (Inc.trans ili i2) (e ▸ hu)
 ·rintro h' tk m' news' F' N' hoff ⟨ρi, ledi, lpi, Spi, ili, _⟩
  rw [List.drop_length] at lpi
  obtain ⟨e, rfl⟩ := lpi.inv0
  exact K .next h' tk m' ledi news' (Spi.st F' N') ili (e ▸ rfl)
end
noncomputable def zAy : Nat -> List D -> List (List D)
 | _, [] => []
 | k, d :: r => [.int (k : Nat), d] :: zAy (k + 1) r
theorem enumFrom_len : ∀ {ds} {k : Nat}, (zAy k ds).length = ds.length
 | [], _ => rfl
 | d :: r, k => by rw [zAy, List.length_cons, List.length_cons, enumFrom_len]
theorem enumFrom_get : ∀ {ds} {k i : Nat} {d}, ds[i]? = some d -> (zAy k ds)[i]? = some [.int ((k + i : Nat) : Int), d]
 | [], _, _, _, h => by simp at h
 | x :: r, k, 0, d, h => by simp at h; subst h; simp [zAy]
 | x :: r, k, i + 1, d, h => by
  simp at h
  have := enumFrom_get (k := k + 1) h
  rw [zAy, List.getElem?_cons_succ, this]
  congr 3
  congr 1
  lia
noncomputable def zipD : List D -> List D -> List (List D)
 | a :: r, b :: t => [a, b] :: zipD r t
 | _, _ => []
theorem zipD_len : ∀ {a b}, a.length = b.length -> (zipD a b).length = a.length
 | [], [], _ => rfl
 | _ :: a, _ :: b, h => congrArg (· + 1) (zipD_len (a := a) (b := b) (Nat.succ.inj h))
theorem zipD_get : ∀ {a b} {i : Nat} {x y}, a[i]? = some x -> b[i]? = some y -> (zipD a b)[i]? = some [x, y]
 | p :: a, q :: b, 0, x, y, h, k => by
  obtain rfl := Option.some.inj h
  obtain rfl := Option.some.inj k
  rfl
 | p :: a, q :: b, i + 1, x, y, h, k => zipD_get (a := a) (b := b) (i := i) h k
theorem allN {α : Type} {P : α -> Prop} : ∀ x ∈ ([] : List α), P x := fun _ h => nomatch h
theorem allC {α : Type} {P : α -> Prop} {a : α} {l : List α} (h : P a) (k : ∀ x ∈ l, P x) : ∀ x ∈ a :: l, P x := List.forall_mem_cons.mpr ⟨h, k⟩
section
variable {α : Type} {a b c d e f : α} {l : List α}
theorem m1 : b ∈ a :: b :: l := .tail _ (.head _)
theorem m2 : c ∈ a :: b :: c :: l := .tail _ m1
theorem m3 : d ∈ a :: b :: c :: d :: l := .tail _ m2
theorem m4 : e ∈ a :: b :: c :: d :: e :: l := .tail _ m3
theorem m5 : f ∈ a :: b :: c :: d :: e :: f :: l := .tail _ m4
end
theorem obj_at {h : Heap} {a : Addr} {o : Obj} {T : String} {vs : Array Value} (g : h.get? a = some o) (c : o.cls = .type T) (d : o.data = .fields vs) : ∃ o, h.get? a = some o ∧ (∀ C dx, o ≠ instObj C dx) ∧ (∀ v, o.data ≠ .cell v) :=
 ⟨o, g, (fun C dx e => by rw [e] at c; cases c), fun v e => by rw [d] at e; cases e⟩
section
variable {prog : Program} {w : World} {A : Around}
theorem for_enum {sc : zT} {env : Env} {h₀ : Heap} {L : Addr} {s : Shared} {m : Str -> Option Value} {ρ ρ' : Loc} {ko led news : Led} {n : Nat} {elts : List Expr} {kt : Nat} {tpos : Pos} {body : List Stmt} {ds : List D} {vs : List Value} {fl : Fl} {Q : Flow -> Shared -> Prop} {e it a : Addr} {h' : Heap} {oa : Obj} {S1 : Nat -> Heap -> Prop}
  (hs : env.scope.names = sc) (hl : env.locals = L) (Si : Sit w A env h₀ L n) (S : St env h₀ L s.heap m ρ ko led news) (D1 : Draws prog w A.in1 it [it, a] vs.toArray.size (fun i v => vs.toArray[i]? = some v) S1)
  (he : IsEnum h' e it 0 .none) (h1 : S1 0 h') (hsz : s.heap.objs.size ≤ e ∧ s.heap.objs.size ≤ it) (hei : e ≠ it) (hk : ∀ b o, s.heap.get? b = some o -> h'.get? b = some o) (hm : (a, oa) ∈ led) (rr : Rs led ds vs)
  (hIo : ∀ i h, S1 i h -> ∃ o, h.get? it = some o ∧ (∀ C dx, o ≠ instObj C dx) ∧ (∀ v, o.data ≠ .cell v)) (lp : Lt sc n elts body ρ (zAy 0 ds) fl ρ')
  (K : ∀ f h' tk m' led' news', St env h₀ L h' m' ρ' ko led' news' -> Inc led led' -> FlOK led' fl f -> Q f (sw s h' tk)) {tk : Nat} :
  TurnsAt prog w A h₀ env (.Tuple elts kt tpos) body Q (fun _ _ => False) (.ref e) (sw s h' tk) := by
 have S2 : St env h₀ L h' m ρ ko led news := S.re (S.F.keeps hk) (S.N.grown hk)
 have fresh := fun b => S.fresh_ge (b := b) rfl
 obtain ⟨fe1, fe2, fe3⟩ := fresh e hsz.1
 obtain ⟨fi1, fi2, fi3⟩ := fresh it hsz.2
 have hea : e ≠ a := fun q => fe1 _ (S.sub _ hm) q.symm
 have W := KTurns.ofWalksU (elts := elts) (k := kt) (pos := tpos) (WalksT.enumerateD D1 e hei (by simp [hei, hea]) (by simp)).toU
 have hlen : vs.toArray.size = (zAy 0 ds).length := by rw [List.size_toArray, enumFrom_len, Rs.length rr]
 rw [hlen] at W
 refine loop_turns (s := (sw s h' tk)) hs hl Si W [e, it] (by simp [hei]) (fun b hb => hb) (allC (.head _) (allC m1 allN)) (allC (.inl (.head _)) (allC (.inl m1) (allC (.inr ⟨_, hm⟩) allN))) ⟨⟨_, he⟩, h1⟩ S2 (fun p hp => ?_) (allC fe2 (allC fi2 allN)) (fun hq => ?_) (fun i h hst => allC (?_) (allC (hIo _ _ hst.2) allN)) (fun i v h hin hP hled => ?_) lp
  fun f h2 tk2 m2 led2 news2 S3 i3 hf => K f h2 tk2 m2 led2 news2 S3 i3 hf
 ·intro hq
  rcases List.mem_cons.mp hq with q | q
  ·exact fe1 p hp q
  ·exact fi1 p hp (List.mem_singleton.mp q)
 ·rcases List.mem_cons.mp hq with q | q
  ·exact fe3 q
  ·exact fi3 (List.mem_singleton.mp q)
 ·obtain ⟨⟨old, h1⟩, h2⟩ := hst
  exact obj_at h1 rfl rfl
 ·obtain ⟨T, vals, rfl, ⟨t, x, hx, rfl⟩, hT⟩ := hP
  have hin' : i < ds.length := by rw [enumFrom_len] at hin; exact hin
  have hd : ds[i]? = some ds[i] := List.getElem?_eq_getElem hin'
  obtain ⟨u, hu, ru⟩ := Rs.get rr hd
  simp only [List.getElem?_toArray] at hx
  rw [hu] at hx
  cases hx
  refine ⟨_, T, [.int (i : Nat) t, x], enumFrom_get hd, rfl, hT, ?_⟩
  refine Rs.cons ?_ (Rs.one ru)
  rw [Nat.zero_add]
  exact R_int
end
theorem zBb {sc ρ ρ' n elts kt tpos rx rpos cpos e body pos fl ds} (hk : zZ sc rx = true) (hd : zM rx = true) (er : fnd rx bTab = some (.type "enumerate")) (hs1 : zP e = true) (h : EvE sc ρ n e (.lst ds))
  (lp : Lt sc n elts body ρ (zAy 0 ds) fl ρ') : Ex1 sc ρ n (.For (.Tuple elts kt tpos) (.Call (.Name rx rpos) [e] [] cpos) body [] pos) fl ρ' := by
 intro prog w A env h₀ L s m ko led news Q hs hl Si S K
 subst hl
 refine For_turns (h₀ := h₀) S.F ?_ (fun _ => rfl) PassesOwn.never
 refine Rows.Call_ (zAl hs Si S hk hd er ?_)
 refine Rows.callWith_type1 (zH hs1 h zO prog w A env h₀ env.locals s m ko led news _ _ cpos hs Si S fun vs h' tk led' news' S' i r => ?_) (zB hs1) rfl
 obtain ⟨v, rfl, rv⟩ := Rs.inv1 r
 obtain ⟨a, vs, c, rfl, hm, hi, rr⟩ := S'.isLst rv
 refine call_enumerate_list hi fun h2 he hit hsz hk2 => ?_
 refine wpAny_pyIter_enum he ?_
 have hne : a ≠ h'.objs.size := Nat.ne_of_lt (Heap.lt_size (S'.held _ hm))
 refine for_enum (s := (sw s h' tk)) (S1 := fun i h => h.IsListIter h'.objs.size a i ∧ h.IsList a vs.toArray) hs rfl Si S' (Draws.list (A := A.in1) Si.hd h'.objs.size a hne vs.toArray) he ⟨hit, hi.at fun o e => hk2 _ o e⟩ ⟨Nat.le_succ _, Nat.le_refl _⟩ (Nat.succ_ne_self _) hk2 hm rr (fun i h hst => ?_) lp
  fun f h2 tk2 m2 led2 news2 S3 i3 hf => K f h2 tk2 m2 led2 news2 S3 (Inc.trans i i3) hf
 obtain ⟨⟨o, ho, hc, hd⟩, _⟩ := hst
 exact obj_at ho hc hd
theorem ex1_for_enum_tup {sc ρ ρ' n elts kt tpos rx rpos cpos e body pos fl ds} (hk : zZ sc rx = true) (hd : zM rx = true) (er : fnd rx bTab = some (.type "enumerate")) (hs1 : zP e = true) (h : EvE sc ρ n e (.tup ds))
  (lp : Lt sc n elts body ρ (zAy 0 ds) fl ρ') : Ex1 sc ρ n (.For (.Tuple elts kt tpos) (.Call (.Name rx rpos) [e] [] cpos) body [] pos) fl ρ' := by
 intro prog w A env h₀ L s m ko led news Q hs hl Si S K
 subst hl
 refine For_turns (h₀ := h₀) S.F ?_ (fun _ => rfl) PassesOwn.never
 refine Rows.Call_ (zAl hs Si S hk hd er ?_)
 refine Rows.callWith_type1 (zH hs1 h zO prog w A env h₀ env.locals s m ko led news _ _ cpos hs Si S fun vs h' tk led' news' S' i r => ?_) (zB hs1) rfl
 obtain ⟨v, rfl, rv⟩ := Rs.inv1 r
 obtain ⟨a, vs, rfl, hm, hi, rr⟩ := S'.isTup rv
 refine call_enum_tup hi fun h2 he hit hsz hk2 => ?_
 refine wpAny_pyIter_enum he ?_
 have hne : a ≠ h'.objs.size := Nat.ne_of_lt (Heap.lt_size (S'.held _ hm))
 refine for_enum (s := (sw s h' tk)) (S1 := fun i h => h.IsTupleIter h'.objs.size a i ∧ h.IsTuple a vs.toArray) hs rfl Si S' (drawsTup (A := A.in1) Si.hd h'.objs.size a hne vs.toArray) he ⟨hit, hi.at fun o e => hk2 _ o e⟩ ⟨Nat.le_succ _, Nat.le_refl _⟩ (Nat.succ_ne_self _) hk2 hm rr (fun i h hst => ?_) lp
  fun f h2 tk2 m2 led2 news2 S3 i3 hf => K f h2 tk2 m2 led2 news2 S3 (Inc.trans i i3) hf
 obtain ⟨⟨o, ho, hc, hd⟩, _⟩ := hst
 exact obj_at ho hc hd
theorem neA {N i j : Nat} (h : i ≠ j) : N + i ≠ N + j := fun e => h (Nat.add_left_cancel e)
theorem neL {a N : Nat} (i : Nat) (h : a < N) : N + i ≠ a := fun e => Nat.lt_irrefl _ (Nat.lt_of_le_of_lt (Nat.le_add_right N i) (e ▸ h))
theorem not2 {x y z : Nat} (h : x ≠ y) (k : x ≠ z) : x ∉ [y, z] := by simp [h, k]
theorem za_ok {N a b : Nat} (la : a < N) (lb : b < N) : ZA (N + 4) (N + 2) (N + 3) N (N + 1) [N, a] [N + 1, b] :=
 ⟨not2 (neA (N := N) (i := 4) (j := 0) (by decide)) (neL (N := N) 4 la), not2 (neA (by decide)) (neL (N := N) 4 lb), not2 (neA (N := N) (i := 3) (j := 0) (by decide)) (neL (N := N) 3 la), not2 (neA (by decide)) (neL (N := N) 3 lb), by simp, by simp, not2 (neA (N := N) (i := 0) (by decide)) (neL (N := N) 0 lb), not2 (neA (N := N) (j := 0) (by decide)) (neL (N := N) 1 la), by simp, by simp, by simp, by simp, by simp⟩
theorem zip_nodup (N : Nat) : [N + 4, N + 2, N + 3, N, N + 1].Nodup := by simp
theorem pair_at {h a x y} (g : IsPair h a x y) : ∃ o, h.get? a = some o ∧ (∀ C dx, o ≠ instObj C dx) ∧ (∀ v, o.data ≠ .cell v) := ⟨_, g, (fun C dx e => by cases e), fun v e => by cases e⟩
theorem zCe {sc ρ ρ' n elts kt tpos rx rpos cpos e f body pos fl ds es} (hk : zZ sc rx = true) (hd : zM rx = true) (er : fnd rx bTab = some (.type "zip")) (hs1 : [e, f].all zP = true) (h : EvL sc ρ n [e, f] [.tup ds, .tup es]) (hlen : Nat.beq ds.length es.length = true)
  (lp : Lt sc n elts body ρ (zipD ds es) fl ρ') : Ex1 sc ρ n (.For (.Tuple elts kt tpos) (.Call (.Name rx rpos) [e, f] [] cpos) body [] pos) fl ρ' := by
 intro prog w A env h₀ L s m ko led news Q hs hl Si S K
 subst hl
 have hlen := Nat.eq_of_beq_eq_true hlen
 refine For_turns (h₀ := h₀) S.F ?_ (fun _ => rfl) PassesOwn.never
 refine Rows.Call_ (zAl hs Si S hk hd er ?_)
 refine Rows.callWith_type1 (h prog w A env h₀ env.locals s m ko led news _ _ cpos hs Si S fun vs h' tk led' news' S' i r => ?_) (zB (and2 hs1 fun a _ => a)) (by rw [zAr]; exact zAa (and2 hs1 fun _ b => b))
 obtain ⟨v1, r1, rfl, rv1, r2⟩ := r
 obtain ⟨v2, rfl, rv2⟩ := Rs.inv1 r2
 obtain ⟨a, vs, rfl, hm, hi, rr⟩ := S'.isTup rv1
 obtain ⟨b, us, rfl, hm2, hi2, rr2⟩ := S'.isTup rv2
 refine call_zip_tup hi hi2 ?_
 have z1 : (zg1 h' a).objs.size = h'.objs.size + 1 := Heap.size_push ..
 have z2 : (zg2 h' a b).objs.size = h'.objs.size + 2 := by rw [Heap.size_push, z1]
 have z3 : (zg3 h' a b).objs.size = h'.objs.size + 3 := by rw [Heap.size_push, z2]
 have z4 : (zg4 h' a b).objs.size = h'.objs.size + 4 := by rw [Heap.size_push, z3]
 have g5 : (zg5 h' a b).get? (zg4 h' a b).objs.size = some _ := Heap.get?_push_size _ rfl
 have g4 : (zg5 h' a b).get? (zg3 h' a b).objs.size = some _ := Heap.get?_push_of_some _ (Heap.get?_push_size _ rfl)
 have g3 : (zg5 h' a b).get? (zg2 h' a b).objs.size = some _ := Heap.get?_push_of_some _ (Heap.get?_push_of_some _ (Heap.get?_push_size _ rfl))
 have g2 : (zg5 h' a b).get? (zg1 h' a).objs.size = some _ := Heap.get?_push_of_some _ (Heap.get?_push_of_some _ (Heap.get?_push_of_some _ (Heap.get?_push_size _ rfl)))
 have g1 : (zg5 h' a b).get? h'.objs.size = some _ := Heap.get?_push_of_some _ (Heap.get?_push_of_some _ (Heap.get?_push_of_some _ (Heap.get?_push_of_some _ (Heap.get?_push_size _ rfl))))
 rw [z2, z3, z4] at g5
 rw [z1, z2] at g3
 rw [z3] at g4
 rw [z1] at g2
 have hkk : ∀ c o, h'.get? c = some o -> (zg5 h' a b).get? c = some o := fun c o x =>
  Heap.get?_push_of_some _ (Heap.get?_push_of_some _ (Heap.get?_push_of_some _ (Heap.get?_push_of_some _ (Heap.get?_push_of_some _ x))))
 generalize zg5 h' a b = H at *
 refine wpAny_pyIter_zip g5 ?_
 have la : @LT.lt Nat _ a h'.objs.size := Heap.lt_size (S'.held _ hm)
 have lb : @LT.lt Nat _ b h'.objs.size := Heap.lt_size (S'.held _ hm2)
 generalize hN : h'.objs.size = N at *
 have S2 : St env h₀ env.locals H m ρ ko led' news' := S'.re (S'.F.keeps hkk) (S'.N.grown hkk)
 have low : ∀ x ∈ [N + 4, N + 2, N + 3, N, N + 1], (∀ p ∈ news', p.1 ≠ x) ∧ h₀.get? x = none ∧ env.locals ≠ x :=
  allC (S'.fresh_ge hN (Nat.le_add_right N 4)) (allC (S'.fresh_ge hN (Nat.le_add_right N 2)) (allC (S'.fresh_ge hN (Nat.le_add_right N 3)) (allC (S'.fresh_ge hN (Nat.le_refl N)) (allC (S'.fresh_ge hN (Nat.le_add_right N 1)) allN))))
 have hlv : vs.toArray.size = us.toArray.size := by rw [List.size_toArray, List.size_toArray, ← Rs.length rr, ← Rs.length rr2, hlen]
 have D1 := drawsTup (prog := prog) (w := w) (A := A.in1) Si.hd N a (Nat.ne_of_lt la) vs.toArray
 have D2 := drawsTup (prog := prog) (w := w) (A := A.in1) Si.hd (N + 1) b (Nat.ne_of_lt (Nat.lt_succ_of_lt lb)) us.toArray
 rw [← hlv] at D2
 have hZA := za_ok la lb
 have W := KTurns.ofWalksU (elts := elts) (k := kt) (pos := tpos) (zipWalks D1 D2 hZA)
 have hlen2 : vs.toArray.size = (zipD ds es).length := by rw [List.size_toArray, zipD_len hlen, Rs.length rr]
 rw [hlen2] at W
 refine loop_turns (s := (sw s H tk)) hs rfl Si W [N + 4, N + 2, N + 3, N, N + 1] (zip_nodup N) (allC (.head _) (allC m2 (allC m3 (allC m4 allN)))) (allC (.head _) (allC m1 (allC m2 (allC m3 (allC m5 allN)))))
  (allC (.inl (.head _)) (allC (.inl m1) (allC (.inl m2) (allC (.inl m3) (allC (.inr ⟨_, hm⟩) (allC (.inl m4) (allC (.inr ⟨_, hm2⟩) allN))))))) ⟨g5, g3, ⟨_, _, g4⟩, ⟨⟨_, g1, rfl, rfl⟩, hi.at fun o e => hkk _ o e⟩, ⟨_, g2, rfl, rfl⟩, hi2.at fun o e => hkk _ o e⟩ S2 (fun p hp hq => (low _ hq).1 p hp rfl) (fun b hb => (low b hb).2.1) (fun hq => (low _ hq).2.2 rfl) (fun i h hst => ?_) (fun i v h hin hP hled => ?_) lp
  fun f h2 tk2 m2 led2 news2 S3 i3 hf => K f h2 tk2 m2 led2 news2 S3 (Inc.trans i i3) hf
 ·obtain ⟨a1, a2, ⟨x, y, a3⟩, ⟨⟨o1, b1, b2, b3⟩, _⟩, ⟨o2, c1, c2, c3⟩, _⟩ := hst
  exact allC (obj_at a1 rfl rfl) (allC (pair_at a2) (allC (pair_at a3) (allC (obj_at b1 b2 b3) (allC (obj_at c1 c2 c3) allN))))
 ·obtain ⟨T, vals, rfl, ⟨x, y, hx, hy, rfl⟩, hT⟩ := hP
  rw [zipD_len hlen] at hin
  have hd1 : ds[i]? = some ds[i] := List.getElem?_eq_getElem hin
  have hd2 : es[i]? = some es[i] := List.getElem?_eq_getElem (hlen ▸ hin)
  obtain ⟨u, hu, ru⟩ := Rs.get rr hd1
  obtain ⟨u2, hu2, ru2⟩ := Rs.get rr2 hd2
  simp only [List.getElem?_toArray] at hx hy
  rw [hu] at hx
  rw [hu2] at hy
  cases hx
  cases hy
  exact ⟨_, T, [x, y], zipD_get hd1 hd2, rfl, hT, Rs.cons ru (Rs.one ru2)⟩
noncomputable abbrev gp (p : Array Nat) (i : Nat) : Nat := p.getD i 0
noncomputable def Pm (n : Nat) (p : Array Nat) : Prop := p.toList.Perm (List.range n)
theorem gp_get {p : Array Nat} {i : Nat} : gp p i = (p[i]?).getD 0 := by
 unfold gp
 rw [Array.getD_eq_getD_getElem?]
theorem Pm.size {n : Nat} {p : Array Nat} (h : Pm n p) : p.size = n := by
 have := h.length_eq
 simpa using this
theorem Pm.lt {n : Nat} {p : Array Nat} (h : Pm n p) {i : Nat} (hi : i < n) : gp p i < n := by
 have hs : i < p.size := h.size.symm ▸ hi
 rw [gp_get, Array.getElem?_eq_getElem hs]
 exact List.mem_range.mp (h.mem_iff.mp (Array.getElem_mem_toList hs))
theorem Pm.inj {n : Nat} {p : Array Nat} (h : Pm n p) {i j : Nat} (hi : i < n) (hj : j < n) (e : gp p i = gp p j) : i = j := by
 have hi : i < p.toList.length := show i < p.size from h.size.symm ▸ hi
 have hj : j < p.toList.length := show j < p.size from h.size.symm ▸ hj
 rw [gp_get, gp_get, ← Array.getElem?_toList, ← Array.getElem?_toList, List.getElem?_eq_getElem hi, List.getElem?_eq_getElem hj] at e
 exact (List.getElem_inj (h₀ := hi) (h₁ := hj) (h.nodup_iff.mpr List.nodup_range)).mp e
theorem Pm.range (n : Nat) : Pm n (List.toArray (List.range n)) := by unfold Pm; simp
theorem Pm.of {n : Nat} {p q : Array Nat} (h : Pm n p) (e : q.Perm p) : Pm n q := (Array.perm_iff_toList_perm.mp e).trans h
section
variable {cmp : Nat -> Nat -> (Bool -> Shared -> Prop) -> Shared -> Prop} {K : Nat -> Int} {n : Nat} {Inv : Shared -> Prop}
noncomputable def AskOK (cmp : Nat -> Nat -> (Bool -> Shared -> Prop) -> Shared -> Prop) (K : Nat -> Int) (n : Nat) (Inv : Shared -> Prop) : Prop :=
 ∀ i j (C : Bool -> Shared -> Prop) s, i < n -> j < n -> Inv s -> (∀ s', Inv s' -> C (decide (K i < K j)) s') -> cmp i j C s
noncomputable def KInj (K : Nat -> Int) (n : Nat) : Prop := ∀ i j, i < n -> j < n -> K i = K j -> i = j
noncomputable def Up (K : Nat -> Int) (p : Array Nat) (m : Nat) : Prop := ∀ i j, i < j -> j < m -> K (gp p i) < K (gp p j)
noncomputable def Dn (K : Nat -> Int) (p : Array Nat) (m : Nat) : Prop := ∀ i j, i < j -> j < m -> K (gp p j) < K (gp p i)
theorem lt_last {i m : Nat} (h : i < m) (n : i ≠ m - 1) : i < m - 1 := Nat.lt_of_le_of_ne (Nat.le_sub_one_of_lt h) n
theorem lt_part {j m : Nat} (h : j < m + 1) (n : j ≠ m) : j < m := Nat.lt_of_le_of_ne (Nat.le_of_lt_succ h) n
theorem snocR {R : Int -> Int -> Prop} (tr : ∀ {a b c}, R a b -> R b c -> R a c) {f : Nat -> Int} {m : Nat} (h : ∀ i j, i < j -> j < m -> R (f i) (f j)) (l : R (f (m - 1)) (f m)) : ∀ i j, i < j -> j < m + 1 -> R (f i) (f j) := by
 intro i j hij hj
 by_cases e : j = m
 ·rw [e] at hij ⊢
  by_cases e2 : i = m - 1
  ·rw [e2]; exact l
  ·exact tr (h i (m - 1) (lt_last hij e2) (Nat.sub_one_lt_of_lt hij)) l
 ·exact h i j hij (lt_part hj e)
theorem Up.snoc {p : Array Nat} {m : Nat} (h : Up K p m) (l : K (gp p (m - 1)) < K (gp p m)) : Up K p (m + 1) := snocR (R := fun a b => a < b) (f := fun i => K (gp p i)) Int.lt_trans h l
theorem Dn.snoc {p : Array Nat} {m : Nat} (h : Dn K p m) (l : K (gp p m) < K (gp p (m - 1))) : Dn K p (m + 1) := snocR (R := fun a b => b < a) (f := fun i => K (gp p i)) (fun x y => Int.lt_trans y x) h l
theorem gt_of {a b : Int} (h : ¬ a < b) (n : b ≠ a) : b < a := Int.lt_iff_le_and_ne.mpr ⟨Int.not_lt.mp h, n⟩
theorem pred_ne {a : Nat} (h : 1 ≤ a) : a - 1 ≠ a := Nat.ne_of_lt (Nat.sub_one_lt_of_lt h)
theorem room_lt {a f n : Nat} (h : a + (f + 1) ≤ n) : a < n := Nat.lt_of_lt_of_le (Nat.lt_add_of_pos_right (Nat.succ_pos f)) h
theorem room_pred {a f n : Nat} (h : a + (f + 1) ≤ n) : a - 1 < n := Nat.lt_of_le_of_lt (Nat.sub_le a 1) (room_lt h)
theorem room_next {a f n : Nat} (h : a + (f + 1) ≤ n) : a + 1 + f ≤ n := by
 rw [Nat.add_assoc, Nat.add_comm 1 f]
 exact h
theorem room_up {a f m : Nat} (h : m ≤ a + 1 + f) : m ≤ a + (f + 1) := by
 rw [Nat.add_assoc, Nat.add_comm 1 f] at h
 exact h
theorem room_down {a f m : Nat} (h : m < a + (f + 1)) : m < a + 1 + f := by
 rw [Nat.add_assoc, Nat.add_comm 1 f]
 exact h
theorem key_ne {p : Array Nat} (hp : Pm n p) (hK : KInj K n) {i j : Nat} (hi : i < n) (hj : j < n) (h : i ≠ j) : K (gp p i) ≠ K (gp p j) := fun e =>
 h (hp.inj hi hj (hK _ _ (hp.lt hi) (hp.lt hj) e))
theorem asc_spec (hc : AskOK cmp K n Inv) (hK : KInj K n) {p : Array Nat} (hp : Pm n p) {Q : Nat -> Shared -> Prop} : ∀ (f a : Nat) (s : Shared), 1 ≤ a -> a + f ≤ n -> Up K p a -> Inv s ->
  (∀ m s', a ≤ m -> m ≤ a + f -> Up K p m -> (m < a + f -> K (gp p m) < K (gp p (m - 1))) -> Inv s' -> Q m s') -> (kas_asc p f a).kasWp cmp Q s
 | 0, a, s, _, _, hu, hi, hQ => hQ a s (Nat.le_refl _) (Nat.le_refl _) hu (fun h => absurd h (Nat.lt_irrefl a)) hi
 | f + 1, a, s, h1, h2, hu, hi, hQ => by
  show cmp (gp p a) (gp p (a - 1)) _ s
  refine hc _ _ _ _ (hp.lt (room_lt h2)) (hp.lt (room_pred h2)) hi fun s' hi' => ?_
  by_cases hd : K (gp p a) < K (gp p (a - 1))
  ·rw [decide_eq_true hd]
   exact hQ a s' (Nat.le_refl _) (Nat.le_add_right _ _) hu (fun _ => hd) hi'
  ·rw [decide_eq_false hd]
   exact asc_spec hc hK hp f (a + 1) s' (Nat.succ_pos a) (room_next h2) (hu.snoc (gt_of hd (key_ne hp hK (room_pred h2) (room_lt h2) (pred_ne h1)))) hi' fun m s'' a1 a2 a3 a4 a5 => hQ m s'' (Nat.le_of_succ_le a1) (room_up a2) a3 (fun h => a4 (room_down h)) a5
theorem desc_spec (hc : AskOK cmp K n Inv) (hK : KInj K n) {p : Array Nat} (hp : Pm n p) {Q : Array Nat × Nat × Nat -> Shared -> Prop} : ∀ (f a : Nat) (s : Shared), 1 ≤ a -> a + f ≤ n -> Dn K p a -> Inv s ->
  (∀ m s', a ≤ m -> m ≤ a + f -> Dn K p m -> Inv s' -> Q (p, m, 0) s') -> (kas_desc f p a 0).kasWp cmp Q s
 | 0, a, s, _, _, hu, hi, hQ => hQ a s (Nat.le_refl _) (Nat.le_refl _) hu hi
 | f + 1, a, s, h1, h2, hu, hi, hQ => by
  show cmp (gp p a) (gp p (a - 1)) _ s
  refine hc _ _ _ _ (hp.lt (room_lt h2)) (hp.lt (room_pred h2)) hi fun s' hi' => ?_
  by_cases hd : K (gp p a) < K (gp p (a - 1))
  ·rw [decide_eq_true hd]
   exact desc_spec hc hK hp f (a + 1) s' (Nat.succ_pos a) (room_next h2) (hu.snoc hd) hi' fun m s'' a1 a2 a3 a5 => hQ m s'' (Nat.le_of_succ_le a1) (room_up a2) a3 a5
  ·rw [decide_eq_false hd]
   show cmp (gp p (a - 1)) (gp p a) _ s'
   refine hc _ _ _ _ (hp.lt (room_pred h2)) (hp.lt (room_lt h2)) hi' fun s'' hi'' => ?_
   rw [decide_eq_true (gt_of hd (key_ne hp hK (room_pred h2) (room_lt h2) (pred_ne h1)))]
   exact hQ a s'' (Nat.le_refl _) (Nat.le_add_right _ _) hu hi''
theorem rev_spec {p : Array Nat} (hp : Pm n p) {m : Nat} (hm : m ≤ n) (h : Dn K p m) : Pm n (kas_rev p 0 m) ∧ Up K (kas_rev p 0 m) m := by
 have hs : m ≤ p.size := hp.size.symm ▸ hm
 refine ⟨hp.of (mirror_perm _ _ _ _), fun i j hij hj => ?_⟩
 have g : ∀ k, k < m -> gp (kas_rev p 0 m) k = gp p (m - 1 - k) := fun k hk => by
  rw [gp_get, gp_get]
  show ((mirror p 0 m ((m - 0) / 2))[k]?).getD 0 = _
  rw [getElem?_mirror_all hs, if_pos ⟨Nat.zero_le _, hk⟩, Nat.zero_add]
 rw [g i (Nat.lt_trans hij hj), g j hj]
 have hi : i < m - 1 := Nat.lt_of_lt_of_le hij (Nat.le_sub_one_of_lt hj)
 exact h _ _ (Nat.sub_lt_sub_left hi hij) (Nat.lt_of_le_of_lt (Nat.sub_le _ _) (Nat.sub_one_lt_of_lt hj))
theorem Up.one {p : Array Nat} : Up K p 1 := fun i j h1 h2 => absurd (Nat.lt_of_lt_of_le h1 (Nat.le_of_lt_succ h2)) (Nat.not_lt_zero i)
theorem Dn.two {p : Array Nat} (h : K (gp p 1) < K (gp p 0)) : Dn K p 2 := fun i j h1 h2 => by
 obtain rfl : j = 1 := Nat.le_antisymm (Nat.le_of_lt_succ h2) (Nat.succ_le_of_lt (Nat.zero_lt_of_lt h1))
 obtain rfl : i = 0 := Nat.eq_zero_of_le_zero (Nat.le_of_lt_succ h1)
 exact h
theorem count_spec (hc : AskOK cmp K n Inv) (hK : KInj K n) (h2 : 2 ≤ n) {p : Array Nat} (hp : Pm n p) {Q : Nat × Array Nat -> Shared -> Prop} {s} (hi : Inv s)
  (hQ : ∀ m p' s', 1 ≤ m -> m ≤ n -> Pm n p' -> Up K p' m -> Inv s' -> Q (m, p') s') : (kas_count n p).kasWp cmp Q s := by
 unfold kas_count
 rw [KasT.kasWp_bind]
 have hn : 1 + (n - 1) = n := Nat.add_sub_cancel' (Nat.le_of_succ_le h2)
 refine asc_spec hc hK hp (n - 1) 1 s (Nat.le_refl _) (Nat.le_of_eq hn) Up.one hi fun m s' h1 hm hu hl hi' => ?_
 rw [hn] at hm hl
 by_cases e : m = n
 ·subst e
  rw [beq_self_eq_true]
  exact hQ _ p s' h1 (Nat.le_refl _) hp hu hi'
 ·rw [beq_false_of_ne e]
  have hmn := Nat.lt_of_le_of_ne hm e
  by_cases e2 : m > 1
  ·rw [if_neg Bool.false_ne_true, if_pos e2]
   show cmp (gp p 0) (gp p (m - 1)) _ s'
   refine hc _ _ _ _ (hp.lt (Nat.lt_of_lt_of_le Nat.two_pos h2)) (hp.lt (Nat.lt_of_le_of_lt (Nat.sub_le m 1) hmn)) hi' fun s'' hi'' => ?_
   rw [decide_eq_true (hu 0 (m - 1) (Nat.sub_pos_of_lt e2) (Nat.sub_one_lt_of_lt h1))]
   exact hQ m p s'' h1 hm hp hu hi''
  ·rw [if_neg Bool.false_ne_true, if_neg e2]
   obtain rfl : m = 1 := Nat.le_antisymm (Nat.not_lt.mp e2) h1
   unfold kas_descPart
   rw [KasT.kasWp_bind]
   have hn2 : 1 + 1 + (n - (1 + 1)) = n := Nat.add_sub_cancel' h2
   refine desc_spec hc hK hp (n - (1 + 1)) (1 + 1) s' (Nat.succ_pos 1) (Nat.le_of_eq hn2) (Dn.two (hl hmn)) hi' fun m' s'' a1 a2 a3 a4 => ?_
   rw [if_neg (Nat.lt_irrefl 0)]
   rw [hn2] at a2
   unfold kas_tail3
   rw [KasT.kasWp_bind]
   obtain ⟨r1, r2⟩ := rev_spec hp a2 a3
   have hn3 := Nat.add_sub_cancel' a2
   have a1 := Nat.le_of_succ_le a1
   refine asc_spec hc hK r1 (n - m') m' s'' a1 (Nat.le_of_eq hn3) r2 a4 fun m2 s3 b1 b2 b3 b4 b5 => ?_
   exact hQ m2 _ s3 (Nat.le_trans a1 b1) (hn3 ▸ b2) r1 b3 b5
theorem half_lt {l r : Nat} (h : l < r) : (l + r) / 2 < r := Nat.div_lt_of_lt_mul (by rw [Nat.two_mul]; exact Nat.add_lt_add_right h r)
theorem half_ge {l r : Nat} (h : l ≤ r) : l ≤ (l + r) / 2 := (Nat.le_div_iff_mul_le Nat.two_pos).mpr (by rw [Nat.mul_two]; exact Nat.add_le_add_left h l)
theorem place_spec (hc : AskOK cmp K n Inv) (hK : KInj K n) {p : Array Nat} (hp : Pm n p) {k : Nat} (hk : k < n) (hu : Up K p k) {Q : Nat -> Shared -> Prop} : ∀ (f l r : Nat) (s : Shared), r ≤ l + f -> l ≤ r -> r ≤ k -> (∀ i, i < l -> K (gp p i) < K (gp p k)) -> (∀ i, r ≤ i -> i < k -> K (gp p k) < K (gp p i)) -> Inv s ->
  (∀ q s', q ≤ k -> (∀ i, i < q -> K (gp p i) < K (gp p k)) -> (∀ i, q ≤ i -> i < k -> K (gp p k) < K (gp p i)) -> Inv s' -> Q q s') -> (kas_place p k f l r).kasWp cmp Q s
 | 0, l, r, s, h1, h2, h3, h4, h5, hi, hQ => by
  obtain rfl : l = r := Nat.le_antisymm h2 h1
  exact hQ l s h3 h4 h5 hi
 | f + 1, l, r, s, h1, h2, h3, h4, h5, hi, hQ => by
  unfold kas_place
  by_cases e : l ≥ r
  ·rw [if_pos e]
   obtain rfl : l = r := Nat.le_antisymm h2 e
   exact hQ l s h3 h4 h5 hi
  ·rw [if_neg e]
   have e := Nat.lt_of_not_ge e
   have hh := half_lt e
   have hl := half_ge h2
   have hk' := Nat.lt_of_lt_of_le hh h3
   show cmp (gp p k) (gp p ((l + r) / 2)) _ s
   generalize (l + r) / 2 = c at *
   have hc' := Nat.lt_trans hk' hk
   refine hc _ _ _ _ (hp.lt hk) (hp.lt hc') hi fun s' hi' => ?_
   by_cases hd : K (gp p k) < K (gp p c)
   ·rw [decide_eq_true hd]
    refine place_spec hc hK hp hk hu f l c s' (Nat.le_of_lt_succ (Nat.lt_of_lt_of_le hh h1)) hl (Nat.le_of_lt hk') h4 (fun i a1 a2 => ?_) hi' hQ
    by_cases e2 : i = c
    ·rw [e2]; exact hd
    ·exact Int.lt_trans hd (hu c i (Nat.lt_of_le_of_ne a1 (Ne.symm e2)) a2)
   ·rw [decide_eq_false hd]
    have hg := gt_of hd (key_ne hp hK hc' hk (Nat.ne_of_lt hk'))
    refine place_spec hc hK hp hk hu f (c + 1) r s' (Nat.le_trans h1 ?_) hh h3 (fun i a1 => ?_) h5 hi' hQ
    ·rw [Nat.add_assoc, Nat.add_comm 1 f]
     exact Nat.add_le_add_right hl _
    by_cases e2 : i = c
    ·rw [e2]; exact hg
    ·exact Int.lt_trans (hu i c (lt_part a1 e2) hk') hg
theorem bubble_spec {p : Array Nat} (hp : Pm n p) {k q : Nat} (hk : k < n) (hu : Up K p k) (hq : q ≤ k) (h1 : ∀ i, i < q -> K (gp p i) < K (gp p k)) (h2 : ∀ i, q ≤ i -> i < k -> K (gp p k) < K (gp p i)) :
  Pm n (bubble p k (k - q)) ∧ Up K (bubble p k (k - q)) (k + 1) := by
 have hs : k < p.size := hp.size.symm ▸ hk
 refine ⟨hp.of (bubble_perm _ _ _), ?_⟩
 have g : ∀ i, gp (bubble p k (k - q)) i = if i = q then gp p k else if q < i ∧ i ≤ k then gp p (i - 1) else gp p i := fun i => by
  rw [gp_get, getElem?_bubble hs _ (Nat.sub_le k q), Nat.sub_sub_self hq]
  by_cases a : i = q
  ·rw [if_pos a, if_pos a, gp_get]
  ·rw [if_neg a, if_neg a]
   by_cases b : q < i ∧ i ≤ k
   ·rw [if_pos b, if_pos b, gp_get]
   ·rw [if_neg b, if_neg b, gp_get]
 have gq : gp (bubble p k (k - q)) q = gp p k := by rw [g, if_pos rfl]
 have gb : ∀ i, q < i -> i < k + 1 -> gp (bubble p k (k - q)) i = gp p (i - 1) := fun i a b => by rw [g, if_neg (Nat.ne_of_gt a), if_pos ⟨a, Nat.le_of_lt_succ b⟩]
 have ga : ∀ i, i < q -> gp (bubble p k (k - q)) i = gp p i := fun i a => by rw [g, if_neg (Nat.ne_of_lt a), if_neg fun h => Nat.lt_asymm a h.1]
 have pk : ∀ j, q < j -> j < k + 1 -> j - 1 < k := fun j a b => Nat.lt_of_lt_of_le (Nat.sub_one_lt_of_lt a) (Nat.le_of_lt_succ b)
 intro i j hij hj
 rcases Nat.lt_trichotomy i q with a | a | a
 ·rw [ga i a]
  rcases Nat.lt_trichotomy j q with c | c | c
  ·rw [ga j c]
   exact hu _ _ hij (Nat.lt_of_lt_of_le c hq)
  ·rw [c, gq]
   exact h1 _ a
  ·rw [gb j c hj]
   exact hu _ _ (Nat.lt_of_lt_of_le a (Nat.le_sub_one_of_lt c)) (pk j c hj)
 ·rw [a] at hij ⊢
  rw [gq, gb j hij hj]
  exact h2 _ (Nat.le_sub_one_of_lt hij) (pk j hij hj)
 ·have c := Nat.lt_trans a hij
  rw [gb i a (Nat.lt_trans hij hj), gb j c hj]
  exact hu _ _ (Nat.sub_lt_sub_right (Nat.succ_le_of_lt (Nat.zero_lt_of_lt a)) hij) (pk j c hj)
theorem bin_spec (hc : AskOK cmp K n Inv) (hK : KInj K n) {Q : Array Nat -> Shared -> Prop} (hQ : ∀ p s', Pm n p -> Up K p n -> Inv s' -> Q p s') : ∀ (f k : Nat) (p : Array Nat) (s : Shared), k + f = n -> Pm n p -> Up K p k -> Inv s -> (kas_bin f p k).kasWp cmp Q s
 | 0, k, p, s, h, hp, hu, hi => by
  obtain rfl : k = n := h
  exact hQ p s hp hu hi
 | f + 1, k, p, s, h, hp, hu, hi => by
  show ((kas_place p k k 0 k).bind fun l => kas_bin f (bubble p k (k - l)) (k + 1)).kasWp cmp Q s
  rw [KasT.kasWp_bind]
  have hk : k < n := room_lt (Nat.le_of_eq h)
  refine place_spec hc hK hp hk hu k 0 k s (Nat.le_add_left _ _) (Nat.zero_le _) (Nat.le_refl _) (fun i a => absurd a (Nat.not_lt_zero i)) (fun i a b => absurd a (Nat.not_le_of_lt b)) hi fun q s' a1 a2 a3 a4 => ?_
  obtain ⟨b1, b2⟩ := bubble_spec hp hk hu a1 a2 a3
  exact bin_spec hc hK hQ f (k + 1) _ s' (by rw [← h, Nat.add_assoc, Nat.add_comm 1 f]) b1 b2 a4
theorem sort_spec (hc : AskOK cmp K n Inv) (hK : KInj K n) (h2 : 2 ≤ n) {Q : Array Nat -> Shared -> Prop} {s} (hi : Inv s) (hQ : ∀ p s', Pm n p -> Up K p n -> Inv s' -> Q p s') : (kas_sort n).kasWp cmp Q s := by
 unfold kas_sort
 rw [KasT.kasWp_bind]
 refine count_spec hc hK h2 (Pm.range n) hi fun m p' s' a1 a2 a3 a4 a5 => ?_
 by_cases e : m < n
 ·rw [if_pos e, Nat.max_eq_left a1]
  exact bin_spec hc hK hQ _ _ _ _ (Nat.add_sub_cancel' a2) a3 a4 a5
 ·rw [if_neg e]
  obtain rfl : m = n := Nat.le_antisymm a2 (Nat.not_lt.mp e)
  exact hQ p' s' a3 a4 a5
end
noncomputable def cmp1 (d e : D) : Option (Bool × Option Bool) := orO (onI (fun a => onI (fun b => some (a == b, some (decide (a < b)))) e) d)
 (orO (onB (fun a => onB (fun b => some (a == b, some (!a && b))) e) d) (onP noV noV (fun a => onP noV noV (fun b => some (a == b, none)) e) d))
noncomputable def cmpRest : List D -> List D -> Option Bool
 | [], t => onNil (some false) t
 | d :: r, t => on0s none (fun e t => (cmp1 d e).bind fun p => cond p.1 (cmpRest r t) p.2) t
noncomputable def keyLt (d e : D) : Option Bool := onLT noV (fun ds => onLT noV (fun es => gd (Nat.beq ds.length es.length)
 (on0s none (fun a r => on0s none (fun b t => onI (fun a => onI (fun b => cond (a == b) (cmpRest r t) (some (decide (a < b)))) b) a) es) ds)) e) d
noncomputable def keyI (d : D) : Option Int := onLT noV (on0s none fun a _ => onI some a) d
noncomputable def isKey (d : D) : Bool := (keyI d).isSome
theorem keyI_ok {d} : Sat (fun x => ∃ rest, d = .tup (.int x :: rest)) (keyI d) :=
 Sat.onLTx (P := fun d x => ∃ rest, d = .tup (.int x :: rest)) (fun _ => .none) (fun l => Sat.on0s (P := fun l x => ∃ rest, D.tup l = .tup (.int x :: rest)) .none (fun a r => Sat.onIx (P := fun a x => ∃ rest, D.tup (a :: r) = .tup (.int x :: rest)) (fun i => .some ⟨r, rfl⟩) a) l) d
section
variable {prog : Program} {w : World} {A : Around} {E : Value -> Shared -> Prop} {s : Shared} {b : Bool} {Q : Bool -> Shared -> Prop} {led : Led}
noncomputable def C1 (A : Around) (s : Shared) (led : Led) (d e : D) (p : Bool × Option Bool) : Prop := ∀ v u, R led d v -> R led e u -> EqAt A s v u p.1 ∧
 (p.1 = false -> ∀ c, p.2 = some c -> ∀ (prog : Program) (w : World) (Q : Bool -> Shared -> Prop), Q c s -> wpAny (model prog w) A (oneLt' false v u) Q (fun _ _ => False) s)
theorem lt_b2i : ∀ a b : Bool, decide (b2i a < b2i b) = (!a && b) := by decide
theorem cmp1_ok {d e} : Sat (C1 A s led d e) (cmp1 d e) :=
 .orO (Sat.onI (P := fun x => d = x) (fun a ha => Sat.onI (P := fun x => e = x) (fun c hc => .some (by
   subst ha hc
   intro v u rv ru
   obtain ⟨tx, rfl⟩ := zS rv
   obtain ⟨ty, rfl⟩ := zS ru
   exact ⟨EqAt.int_int a tx c ty, fun _ k hk prog w Q hq => kat_one _ _ (lt_int (Option.some.inj hk ▸ hq))⟩)) e rfl) d rfl)
  (.orO (Sat.onB (P := fun x => d = x) (fun a ha => Sat.onB (P := fun x => e = x) (fun c hc => .some (by
   subst ha hc
   intro v u rv ru
   obtain rfl := zBd rv
   obtain rfl := zBd ru
   exact ⟨EqAt.bool_bool a c, fun _ k hk prog w Q hq => kat_one _ _ (Rows.lt_bool (show Q _ s from (lt_b2i a c).symm ▸ Option.some.inj hk ▸ hq))⟩)) e rfl) d rfl)
   (Sat.onP (P := fun x => d = x) (fun _ _ => .none) (fun _ _ => .none) (fun a ha => Sat.onP (P := fun x => e = x) (fun _ _ => .none) (fun _ _ => .none) (fun c hc => .some (by
    subst ha hc
    intro v u rv ru
    obtain ⟨tx, rfl⟩ := zBz rv
    obtain ⟨ty, rfl⟩ := zBz ru
    exact ⟨EqAt.bytes_bytes a.toArray c.toArray tx ty, fun _ k hk => (nnE hk).elim⟩)) e rfl) d rfl))
theorem bi0 {b : Bool} {i : Nat} (h : 0 < i) : (b && i == 0) = false := by
 cases i with
 | zero => exact absurd h (Nat.lt_irrefl 0)
 | succ => exact Bool.and_false b
theorem lex_rest : ∀ {r t vs us} {i : Nat} {c : Bool}, 0 < i -> Rs led r vs -> Rs led t us -> cmpRest r t = some c -> Q c s -> KatLex prog w A b false Q (vs.zip us) i s
 | [], [], vs, us, i, c, hi, rv, ru, h, hq => by
  obtain rfl : _ = [] := rv
  cases h
  exact kat_nil hq
 | [], _ :: _, _, _, _, _, _, _, _, h, _ => by cases h
 | _ :: _, [], _, _, _, _, _, _, _, h, _ => by cases h
 | d :: r, e :: t, vs, us, i, c, hi, rv, ru, h, hq => by
  obtain ⟨v, vs, rfl, r1, r2⟩ := rv
  obtain ⟨u, us, rfl, u1, u2⟩ := ru
  obtain ⟨p, hp, hc⟩ := Option.bind_eq_some_iff.mp h
  obtain ⟨q1, q2⟩ := cmp1_ok p hp v u r1 u1
  refine kat_cons (q1 prog w _ _ (kat_go (fun e => kat_yes ?_) fun e => kat_no ?_))
  ·rw [e] at hc
   exact lex_rest (Nat.succ_pos _) r2 u2 hc hq
  ·rw [e] at hc
   rw [bi0 hi]
   exact q2 e c hc prog w Q hq
noncomputable def KL (prog : Program) (w : World) (A : Around) (E : Value -> Shared -> Prop) (s : Shared) (led : Led) (x y : D) (c : Bool) : Prop := ∀ vx vy, R led x vx -> R led y vy -> ∀ Q : Bool -> Shared -> Prop, Q c s -> wpAny (model prog w) A (keyLt' (tuples' true) vx vy) Q E s
theorem key_lt2 (H : ∀ p ∈ led, s.heap.get? p.1 = some p.2) {a b : Int} {r t} (hl : Nat.beq r.length t.length = true) : Sat (KL prog w A E s led (.tup (.int a :: r)) (.tup (.int b :: t))) (cond (a == b) (cmpRest r t) (some (decide (a < b)))) := fun c h vx vy rx ry Q hq => by
 obtain ⟨l, vs, rfl, m1, r1⟩ := rx
 obtain ⟨k, us, rfl, m2, r2⟩ := ry
 obtain ⟨v, vs, rfl, a1, a2⟩ := r1
 obtain ⟨u, us, rfl, b1, b2⟩ := r2
 obtain ⟨tv, rfl⟩ := zS a1
 obtain ⟨tu, rfl⟩ := zS b1
 refine kat_lt (H _ m1) rfl (H _ m2) rfl ?_
 have hl2 : vs.length = us.length := (Rs.length a2).symm.trans ((Nat.eq_of_beq_eq_true hl).trans (Rs.length b2))
 rw [show decide ((Value.int a tv :: vs).toArray.size < (Value.int b tu :: us).toArray.size) = false from decide_eq_false (by
  show ¬ vs.length + 1 < us.length + 1
  rw [hl2]
  exact Nat.lt_irrefl _)]
 show KatLex prog w A true false Q ((.int a tv, .int b tu) :: vs.zip us) 0 s
 refine kat_cons (EqAt.int_int a tv b tu prog w _ _ (kat_go (fun e => kat_yes ?_) fun e => kat_no ?_))
 ·rw [e] at h
  exact lex_rest (Nat.succ_pos _) a2 b2 h hq
 ·rw [e] at h
  exact oneLt_int (Option.some.inj h ▸ hq)
theorem key_lt1 (H : ∀ p ∈ led, s.heap.get? p.1 = some p.2) {x y} : Sat (KL prog w A E s led x y) (keyLt x y) :=
 Sat.onLTx (P := fun x => KL prog w A E s led x y) (fun _ => .none) (fun ds => Sat.onLTx (P := KL prog w A E s led (.tup ds)) (fun _ => .none) (fun es => .gd fun hl c h =>
  Sat.on0s (P := fun ds c => Nat.beq ds.length es.length = true -> KL prog w A E s led (.tup ds) (.tup es) c) .none (fun a r =>
   Sat.on0s (P := fun es c => Nat.beq (r.length + 1) es.length = true -> KL prog w A E s led (.tup (a :: r)) (.tup es) c) .none (fun b t =>
    Sat.onIx (P := fun a c => Nat.beq (r.length + 1) (t.length + 1) = true -> KL prog w A E s led (.tup (a :: r)) (.tup (b :: t)) c) (fun a =>
     Sat.onIx (P := fun b c => Nat.beq (r.length + 1) (t.length + 1) = true -> KL prog w A E s led (.tup (.int a :: r)) (.tup (b :: t)) c) (fun b c h hl => key_lt2 H hl c h) b) a) es) ds c h hl) y) x
theorem key_lt {x y vx vy} {c : Bool} (H : ∀ p ∈ led, s.heap.get? p.1 = some p.2) (rx : R led x vx) (ry : R led y vy) (h : keyLt x y = some c) (hq : Q c s) : wpAny (model prog w) A (keyLt' (tuples' true) vx vy) Q E s := key_lt1 H c h vx vy rx ry Q hq
end
inductive SortOK (ks ds outs : List D) : Prop
 | mk (K : Nat -> Int) : KInj K ks.length -> (∀ i j, i < ks.length -> j < ks.length -> keyLt (ks.getD i .none) (ks.getD j .none) = some (decide (K i < K j))) -> ks.all isKey = true -> ks.length = ds.length ->
  (∀ p, Pm ks.length p -> Up K p ks.length -> outs = p.toList.map fun i => ds.getD i .none) -> SortOK ks ds outs
theorem rs_getD {led ds vs} (r : Rs led ds vs) {i : Nat} (h : i < ds.length) : R led (ds.getD i .none) (vs.getD i .none) := by
 have hd : ds[i]? = some ds[i] := List.getElem?_eq_getElem h
 obtain ⟨v, e, rv⟩ := Rs.get r hd
 rw [List.getD_eq_getElem?_getD, List.getD_eq_getElem?_getD, hd, e]
 exact rv
theorem rs_map {led ds vs} (r : Rs led ds vs) : ∀ {p : List Nat}, (∀ i ∈ p, i < ds.length) -> Rs led (p.map fun i => ds.getD i .none) (p.map fun i => vs.getD i Value.none)
 | [], _ => Rs.nil
 | i :: p, h => Rs.cons (rs_getD r (h i (.head _))) (rs_map r fun j hj => h j (.tail _ hj))
theorem pm_lt {n : Nat} {p : Array Nat} (h : Pm n p) : ∀ i ∈ p.toList, i < n := fun i hi => by
 have := h.mem_iff.mp hi
 simpa using this
section
variable {prog : Program} {w : World} {A : Around} {E : Value -> Shared -> Prop} {s : Shared} {led : Led}
theorem kind_keys {M : Model} {ks vs} {Q : SortKind -> Shared -> Prop} (H : ∀ p ∈ led, s.heap.get? p.1 = some p.2) (r : Rs led ks vs) (hk : ks.all isKey = true) (hne : 0 < ks.length) (h : Q (tuples' true) s) : wpAny M A (keyKind' vs.toArray) Q E s := by
 have key : ∀ {ks vs}, Rs led ks vs -> ks.all isKey = true -> ∃ fs, KatTups s.heap vs fs ∧ fs.length = ks.length ∧ ∀ v ∈ fs, ∃ i t, v = Value.int i t := by
  intro ks
  induction ks with
  | nil => intro vs r _; obtain rfl : _ = [] := r; exact ⟨[], KatTups.nil, rfl, fun v hv => by cases hv⟩
  | cons d ks ih =>
   intro vs r hk
   obtain ⟨v, vs, rfl, r1, r2⟩ := r
   simp only [List.all_cons, Bool.and_eq_true] at hk
   obtain ⟨fs, a, b, c⟩ := ih r2 hk.2
   obtain ⟨x, hx⟩ := Option.isSome_iff_exists.mp hk.1
   obtain ⟨rest, rfl⟩ := keyI_ok x hx
   obtain ⟨l, us, rfl, m1, q⟩ := r1
   obtain ⟨f, us, rfl, f1, f2⟩ := q
   obtain ⟨t, rfl⟩ := zS f1
   exact ⟨.int x t :: fs, KatTups.cons (H _ m1) rfl rfl (by simp) a, by simp [b], fun v hv => by
    rcases List.mem_cons.mp hv with rfl | hv
    ·exact ⟨_, _, rfl⟩
    ·exact c v hv⟩
 obtain ⟨fs, a, b, c⟩ := key r hk
 refine kat_kind (T := .type "int") a (by lia) (fun v hv => ?_) rfl h
 obtain ⟨i, t, rfl⟩ := c v hv
 exact Looks.of_pure rfl
theorem ask_keys {ks vs} {K : Nat -> Int} (H : ∀ p ∈ led, s.heap.get? p.1 = some p.2) (r : Rs led ks vs) (hK : ∀ i j, i < ks.length -> j < ks.length -> keyLt (ks.getD i .none) (ks.getD j .none) = some (decide (K i < K j))) :
  AskOK (kas_ask prog w A (tuples' true) vs) K ks.length (fun s' => s' = s) := by
 rintro i j C s' hi hj rfl hC
 exact key_lt H (rs_getD r hi) (rs_getD r hj) (hK i j hi hj) (hC _ rfl)
theorem tree_keys {ks ds outs vs us} {Q : List Value -> Shared -> Prop} {E'} (H : ∀ p ∈ led, s.heap.get? p.1 = some p.2) (r : Rs led ks vs) (r2 : Rs led ds us) (hs : SortOK ks ds outs) (h2 : 2 ≤ ks.length)
  (h : ∀ out, Rs led outs out -> out.length = ds.length -> Q out s) :
  wpAny (model prog w) A (keyKind' vs.toArray) (fun κ s' => (kas_sort ks.length).kasWp (kas_ask prog w A κ vs) (fun p s'' => Q (p.toList.map fun i => us.getD i Value.none) s'') s') E' s := by
 obtain ⟨K, k1, k2, k3, k4, k5⟩ := hs
 refine kind_keys H r k3 (by lia) ?_
 refine sort_spec (ask_keys H r k2) k1 h2 rfl fun p s' hp hu hs => ?_
 subst hs
 have := rs_map (p := p.toList) r2 (by rw [← k4]; exact pm_lt hp)
 rw [← k5 p hp hu] at this
 exact h _ this (by rw [List.length_map, ← k4, hp.length_eq, List.length_range])
end
theorem St.madeList {env h₀ L h h' m ρ ko led news} {a} {vs : Array Value} {c : Nat} (S : St env h₀ L h m ρ ko led news) (F : Fr h₀ L h' m) (N : News h₀ L h' ((a, listOf vs c) :: news)) (hn : ∀ p ∈ news, p.1 ≠ a) :
  St env h₀ L h' m ρ ko led ((a, listOf vs c) :: news) ∧ (∃ mm, Locs env L m ρ ko led ((a, listOf vs c) :: news) mm ∧ Apart ρ mm a) ∧ a ∉ keyL led ∧ a ∉ keyL ko := by
 have nd : (keyL ([(a, listOf vs c)] ++ news)).Nodup := by
  show (a :: keyL news).Nodup
  refine List.nodup_cons.mpr ⟨fun hm => ?_, S.nd⟩
  obtain ⟨p, hp, e⟩ := List.mem_map.mp hm
  exact hn p hp e
 refine ⟨S.apart (new := [(a, listOf vs c)]) F N nd, ?_, S.sp.not_led hn, S.sp.not_ko hn⟩
 obtain ⟨mm, X⟩ := S.loc
 refine ⟨mm, ⟨X.lc, fun x lv e => ?_, X.inj⟩, apart_ne S.kon X hn⟩
 obtain ⟨v, V, O, k⟩ := X.at' x lv e
 exact ⟨v, V, O.mono (fun p hp => hp) (fun a o hm hn _ _ => ⟨.tail _ hm, hn⟩), k⟩
section
variable {prog : Program} {w : World} {A : Around} {E : Value -> Shared -> Prop} {s : Shared} {h₀ : Heap} {L a kS : Addr} {m : Str -> Option Value} {news : Led} {vs ks : List Value}
theorem zCk {n : Nat} (h : n < 64) : n ≤ sizeLine := by
 rw [sizeLine_eq]
 exact Nat.le_trans (Nat.le_of_lt h) (by decide)
theorem lt2 {n : Nat} (h : n < 2) : n < 64 := Nat.lt_trans h (by decide)
theorem mk_snd (κ : SortKind) {xs ys : List Value} (h : xs.length = ys.length) : (arrOf (SortSt.mk' κ (xs.toArray.zip ys.toArray) #[] 7 none)).map (·.2) = ys.toArray := by
 show (xs.toArray.zip ys.toArray).map (·.2) = _
 apply Array.toList_inj.mp
 rw [Array.toList_map, Array.toList_zip]
 show List.map (·.2) (xs.zip ys) = ys
 exact List.map_snd_zip (Nat.le_of_eq h.symm)
theorem list_sort_short {n : Nat} {P : PySem.Fin -> Shared -> Prop} (F : Fr h₀ L s.heap m) (N : News h₀ L s.heap news) (ho : s.heap.get? a = some (seqObj "list" vs.toArray n)) (haL : a ≠ L) (ha0 : h₀.get? a = none) (hna : ∀ p ∈ news, p.1 ≠ a) (h2 : vs.length < 2)
  (h : ∀ c h', Fr h₀ L h' m -> News h₀ L h' ((a, listOf vs.toArray c) :: news) -> P (.done (.ret .none)) { s with heap := h' }) : wpAny (model prog w) A (Builtin.«list.sort» ⟨[.ref a], []⟩) P E s := by
 have s1 := Heap.SameBut.update s.heap a (Obj.mapSeq fun _ => (#[] : Array Value))
 obtain ⟨e1, ho1⟩ : ∃ e1, (s.heap.update a (Obj.mapSeq fun _ => (#[] : Array Value))).get? a = some (seqObj "list" #[] e1) := ⟨_, get?_update_seq ho fun _ => #[]⟩
 have F3 : Fr h₀ L (((s.heap.update a (Obj.mapSeq fun _ => (#[] : Array Value))).push (seqObj "tuple" vs.toArray 0)).push (seqObj "list" #[] 0)) m := ((kas_fr F s1 haL ha0).push _).push _
 have N2 : News h₀ L (((s.heap.update a (Obj.mapSeq fun _ => (#[] : Array Value))).push (seqObj "tuple" vs.toArray 0)).push (seqObj "list" #[] 0)) news := (kas_news N s1 hna).grown fun b x e => Heap.get?_push_of_some _ (Heap.get?_push_of_some _ e)
 have ho3 : (((s.heap.update a (Obj.mapSeq fun _ => (#[] : Array Value))).push (seqObj "tuple" vs.toArray 0)).push (seqObj "list" #[] 0)).get? a = some (seqObj "list" #[] e1) := Heap.get?_push_of_some _ (Heap.get?_push_of_some _ ho1)
 rw [list_sort_plain]
 refine wpAny_bind (listItems_at ho rfl ?_)
 refine wpAny_bind (listUpdate_at ho rfl ?_ (zCk (lt2 h2)) (Nat.zero_le _))
 refine wpAny_bind (seqEpoch_at ho1 rfl ?_)
 refine wpAny_bind (wpAny_newTuple ?_ (zCk (lt2 h2)))
 refine wpAny_bind (wpAny_newList ?_ (Nat.zero_le _))
 refine wpAny_holding ?_
 show wpAny (model prog w) A _ P E { s with heap := ((s.heap.update a (Obj.mapSeq fun _ => (#[] : Array Value))).push (seqObj "tuple" vs.toArray 0)).push (seqObj "list" #[] 0) }
 generalize ((s.heap.update a (Obj.mapSeq fun _ => (#[] : Array Value))).push (seqObj "tuple" vs.toArray 0)).push (seqObj "list" #[] 0) = H at *
 dsimp only
 have hn2 : vs.toArray.size < 2 := h2
 rw [if_pos hn2, if_pos hn2]
 refine wpAny_bind (wpAny_pure ?_)
 rw [StateT.run_pure]
 refine wpAny_bind (wpAny_pure ?_)
 dsimp only
 rw [mk_snd general' rfl]
 have s2 := Heap.SameBut.update H a (Obj.mapSeq fun _ => vs.toArray)
 obtain ⟨c2, hc2⟩ : ∃ c2, (H.update a (Obj.mapSeq fun _ => vs.toArray)).get? a = some (seqObj "list" vs.toArray c2) := ⟨_, get?_update_seq ho3 fun _ => vs.toArray⟩
 refine wpAny_bind (seqEpoch_at ho3 rfl ?_)
 refine wpAny_bind (listUpdate_at ho3 rfl ?_ (Nat.zero_le _) (Nat.le_succ_of_le (zCk (lt2 h2))))
 simp only [bne_self_eq_false, Bool.false_eq_true, if_false]
 refine wpAny_pure (h c2 _ (kas_fr F3 s2 haL ha0) fun p hp => ?_)
 rcases List.mem_cons.mp hp with rfl | hp
 ·exact ⟨hc2, haL, ha0⟩
 ·exact kas_news N2 s2 hna p hp
theorem ksk_end_short {e e1 : Nat} {P : PySem.Fin -> Shared -> Prop} (hl : ks.length = vs.length) (h2 : vs.length < 2) (h : KatFin h₀ L m kS a ks e e1 vs (fun s' => P (.done (.ret .none)) s') s) :
  wpAny (model prog w) A (ksk_end a false vs.toArray e1 (.ref kS) (List.toArray ks)) P E s := by
 have hn2 : vs.toArray.size < 2 := h2
 unfold ksk_end
 try dsimp only
 rw [if_pos hn2, if_pos hn2]
 show wpAny (model prog w) A (do let kind ← (pure general' : Sem SortKind); _) _ _ _
 refine wpAny_bind (wpAny_pure ?_)
 rw [StateT.run_pure]
 refine wpAny_bind (wpAny_pure ?_)
 try dsimp only
 exact kat_tail (b := false) (out := vs) (mk_snd general' hl) (lt2 h2) (Nat.lt_of_le_of_lt (Nat.le_of_eq hl) (lt2 h2)) rfl h
theorem ksk_rest_short {f} {e1 : Nat} {P : PySem.Fin -> Shared -> Prop} (hk : s.heap.get? kS = some (seqObj "list" #[] 0)) (h2 : vs.length < 2)
  (h : KatKeys prog w A h₀ L m kS f (fun ks e s' => KatFin h₀ L m kS a ks e e1 vs (fun s4 => P (.done (.ret .none)) s4) s') vs [] 0 s) :
  wpAny (model prog w) A (ksk_rest a f false vs.toArray e1 (.ref kS)) P E s := by
 unfold ksk_rest
 refine wpAny_bind (wpAny_rule ?_)
 first
  | rw [List.forIn_toArray]
  | (rw [← Array.forIn_toList]; simp only [List.toList_toArray])
  | rw [← Array.forIn_toList]
 refine wpAny_bind (wpAny_mono (kat_fold (n := vs.length) (lt2 h2) (fun x ks e s' C hz hx => ?_) vs [] 0 s (by simp) hk h) (fun _ s' hd => ?_) fun _ _ x => x)
 ·refine wpAny_bind (wpAny_attempt (wpAny_mono hx (fun k s'' hk => ?_) fun _ _ hF => hF.elim))
  obtain ⟨news', g, F', N', U, c⟩ := hk
  obtain ⟨pre, post, e0, hg, x1, x2⟩ := U.split
  rw [e0] at N'
  have nk := N' (kS, seqObj "list" (List.toArray ks) e) (List.mem_append_right _ (.head _))
  have s1 := Heap.SameBut.update s''.heap kS (Obj.mapSeq (·.push k))
  have ea : (List.toArray ks).push k = List.toArray (ks ++ [k]) := by simp
  obtain ⟨c2, hc2⟩ : ∃ c2, (s''.heap.update kS (Obj.mapSeq (·.push k))).get? kS = some (seqObj "list" (List.toArray (ks ++ [k])) c2) := ⟨_, by rw [← ea]; exact get?_update_seq nk.1 (·.push k)⟩
  try dsimp only
  refine wpAny_bind (listUpdate_at nk.1 rfl ?_ (by rw [List.size_toArray, sizeLine_eq]; lia) (Nat.le_trans (Nat.le_of_eq (Array.size_push ..)) (by rw [List.size_toArray, sizeLine_eq]; lia)))
  exact wpAny_pure ⟨rfl, k, c2, hc2, c _ c2 (kas_fr F' s1 nk.2.1 nk.2.2) (by rw [hg]; exact news_set N' x1 x2 s1 hc2)⟩
 ·obtain ⟨ks, e, hk', hl, fin⟩ := hd
  try dsimp only
  refine wpAny_bind (listItems_at hk' rfl ?_)
  exact ksk_end_short hl h2 fin
theorem ksk_tree_short {f} {n : Nat} {P : PySem.Fin -> Shared -> Prop} (F : Fr h₀ L s.heap m) (N : News h₀ L s.heap news) (ho : s.heap.get? a = some (seqObj "list" vs.toArray n)) (haL : a ≠ L) (ha0 : h₀.get? a = none) (hna : ∀ p ∈ news, p.1 ≠ a) (h2 : vs.length < 2)
  (h : ∀ kS e1 h', Fr h₀ L h' m -> News h₀ L h' ((kS, seqObj "list" #[] 0) :: (a, seqObj "list" #[] e1) :: news) -> a < kS -> (∀ q ∈ news, q.1 < kS) ->
   KatKeys prog w A h₀ L m kS f (fun ks e s' => KatFin h₀ L m kS a ks e e1 vs (fun s4 => P (.done (.ret .none)) s4) s') vs [] 0 { s with heap := h' }) :
  wpAny (model prog w) A (ksk_tree a f false) P E s := by
 have ha : a < s.heap.objs.size := Heap.lt_size ho
 have s1 := Heap.SameBut.update s.heap a (Obj.mapSeq fun _ => (#[] : Array Value))
 obtain ⟨e1, ho1⟩ : ∃ e1, (s.heap.update a (Obj.mapSeq fun _ => (#[] : Array Value))).get? a = some (seqObj "list" #[] e1) := ⟨_, get?_update_seq ho fun _ => #[]⟩
 have F1 := kas_fr F s1 haL ha0
 have N1 := kas_news N s1 hna
 have hkS : ((s.heap.update a (Obj.mapSeq fun _ => (#[] : Array Value))).push (seqObj "tuple" vs.toArray 0)).objs.size = s.heap.objs.size + 1 := by rw [size_push', Heap.size_update]
 have hLk : L < ((s.heap.update a (Obj.mapSeq fun _ => (#[] : Array Value))).push (seqObj "tuple" vs.toArray 0)).objs.size := (F1.push _).ns.lt
 unfold ksk_tree
 refine wpAny_bind (listItems_at ho rfl ?_)
 refine wpAny_bind (listUpdate_at ho rfl ?_ (zCk (lt2 h2)) (Nat.zero_le _))
 refine wpAny_bind (seqEpoch_at ho1 rfl ?_)
 refine wpAny_bind (wpAny_newTuple ?_ (zCk (lt2 h2)))
 refine wpAny_bind (wpAny_newList ?_ (Nat.zero_le _))
 refine wpAny_holding ?_
 refine ksk_rest_short (s := { s with heap := ((s.heap.update a (Obj.mapSeq fun _ => (#[] : Array Value))).push (seqObj "tuple" vs.toArray 0)).push (seqObj "list" #[] 0) }) (kS := ((s.heap.update a (Obj.mapSeq fun _ => (#[] : Array Value))).push (seqObj "tuple" vs.toArray 0)).objs.size)
  (Heap.get?_push_size _ rfl) h2 (h _ e1 _ ((F1.push _).push _) (fun p hp => ?_) (by rw [hkS]; exact Nat.lt_succ_of_lt ha) fun q hq => by rw [hkS]; exact Nat.lt_succ_of_lt (Heap.lt_size (N q hq).1))
 rcases List.mem_cons.mp hp with rfl | hp
 ·exact ⟨Heap.get?_push_size _ rfl, Nat.ne_of_gt hLk, Heap.get?_none_of_le (Nat.le_trans F.above (Nat.le_of_lt hLk))⟩
 ·rcases List.mem_cons.mp hp with rfl | hp
  ·exact ⟨Heap.get?_push_of_some _ (Heap.get?_push_of_some _ ho1), haL, ha0⟩
  ·exact ⟨Heap.get?_push_of_some _ (Heap.get?_push_of_some _ (N1 p hp).1), (N1 p hp).2⟩
theorem sorted_shell {l} {kw : List (Str × Value)} {Q} (F : Fr h₀ L s.heap m) (N : News h₀ L s.heap news) (hl : s.heap.IsList l vs.toArray) (h64 : vs.length < 64) (ha1 : argsOk "sorted" ⟨[.ref l], kw⟩) (ha2 : ∀ x, argsOk "list.sort" ⟨[.ref x], kw⟩)
  (h : ∀ D H, D ≠ L -> h₀.get? D = none -> (∀ q ∈ news, q.1 < D) -> Fr h₀ L H m -> News h₀ L H news -> H.get? D = some (seqObj "list" vs.toArray 0) -> ∀ P : PySem.Fin -> Shared -> Prop, (∀ s3, Q (.ref D) s3 -> P (.done (.ret .none)) s3) ->
   wpAny (model prog w) A.in1.in1 (Builtin.«list.sort» ⟨[.ref D], kw⟩) P E { s with heap := H }) :
  wpAny (model prog w) A (call (.builtin "sorted") [.ref l] kw) Q E s := by
 refine call_function_entry_kw kind_sorted plain_sorted entry_sorted ha1 ?_
 unfold Builtin.«sorted»
 refine wpAny_bind (m := checkCount "sorted" 1 1 _) (wpAny_pure ?_)
 refine wpAny_bind (collect_list hl ?_ (zCk h64))
 refine wpAny_bind (wpAny_newList ?_ (zCk h64))
 have hsz : ((s.heap.push (seqObj "list" #[] 0)).update s.heap.objs.size (Obj.mapSeq (· ++ vs.toArray))).objs.size = s.heap.objs.size + 1 := by rw [Heap.size_update, size_push']
 have hoL : (((s.heap.push (seqObj "list" #[] 0)).update s.heap.objs.size (Obj.mapSeq (· ++ vs.toArray))).push (seqObj "list" vs.toArray 0)).get? (s.heap.objs.size + 1) = some (seqObj "list" vs.toArray 0) := by rw [← hsz]; exact Heap.get?_push_size _ rfl
 have keep : ∀ b o, s.heap.get? b = some o -> (((s.heap.push (seqObj "list" #[] 0)).update s.heap.objs.size (Obj.mapSeq (· ++ vs.toArray))).push (seqObj "list" vs.toArray 0)).get? b = some o := fun b o q => by
  have hlt : b < s.heap.objs.size := Heap.lt_size q
  rw [Heap.get?_push_ne _ _ _ (by rw [hsz]; exact Nat.ne_of_lt (Nat.lt_succ_of_lt hlt)), Heap.get?_update_ne _ _ _ _ (Nat.ne_of_lt hlt), Heap.get?_push_ne _ _ _ (Nat.ne_of_lt hlt)]
  exact q
 have hL : L < s.heap.objs.size := F.ns.lt
 show wpAny _ _ _ _ _ { s with heap := ((s.heap.push (seqObj "list" #[] 0)).update s.heap.objs.size (Obj.mapSeq (· ++ vs.toArray))).push (seqObj "list" vs.toArray 0) }
 rw [hsz]
 refine wpAny_bind (wpAny_holding (wpAny_call_entry_kw slot_list_sort ⟨_, hoL, rfl⟩ entry_list_sort ?body (ha2 _)))
 case body =>
  exact h _ _ (Nat.ne_of_gt (Nat.lt_succ_of_lt hL)) (Heap.get?_none_of_le (Nat.le_trans F.above (Nat.le_succ_of_le (Nat.le_of_lt hL)))) (fun q hq => Nat.lt_succ_of_lt (Heap.lt_size (N q hq).1)) (F.kept keep) (N.grown keep) hoL _ fun s3 hq => ⟨_, rfl, wpAny_pure ⟨_, rfl, hq⟩⟩
theorem sorted_short {l Q} (F : Fr h₀ L s.heap m) (N : News h₀ L s.heap news) (hl : s.heap.IsList l vs.toArray) (h2 : vs.length < 2)
  (h : ∀ D c h', Fr h₀ L h' m -> News h₀ L h' ((D, listOf vs.toArray c) :: news) -> (∀ q ∈ news, q.1 < D) -> Q (.ref D) { s with heap := h' }) : wpAny (model prog w) A (call (.builtin "sorted") [.ref l]) Q E s :=
 sorted_shell F N hl (lt2 h2) (args_sorted1 _) (fun _ => args_list_sort _) fun D H hD h0 lt F' N' ho P hP =>
  list_sort_short (s := { s with heap := H }) F' N' ho hD h0 (fun p hp => Nat.ne_of_lt (lt p hp)) h2 fun c h' F2 N2 => hP _ (h D c h' F2 N2 lt)
end
theorem St.giveList {env h₀ L h h' m ρ ko led news} {a vs} {c : Nat} {ds} (S : St env h₀ L h m ρ ko led news) (F : Fr h₀ L h' m) (N : News h₀ L h' ((a, listOf vs.toArray c) :: news)) (hn : ∀ p ∈ news, p.1 ≠ a) (r : Rs led ds vs) :
  St env h₀ L h' m ρ ko ((a, listOf vs.toArray c) :: led) ((a, listOf vs.toArray c) :: news) ∧ R ((a, listOf vs.toArray c) :: led) (.lst ds) (.ref a) := by
 obtain ⟨S2, ⟨mm, X, ap⟩, n1, n2⟩ := S.madeList F N hn
 refine ⟨S2.shareList X (.head _) n2 ap, ?_⟩
 exact R_lst (.head _) (Rs.mono (fun p hp => .tail _ hp) r)
theorem blt_sorted {n : Nat} {ds outs} (hs : SortOK ds ds outs) (h2 : Nat.ble 2 ds.length = true) (h64 : Nat.ble ds.length 60 = true) : BltOK n (.builtin "sorted") [.lst ds] (.lst outs) := by
 intro prog w A env h₀ L s m ρ ko led news vs Q E Si S r K
 obtain ⟨v, rfl, rv⟩ := Rs.inv1 r
 obtain ⟨a, vs, c, rfl, hm, hi, rr⟩ := S.isLst rv
 have hl := Rs.length rr
 have h2 := Nat.le_of_ble_eq_true h2
 have h64 := Nat.le_of_ble_eq_true h64
 refine kat_sorted S.F S.N hi (hl ▸ h2) (Nat.lt_of_le_of_lt (hl ▸ h64) (by decide)) fun D e1 h' F' N' lt => ?_
 have hne : ∀ p ∈ news, p.1 ≠ D := fun p hp => Nat.ne_of_lt (lt p hp)
 rw [← hl]
 refine tree_keys (Q := fun out s'' => KasFin h₀ L m D e1 out (fun s3 => Q (.ref D) s3) s'') (s := { s with heap := h' }) (led := led) (fun p hp => (N' p (.tail _ (S.sub p hp))).1) rr rr hs h2 fun out ro _ => ?_
 refine KasFin.intro F' N' (UpdF.head hne) fun h'' c2 F2 N2 => ?_
 obtain ⟨S2, r2⟩ := S.giveList F2 N2 hne ro
 exact K _ h'' s.toks _ _ S2 (fun p hp => .tail _ hp) r2
theorem blt_sorted_short {n : Nat} {ds} (h2 : Nat.blt ds.length 2 = true) : BltOK n (.builtin "sorted") [.lst ds] (.lst ds) := by
 intro prog w A env h₀ L s m ρ ko led news vs Q E Si S r K
 obtain ⟨v, rfl, rv⟩ := Rs.inv1 r
 obtain ⟨a, vs, c, rfl, hm, hi, rr⟩ := S.isLst rv
 have hl := Rs.length rr
 have h2 : ds.length < 2 := Nat.le_of_ble_eq_true (show Nat.ble (_ + 1) 2 = true from h2)
 refine sorted_short S.F S.N hi (hl ▸ h2) fun D c2 h'' F2 N2 lt => ?_
 obtain ⟨S2, r2⟩ := S.giveList F2 N2 (fun p hp => Nat.ne_of_lt (lt p hp)) rr
 exact K _ h'' s.toks _ _ S2 (fun p hp => .tail _ hp) r2
noncomputable def keyIs (a b : D) (c : Bool) : Bool := keyLt a b == some c
noncomputable def insK (k : D) (i : Nat) : List (D × Nat) -> List (D × Nat)
 | [] => [(k, i)]
 | p :: r => cond (keyIs k p.1 true) ((k, i) :: p :: r) (p :: insK k i r)
noncomputable def sortK : List (D × Nat) -> List (D × Nat)
 | [] => []
 | p :: r => insK p.1 p.2 (sortK r)
noncomputable def idxFrom : Nat -> List D -> List (D × Nat)
 | _, [] => []
 | n, k :: r => (k, n) :: idxFrom (n + 1) r
noncomputable def posIn (i : Nat) : List Nat -> Nat
 | [] => 0
 | j :: r => cond (Nat.beq i j) 0 (posIn i r + 1)
noncomputable def allBelow : Nat -> (Nat -> Bool) -> Bool
 | 0, _ => true
 | n + 1, f => f n && allBelow n f
theorem allBelow_of {f : Nat -> Bool} : ∀ {n : Nat}, allBelow n f = true -> ∀ i, i < n -> f i = true
 | 0, _, i, h => absurd h (Nat.not_lt_zero i)
 | n + 1, h, i, hi => and2 (show (f n && allBelow n f) = true from h) fun h1 h2 => by
  by_cases e : i = n
  ·rw [e]; exact h1
  ·exact allBelow_of h2 i (lt_part hi e)
noncomputable def ordOK (ks : List D) (p : List Nat) : Bool := Nat.beq p.length ks.length && ks.all isKey && allBelow ks.length (fun i => Nat.blt (posIn i p) ks.length && allBelow ks.length fun j => keyIs (ks.getD i .none) (ks.getD j .none) (Nat.blt (posIn i p) (posIn j p)) && (Nat.beq i j || !(Nat.beq (posIn i p) (posIn j p))))
noncomputable def orderOf (ks : List D) : Option (List Nat) :=
 let p := (sortK (idxFrom 0 ks)).map (·.2)
 gd (ordOK ks p) (some p)
theorem posIn_get : ∀ {p : List Nat} {i : Nat}, posIn i p < p.length -> p[posIn i p]? = some i
 | [], i, h => absurd h (Nat.not_lt_zero _)
 | j :: r, i, h => by
  have h : cond (Nat.beq i j) 0 (posIn i r + 1) < r.length + 1 := h
  show (j :: r)[cond (Nat.beq i j) 0 (posIn i r + 1)]? = some i
  cases q : Nat.beq i j with
  | true => exact congrArg some (Nat.eq_of_beq_eq_true q).symm
  | false =>
   rw [q] at h
   exact posIn_get (p := r) (Nat.lt_of_succ_lt_succ h)
theorem blt_dec (a b : Nat) : Nat.blt a b = decide ((a : Int) < (b : Int)) := by
 rw [Bool.eq_iff_iff, decide_eq_true_iff, Int.ofNat_lt]
 exact ⟨Nat.le_of_ble_eq_true, Nat.ble_eq_true_of_le⟩
theorem gp_some {p : Array Nat} {i : Nat} (h : i < p.size) : p[i]? = some (gp p i) := by
 rw [gp_get, Array.getElem?_eq_getElem h]
 rfl
theorem grow_same {f : Nat -> Nat} {n : Nat} (up : ∀ i j, i < j -> j < n -> f i < f j) (lt : ∀ i, i < n -> f i < n) {i : Nat} (h : i < n) : f i = i := by
 have lo : ∀ i, i < n -> i ≤ f i := by
  intro i
  induction i with
  | zero => exact fun _ => Nat.zero_le _
  | succ i ih => exact fun h => Nat.lt_of_le_of_lt (ih (Nat.lt_of_succ_lt h)) (up i (i + 1) (Nat.lt_succ_self i) h)
 have hi : ∀ k i, i + k + 1 = n -> f i ≤ i := by
  intro k
  induction k with
  | zero =>
   intro i h
   exact Nat.le_of_lt_succ (Nat.lt_of_lt_of_eq (lt i (Nat.lt_of_lt_of_eq (Nat.lt_succ_self i) h)) h.symm)
  | succ k ih =>
   intro i h
   exact Nat.le_of_lt_succ (Nat.lt_of_lt_of_le (up i (i + 1) (Nat.lt_succ_self i) (Nat.lt_of_lt_of_eq (Nat.succ_lt_succ (Nat.lt_add_of_pos_right (Nat.succ_pos k))) h)) (ih (i + 1) ((congrArg (· + 1) (Nat.succ_add_eq_add_succ i k)).trans h)))
 obtain ⟨k, hk⟩ := Nat.exists_eq_add_of_lt h
 exact Nat.le_antisymm (hi k i hk.symm) (lo i h)
theorem order_ok {ks ds} {p : List Nat} (h : orderOf ks = some p) (hl : ks.length = ds.length) : SortOK ks ds (p.map fun i => ds.getD i .none) := by
 have h : gd (ordOK ks ((sortK (idxFrom 0 ks)).map (·.2))) (some ((sortK (idxFrom 0 ks)).map (·.2))) = some p := h
 generalize (sortK (idxFrom 0 ks)).map (·.2) = p' at h
 cases hc : ordOK ks p' with
 | false =>
  rw [hc] at h
  cases h
 | true =>
  rw [hc] at h
  obtain rfl := Option.some.inj h
  refine and3 hc fun c1 c2 c3 => ?_
  have c1 := Nat.eq_of_beq_eq_true c1
  have f1 : ∀ i, i < ks.length -> posIn i p' < ks.length := fun i hi => and2 (allBelow_of c3 i hi) fun h _ => Nat.le_of_ble_eq_true h
  have f2 : ∀ i j, i < ks.length -> j < ks.length -> keyLt (ks.getD i .none) (ks.getD j .none) = some (Nat.blt (posIn i p') (posIn j p')) ∧ (i = j ∨ posIn i p' ≠ posIn j p') := fun i j hi hj => and2 (allBelow_of c3 i hi) fun _ h => and2 (allBelow_of h j hj) fun h1 h2 =>
   ⟨beq_iff_eq.mp h1, ((Bool.or_eq_true _ _).mp h2).imp Nat.eq_of_beq_eq_true fun q => Nat.ne_of_beq_eq_false (not_t q)⟩
  refine ⟨fun i => ((posIn i p' : Nat) : Int), fun i j hi hj e => ?_, fun i j hi hj => ?_, c2, hl, fun q hq hu => ?_⟩
  ·exact (f2 i j hi hj).2.resolve_right fun h => h (Int.ofNat_inj.mp e)
  ·rw [(f2 i j hi hj).1, blt_dec]
  ·have same : ∀ i, i < ks.length -> posIn (gp q i) p' = i := fun i h => grow_same (f := fun i => posIn (gp q i) p') (fun i j h1 h2 => Int.ofNat_lt.mp (hu i j h1 h2)) (fun i h => f1 _ (hq.lt h)) h
   have eq : q.toList = p' := List.ext_getElem? fun i => by
    by_cases h : i < ks.length
    ·have := posIn_get (c1.symm ▸ f1 (gp q i) (hq.lt h))
     rw [same i h] at this
     rw [this, Array.getElem?_toList, gp_some (hq.size.symm ▸ h)]
    ·rw [List.getElem?_eq_none (show q.size ≤ i from hq.size.symm ▸ Nat.not_lt.mp h), List.getElem?_eq_none (c1.symm ▸ Nat.not_lt.mp h)]
   rw [eq]
theorem St.lam {env h₀ L h h' m ρ ko led news} {P f c' fo oc} {vs : Array Value} {t} {g : Obj -> Led} (S : St env h₀ L h m ρ ko led news) (hP : P ∈ tabs) (U : UpdF P (X.tableObj #[]) news g)
  (hg : ∀ o' p, p ∈ g o' ↔ p = (P, o') ∨ (p ∈ news ∧ p.1 ≠ P)) (F : Fr h₀ L h' m) (N : News h₀ L h' ((f, fo) :: (c', oc) :: g (X.tableObj #[rawInt (tabPos P).line, rawInt (tabPos P).col, .ref c'])))
  (hd : oc.data = .fields vs) (hv : vs[1]? = some (.str (zCj P) t)) (l1 : ∀ q ∈ news, q.1 < c') (l2 : c' < f) :
  St env h₀ L h' m ρ ko ((f, fo) :: (c', oc) :: led) ((f, fo) :: (c', oc) :: g (X.tableObj #[rawInt (tabPos P).line, rawInt (tabPos P).col, .ref c'])) := by
 obtain ⟨hPl, -⟩ := S.tab P hP
 have nec : ∀ p ∈ news, p.1 ≠ c' := fun p hp => Nat.ne_of_lt (l1 p hp)
 have nef : ∀ p ∈ news, p.1 ≠ f := fun p hp => Nat.ne_of_lt (Nat.lt_trans (l1 p hp) l2)
 have ing : ∀ o' p, p ∈ news -> p.1 ≠ P -> p ∈ g o' := fun o' p hp hn => (hg o' p).mpr (.inr ⟨hp, hn⟩)
 have notin : ∀ a o, (a, o) ∈ news -> a ∉ keyL led -> a ∉ keyL ((f, fo) :: (c', oc) :: led) := fun a o hm hl => zU (zU hl (nec _ hm)) (nef _ hm)
 refine ⟨F, N, ?_, fun p hp => ?_, fun p hp => ?_, fun a ha => ?_, fun P2 hP2 => ?_, ?_⟩
 ·show (f :: c' :: keyL (g _)).Nodup
  rw [updF_keys U]
  refine List.nodup_cons.mpr ⟨fun hm => ?_, List.nodup_cons.mpr ⟨fun hm => ?_, S.nd⟩⟩
  ·rcases List.mem_cons.mp hm with e | hm
   ·exact Nat.ne_of_gt l2 e
   ·obtain ⟨p, hp, e⟩ := List.mem_map.mp hm
    exact nef p hp e
  ·obtain ⟨p, hp, e⟩ := List.mem_map.mp hm
   exact nec p hp e
 ·refine .tail _ (.tail _ (ing _ p (S.kon p hp) fun e => ?_))
  exact (S.dis p.1 (zC (o := p.2) hp)).2 (e ▸ hP)
 ·rcases List.mem_cons.mp hp with rfl | hp
  ·exact .head _
  ·rcases List.mem_cons.mp hp with rfl | hp
   ·exact .tail _ (.head _)
   ·exact .tail _ (.tail _ (ing _ p (S.sub p hp) fun e => hPl (e ▸ zC (o := p.2) hp)))
 ·obtain ⟨p, hp, rfl⟩ := List.mem_map.mp ha
  exact ⟨notin p.1 p.2 (S.kon p hp) (S.dis p.1 ha).1, (S.dis p.1 ha).2⟩
 ·obtain ⟨hn, ps, hm, gd⟩ := S.tab P2 hP2
  refine ⟨notin P2 _ hm hn, ?_⟩
  by_cases e : P2 = P
  ·subst e
   exact ⟨_, .tail _ (.tail _ ((hg _ _).mpr (.inl rfl))), .inr ⟨c', oc, vs, t, rfl, .tail _ (.head _), hd, hv⟩⟩
  ·exact ⟨ps, .tail _ (.tail _ (ing _ _ hm e)), gd.mono fun p hp => .tail _ (.tail _ hp)⟩
 ·obtain ⟨mm, X⟩ := S.loc
  refine ⟨mm, X.lc, fun x lv e => ?_, X.inj⟩
  obtain ⟨v, V, O, k⟩ := X.at' x lv e
  refine ⟨v, V, O.mono (fun p hp => .tail _ (.tail _ hp)) (fun a o hm hn _ hc => ⟨.tail _ (.tail _ (ing _ _ hm fun (e2 : a = P) => ?_)), notin a o hm hn⟩), k⟩
  subst e2
  obtain ⟨_, ps, hm2, _⟩ := S.tab a hP
  exact hc ((congrArg Obj.cls (zAm S.nd hm hm2)).trans rfl)
theorem St.swap {env h₀ L h h' m ρ ko led news} {a o o'} {g : Obj -> Led} (S : St env h₀ L h m ρ ko led news) (hm : (a, o) ∈ news) (ho : o.cls = .type "list") (h1 : a ∉ keyL led) (h2 : a ∉ keyL ko)
  (ap : ∀ mm, Locs env L m ρ ko led news mm -> Apart ρ mm a) (U : UpdF a o news g) (hg : ∀ o' p, p ∈ g o' ↔ p = (a, o') ∨ (p ∈ news ∧ p.1 ≠ a)) (F : Fr h₀ L h' m) (N : News h₀ L h' (g o')) : St env h₀ L h' m ρ ko led (g o') := by
 have ing : ∀ p, p ∈ news -> p.1 ≠ a -> p ∈ g o' := fun p hp hn => (hg o' p).mpr (.inr ⟨hp, hn⟩)
 refine ⟨F, N, by rw [updF_keys U]; exact S.nd, fun p hp => ing p (S.kon p hp) fun e => h2 (e ▸ zC (o := p.2) hp), fun p hp => ing p (S.sub p hp) fun e => h1 (e ▸ zC (o := p.2) hp), S.dis, fun P hP => ?_, ?_⟩
 ·obtain ⟨hn, ps, hp, gd⟩ := S.tab P hP
  refine ⟨hn, ps, ing _ hp fun (e : P = a) => ?_, gd⟩
  subst e
  have := congrArg Obj.cls (zAm S.nd hm hp)
  rw [ho] at this
  cases this
 ·obtain ⟨mm, X⟩ := S.loc
  refine ⟨mm, X.lc, fun x lv e => ?_, X.inj⟩
  obtain ⟨v, V, O, k⟩ := X.at' x lv e
  refine ⟨v, V, ?_, k⟩
  cases lv with
  | val d => exact O
  | own ds =>
   obtain ⟨b, vs, c, rfl, m1, r, n1, n2⟩ := O
   refine ⟨b, vs, c, rfl, ing _ m1 fun (e2 : b = a) => ?_, r, n1, n2⟩
   subst e2
   exact ap mm X x _ e rfl (V.local (k rfl))
  | obj C ns ds =>
   obtain ⟨b, dx, es, n, vs, rfl, m1, m2, ke, ev, r, n1, n2⟩ := O
   refine ⟨b, dx, es, n, vs, rfl, m1, ing _ m2 fun (e2 : dx = a) => ?_, ke, ev, r, n1, n2⟩
   subst e2
   have := congrArg Obj.cls (zAm S.nd hm m2)
   rw [ho] at this
   simp at this
structure LamIn (l : Led) (P f : Addr) (params : Arguments) (body : Expr) (scope : Scope) : Prop where
 ex : ∃ pm c' oc vs t ctv, (f, kla_obj "<lambda>" (zCj P) params body scope [] pm c' ctv) ∈ l ∧ (c', oc) ∈ l ∧ oc.data = .fields vs ∧ vs[1]? = some (.str (zCj P) t)
theorem LamIn.mono {l l'} {P f params body scope} (x : LamIn l P f params body scope) (i : Inc l l') : LamIn l' P f params body scope := by
 obtain ⟨pm, c', oc, vs, t, ctv, a, b, c, d⟩ := x.ex
 exact ⟨pm, c', oc, vs, t, ctv, i _ a, i _ b, c, d⟩
section
variable {prog : Program} {w : World} {A : Around} {E : Value -> Shared -> Prop}
theorem lam_make {cn sc' a c P h₀ L s m ρ ko led news} {n : Nat} {params body scope lpos Q}
  (Si : Sit w A (envX cn sc' L a (.ref c) []) h₀ L n) (S : St (envX cn sc' L a (.ref c) []) h₀ L s.heap m ρ ko led news) (hP : P ∈ tabs) (hpos : lpos = tabPos P) (hq : cn ++ ".<locals>." ++ "<lambda>" = zCj P) (hd : CodeHd h₀ c P)
  (hdef : ∀ env, defaultsOf params env = ([], [])) (hcl : ∀ env, closureFor scope env = pure [])
  (K : ∀ f h' tk led' news', St (envX cn sc' L a (.ref c) []) h₀ L h' m ρ ko led' news' -> Inc led led' -> LamIn led' P f params body scope -> Q (.ref f) (sw s h' tk)) :
  wpAny (model prog w) A (eval (.Lambda params body scope lpos) (envX cn sc' L a (.ref c) [])) Q E s := by
 obtain ⟨mean, mg, mb, T⟩ := Si.T
 obtain ⟨hn, ps, hm, gd⟩ := S.tab P hP
 subst hpos
 refine kla_eval (hdef _) ?_
 show wpAny _ A (makeFunction "<lambda>" (cn ++ ".<locals>." ++ "<lambda>") params (.expr body) scope _ [] [] [] (tabPos P) (tabPos P).line) Q E s
 rw [hq]
 rcases gd with rfl | ⟨c', oc, vs, t, rfl, hco, hdd, hvv⟩
 ·obtain ⟨g, U, hg⟩ := zCi S.nd hm
  refine kla_nest S.F S.N T hd rfl U trivial rfl (hcl _) fun f c' oc vs t ctv h' tk F' N' hdd hvv l1 l2 => ?_
  exact K f h' tk _ _ (S.lam hP U hg F' N' hdd hvv l1 l2) (fun p hp => .tail _ (.tail _ hp)) ⟨_, c', oc, vs, t, ctv, .head _, .tail _ (.head _), hdd, hvv⟩
 ·refine kla_hit (c' := c') S.F S.N T hd rfl hm ⟨⟩ (by show codeAmong (tabPos P) [rawInt (tabPos P).line, rawInt (tabPos P).col, .ref c'] = _; simp [codeAmong, rawInt]) (hcl _) fun f ctv h' tk F' N' lt => ?_
  exact K f h' tk _ _ (S.grow (new := [(f, _)]) F' N' (zQ S.nd lt)) (fun p hp => .tail _ hp) ⟨_, c', oc, vs, t, ctv, .head _, .tail _ hco, hdd, hvv⟩
theorem lam_call {env P f h₀ L s m ρ ko led news} {n : Nat} {x params body scope d k v Q}
  (Si : Sit w A env h₀ L (n + 1)) (S : St env h₀ L s.heap m ρ ko led news) (hl : LamIn led P f params body scope) (hbind : ∀ pm cdv ct v, bindArgs (kla_fn "<lambda>" (zCj P) params body scope [] pm cdv ct) ⟨[v], []⟩ = pure [(x, v)])
  (hsc : plainSc scope = true) (hx : fnd x scope.names = some .local) (r : R led d v) (he : EvE scope.names [(x, .val d)] n body k)
  (K : ∀ u h' tk led' news', St env h₀ L h' m ρ ko led' news' -> Inc led led' -> (∀ p ∈ koOf led news, p ∈ news' ∧ p.1 ∉ keyL led') -> R led' k u -> Q u (sw s h' tk)) :
  wpAny (model prog w) A.in1.in1 (call (.ref f) [v]) Q E s := by
 obtain ⟨pm, c', oc, vs, t, ctv, hf, hco, hdd, hvv⟩ := hl.ex
 obtain ⟨A₀, base, outer, fenv, B, hA, hfr, hke⟩ := Si.fr
 obtain ⟨mean, mg, mb, T⟩ := Si.T
 obtain ⟨h1, h2, h3, h4⟩ := plainSc_of hsc
 refine wpAny_call (kla_code (A := A.in1.in1) B S.F Si.X S.N T hA hfr hke (S.sub _ hf) (codeRec_news S.N (S.sub _ hco) hdd hvv) Si.d0 (hbind _ _ _ v) (fun y hy => ?_) (fun g L' h₁ FG F' N' B' X' T' => ?_) h1 h2 h3 h4)
 ·rw [List.mem_singleton.mp hy, zAc]; exact hx
 ·have S' : St (envX (zCj P) scope L' f (.ref c') []) g L' h₁ (fun y => [(x, v)].reverse.lookup y) [(x, .val d)] (koOf led news) led news := by
   refine S.enter F' N' fun y lv e => ?_
   simp only [fnd] at e
   split at e
   ·rename_i q
    obtain rfl := zW.mp q
    cases e
    refine ⟨d, v, rfl, ?_, r, hx⟩
    show List.lookup y [(y, v)] = _
    simp
   ·cases e
  have Si' : Sit w (A.in1.in1.deeper (envX (zCj P) scope L' f (.ref c') [])) (envX (zCj P) scope L' f (.ref c') []) g L' n := by
   refine ⟨⟨A.in1.in1, base, fenv :: outer, _, B', Around.frames_deeper hA, rfl, h3⟩, h3, rfl, rfl, X', ⟨mean, mg, mb, T'⟩, Si.hd, ?_, ?_, Si.hs⟩
   ·exact Si.d1
   ·exact Si.uk 5 rfl
  refine he prog w _ _ g L' (sw s h₁ _) _ (koOf led news) led news _ _ rfl Si' S' fun u h' tk led' news' S'' i ru => ?_
  refine leaveK_ S''.F S''.N fun F2 N2 => ?_
  exact K u h' tk led' news' (S.back S'' i F2 N2) i (fun p hp => ⟨S''.kon p hp, (S''.dis p.1 (zC (o := p.2) hp)).1⟩) ru
end
structure FreeL (env : Env) (L : Addr) (m : Str -> Option Value) (ρ : Loc) (ko led news : Led) (a : Addr) (o : Obj) : Prop where
 mem : (a, o) ∈ news
 nl : a ∉ keyL led
 nk : a ∉ keyL ko
 ap : ∀ mm, Locs env L m ρ ko led news mm -> Apart ρ mm a
theorem FreeL.next {env h₀ L h h' m ρ ko led news led' news'} {a o} (x : FreeL env L m ρ ko led news a o) (S : St env h₀ L h m ρ ko led news) (S' : St env h₀ L h' m ρ ko led' news') (ho : o.cls = .type "list") (hk : ∀ p ∈ koOf led news, p ∈ news' ∧ p.1 ∉ keyL led') : FreeL env L m ρ ko led' news' a o := by
 have := hk _ (own_koOf S.nd S.tab x.mem x.nl (by rw [ho]; intro h; cases h))
 refine ⟨this.1, this.2, x.nk, fun mm X' => ?_⟩
 obtain ⟨m0, X0⟩ := S.loc
 obtain rfl := Lc.uniq S S' X0.lc X'.lc
 exact x.ap _ X0
theorem FreeL.set {env h₀ L h h' m ρ ko led news} {a b : Addr} {o o' oa : Obj} {g : Obj -> Led} (x : FreeL env L m ρ ko led news b o) (S : St env h₀ L h m ρ ko led news) (S' : St env h₀ L h' m ρ ko led (g o')) (hg : ∀ o' p, p ∈ g o' ↔ p = (a, o') ∨ (p ∈ news ∧ p.1 ≠ a)) (hne : b ≠ a) : FreeL env L m ρ ko led (g o') b o := by
 refine ⟨(hg _ _).mpr (.inr ⟨x.mem, hne⟩), x.nl, x.nk, fun mm X' => ?_⟩
 obtain ⟨m0, X0⟩ := S.loc
 obtain rfl := Lc.uniq S S' X0.lc X'.lc
 exact x.ap _ X0
theorem FreeL.self {env h₀ L h h' m ρ ko led news} {a o o'} {g : Obj -> Led} (x : FreeL env L m ρ ko led news a o) (S : St env h₀ L h m ρ ko led news) (S' : St env h₀ L h' m ρ ko led (g o')) (hg : ∀ o' p, p ∈ g o' ↔ p = (a, o') ∨ (p ∈ news ∧ p.1 ≠ a)) : FreeL env L m ρ ko led (g o') a o' := by
 refine ⟨(hg _ _).mpr (.inl rfl), x.nl, x.nk, fun mm X' => ?_⟩
 obtain ⟨m0, X0⟩ := S.loc
 obtain rfl := Lc.uniq S S' X0.lc X'.lc
 exact x.ap _ X0
inductive KeysE (sc : zT) (n : Nat) (x : Str) (body : Expr) : List D -> List D -> Prop
 | nil : KeysE sc n x body [] []
 | cons {d k ds ks} : EvE sc [(x, .val d)] n body k -> KeysE sc n x body ds ks -> KeysE sc n x body (d :: ds) (k :: ks)
theorem KeysE.len {sc n x body ds ks} (h : KeysE sc n x body ds ks) : ds.length = ks.length := by
 induction h with
 | nil => rfl
 | cons _ _ ih => simp [ih]
section
variable {prog : Program} {w : World} {A : Around}
theorem keys_go {env : Env} {P f : Addr} {h₀ : Heap} {L : Addr} {m : Str -> Option Value} {ρ : Loc} {ko : Led} {n : Nat} {x : Str} {params : Arguments} {body : Expr} {scope : Scope} {kS D' : Addr} {e1 : Nat} {Fin : List Value -> Nat -> Shared -> Prop}
  (Si : Sit w A env h₀ L (n + 1)) (hbind : ∀ pm cdv ct v, bindArgs (kla_fn "<lambda>" (zCj P) params body scope [] pm cdv ct) ⟨[v], []⟩ = pure [(x, v)]) (hsc : plainSc scope = true) (hx : fnd x scope.names = some .local) (hne : kS ≠ D') :
  ∀ {ds kD ksD : List D} {vs ks : List Value} {e : Nat} {s : Shared} {led news : Led}, KeysE scope.names n x body ds kD -> St env h₀ L s.heap m ρ ko led news -> LamIn led P f params body scope -> Rs led ds vs -> Rs led ksD ks ->
   FreeL env L m ρ ko led news kS (seqObj "list" ks.toArray e) -> FreeL env L m ρ ko led news D' (seqObj "list" #[] e1) ->
   (∀ h' tk led' news' ks' e', St env h₀ L h' m ρ ko led' news' -> Inc led led' -> Rs led' (ksD ++ kD) ks' -> FreeL env L m ρ ko led' news' kS (seqObj "list" ks'.toArray e') -> FreeL env L m ρ ko led' news' D' (seqObj "list" #[] e1) -> Fin ks' e' (sw s h' tk)) ->
   KatKeys prog w A.in1.in1 h₀ L m kS (.ref f) Fin vs ks e s := by
 intro ds kD ksD vs ks e s led news hk
 induction hk generalizing ksD vs ks e s led news with
 | nil =>
  intro S hl rv rk fk fd K
  obtain rfl : _ = [] := rv
  exact KatKeys.nil (K s.heap s.toks led news ks e S (fun _ h => h) (by rw [List.append_nil]; exact rk) fk fd)
 | @cons d k ds kD he hrest ih =>
  intro S hl rv rk fk fd K
  obtain ⟨v, vs, rfl, r1, r2⟩ := rv
  refine KatKeys.cons (lam_call Si S hl hbind hsc hx r1 he fun u h' tk led' news' S' i hko ru => ?_)
  have fk' := fk.next S S' rfl hko
  have fd' := fd.next S S' rfl hko
  obtain ⟨g, U, hg⟩ := zCi S'.nd fk'.mem
  refine KatBack.intro S'.F S'.N U fun h2 c F2 N2 => ?_
  have S2 := S'.swap fk'.mem rfl fk'.nl fk'.nk fk'.ap U hg F2 N2
  refine ih (s := (sw s h2 tk)) (ksD := ksD ++ [k]) S2 (hl.mono i) (Rs.mono i r2) (Rs.append (Rs.mono i rk) (Rs.one ru)) (fk'.self S' S2 hg) (fd'.set (oa := seqObj "list" #[] e1) S' S2 hg (Ne.symm hne)) ?_
  intro h3 tk3 led3 news3 ks3 e3 S3 i3 rk3 fk3 fd3
  refine K h3 tk3 led3 news3 ks3 e3 S3 (Inc.trans i i3) ?_ fk3 fd3
  rw [List.append_assoc] at rk3
  exact rk3
theorem keys_end {env : Env} {h₀ : Heap} {L : Addr} {s : Shared} {m : Str -> Option Value} {ρ : Loc} {ko led news : Led} {kS D' : Addr} {e e1 : Nat} {ks out : List Value} {outs : List D} {Q : Value -> Shared -> Prop} (hne : kS ≠ D')
  (S : St env h₀ L s.heap m ρ ko led news) (fk : FreeL env L m ρ ko led news kS (seqObj "list" ks.toArray e)) (fd : FreeL env L m ρ ko led news D' (seqObj "list" #[] e1)) (ro : Rs led outs out)
  (K : ∀ h' led' news', St env h₀ L h' m ρ ko led' news' -> Inc led led' -> R led' (.lst outs) (.ref D') -> Q (.ref D') { s with heap := h' }) :
  KatFin h₀ L m kS D' ks e e1 out (fun s4 => Q (.ref D') s4) s := by
 obtain ⟨g, U, hg⟩ := zCi S.nd fk.mem
 refine KatFin.intro S.F S.N U fun h2 c F2 N2 => ?_
 have S2 := S.swap fk.mem rfl fk.nl fk.nk fk.ap U hg F2 N2
 have fd2 := fd.set (oa := seqObj "list" #[] e1) S S2 hg (Ne.symm hne)
 obtain ⟨g2, U2, hg2⟩ := zCi S2.nd fd2.mem
 refine KasFin.intro S2.F S2.N U2 fun h3 c3 F3 N3 => ?_
 have S3 := S2.swap fd2.mem rfl fd2.nl fd2.nk fd2.ap U2 hg2 F3 N3
 have fd3 := fd2.self S2 S3 hg2
 obtain ⟨mm, X⟩ := S3.loc
 have S4 := S3.shareList X fd3.mem fd3.nk (fd3.ap mm X)
 refine K h3 _ _ S4 (fun p hp => .tail _ hp) ?_
 exact R_lst (.head _) (Rs.mono (fun p hp => .tail _ hp) ro)
theorem free_two {env h₀ L h' m ρ ko led news} {h kS D' o1 o2} (S : St env h₀ L h m ρ ko led news) (ho1 : o1.cls = .type "list") (ho2 : o2.cls = .type "list") (F : Fr h₀ L h' m) (N : News h₀ L h' ((kS, o1) :: (D', o2) :: news)) (l1 : D' < kS) (l2 : ∀ q ∈ news, q.1 < D') :
  St env h₀ L h' m ρ ko led ((kS, o1) :: (D', o2) :: news) ∧ FreeL env L m ρ ko led ((kS, o1) :: (D', o2) :: news) kS o1 ∧ FreeL env L m ρ ko led ((kS, o1) :: (D', o2) :: news) D' o2 := by
 have nd : (keyL ([(kS, o1), (D', o2)] ++ news)).Nodup := by
  refine zQ (a := kS) (o := o1) (zQ (o := o2) S.nd l2) fun p hp => ?_
  rcases List.mem_cons.mp hp with rfl | hp
  ·exact l1
  ·exact Nat.lt_trans (l2 p hp) l1
 have S2 := S.apart (new := [(kS, o1), (D', o2)]) F N nd
 have n1 : ∀ p ∈ news, p.1 ≠ D' := fun p hp => Nat.ne_of_lt (l2 p hp)
 have n2 : ∀ p ∈ news, p.1 ≠ kS := fun p hp => Nat.ne_of_lt (Nat.lt_trans (l2 p hp) l1)
 obtain ⟨m0, X0⟩ := S.loc
 refine ⟨S2, ⟨.head _, S.sp.not_led n2, S.sp.not_ko n2, fun mm X => ?_⟩, ⟨.tail _ (.head _), S.sp.not_led n1, S.sp.not_ko n1, fun mm X => ?_⟩⟩
 ·obtain rfl := Lc.uniq S S2 X0.lc X.lc
  exact apart_ne S.kon X0 n2
 ·obtain rfl := Lc.uniq S S2 X0.lc X.lc
  exact apart_ne S.kon X0 n1
theorem sorted_keyed {env : Env} {P f : Addr} {h₀ : Heap} {L : Addr} {s : Shared} {m : Str -> Option Value} {ρ : Loc} {ko led news : Led} {n : Nat} {x : Str} {params : Arguments} {body : Expr} {scope : Scope} {ds kD outs : List D} {v : Value} {Q E : Value -> Shared -> Prop}
  (Si : Sit w A env h₀ L (n + 1)) (S : St env h₀ L s.heap m ρ ko led news) (hl : LamIn led P f params body scope) (hbind : ∀ pm cdv ct v, bindArgs (kla_fn "<lambda>" (zCj P) params body scope [] pm cdv ct) ⟨[v], []⟩ = pure [(x, v)]) (hsc : plainSc scope = true) (hx : fnd x scope.names = some .local)
  (rv : R led (.lst ds) v) (hk : KeysE scope.names n x body ds kD) (hs : SortOK kD ds outs ∨ (ds.length < 2 ∧ outs = ds)) (h64 : ds.length < 60)
  (K : ∀ u h' tk led' news', St env h₀ L h' m ρ ko led' news' -> Inc led led' -> R led' (.lst outs) u -> Q u (sw s h' tk)) :
  wpAny (model prog w) A (call (.builtin "sorted") [v] [(Str.ofString "key", .ref f)]) Q E s := by
 obtain ⟨a, vs, c, rfl, hm, hi, rr⟩ := S.isLst rv
 have hlen := Rs.length rr
 by_cases h2 : ds.length < 2
 ·have ho : outs = ds := by
   rcases hs with ⟨K0, k1, k2, k3, k4, k5⟩ | ⟨_, h⟩
   ·have := k5 (List.toArray (List.range kD.length)) (Pm.range _) (fun i j h1 h3 => absurd (Nat.lt_of_lt_of_le h1 (Nat.le_of_lt_succ (Nat.lt_of_lt_of_le h3 (Nat.le_of_lt_succ (k4.symm ▸ h2))))) (Nat.not_lt_zero i))
    rw [this]
    have hkd : kD.length = ds.length := k4
    rw [hkd]
    rcases ds with _ | ⟨d, _ | ⟨d2, ds⟩⟩
    ·rfl
    ·rfl
    ·exact absurd h2 (Nat.not_lt.mpr (Nat.le_add_left 2 _))
   ·exact h
  subst ho
  refine sorted_shell S.F S.N hi (Nat.lt_of_le_of_lt (Nat.le_of_eq hlen.symm) (lt2 h2)) (ksk_s1 _ _) (fun _ => ksk_l1 _ _) fun D' H hD h0 lt F' N' hget Pf hP => ?_
  rw [ksk_t1]
  refine ksk_tree_short (s := { s with heap := H }) F' N' hget hD h0 (fun p hp => Nat.ne_of_lt (lt p hp)) (Nat.lt_of_le_of_lt (Nat.le_of_eq hlen.symm) h2) fun kS e1 h' F2 N2 l1 l2 => ?_
  have l1' : D' < kS := l1
  have hne : kS ≠ D' := Nat.ne_of_gt l1'
  obtain ⟨S2, fk, fd⟩ := free_two S rfl rfl F2 N2 l1' lt
  refine keys_go (s := { s with heap := h' }) Si hbind hsc hx hne hk S2 hl rr Rs.nil fk fd fun h3 tk3 led3 news3 ks3 e3 S3 i3 rk fk3 fd3 => ?_
  refine KatFin.mono (keys_end (s := (sw s h3 tk3)) (Q := fun u s4 => Q u s4) hne S3 fk3 fd3 (Rs.mono i3 rr) fun h4 led4 news4 S4 i4 r4 => K _ h4 tk3 led4 news4 S4 (Inc.trans i3 i4) r4) fun s4 hq => hP s4 hq
 ·have hs' : SortOK kD ds outs := by
   rcases hs with h | ⟨h, _⟩
   ·exact h
   ·exact absurd h h2
  refine kat_sortedK (b := false) S.F S.N hi (hlen ▸ Nat.not_lt.mp h2) (Nat.lt_of_le_of_lt (Nat.le_of_eq hlen.symm) (Nat.lt_trans h64 (by decide))) (ksk_s1 _ _) (fun _ => ksk_l1 _ _) (fun x => ksk_t1 _ _) fun D' kS e1 h' F2 N2 l1 l2 => ?_
  have l1' : D' < kS := l1
  have hne : kS ≠ D' := Nat.ne_of_gt l1'
  obtain ⟨S2, fk, fd⟩ := free_two S rfl rfl F2 N2 l1' l2
  refine keys_go (s := { s with heap := h' }) Si hbind hsc hx hne hk S2 hl rr Rs.nil fk fd fun h3 tk3 led3 news3 ks3 e3 S3 i3 rk fk3 fd3 => ?_
  have hkl : kD.length = ds.length := hk.len.symm
  show wpAny (model prog w) A.in1.in1 (keyKind' (List.toArray ks3)) (fun κ s'' => (kas_sort vs.length).kasWp (kas_ask prog w A.in1.in1 κ ks3) (fun p s3 => KatFin h₀ L m kS D' ks3 e3 e1 (p.toList.map fun i => vs.getD i Value.none) (fun s4 => Q (.ref D') s4) s3) s'') (fun _ _ => False) _
  rw [(hkl.trans hlen).symm]
  refine tree_keys (Q := fun out s'' => KatFin h₀ L m kS D' ks3 e3 e1 out (fun s4 => Q (.ref D') s4) s'') (s := (sw s h3 tk3)) (led := led3) (fun p hp => (S3.N p (S3.sub p hp)).1) (by simpa using rk) (Rs.mono i3 rr) hs' (hkl.symm ▸ Nat.not_lt.mp h2) fun out ro _ => ?_
  exact keys_end (s := (sw s h3 tk3)) hne S3 fk3 fd3 ro fun h4 led4 news4 S4 i4 r4 => K _ h4 tk3 led4 news4 S4 (Inc.trans i3 i4) r4
end
noncomputable def FrameOf (r : FnR) : World -> Around -> Env -> Heap -> Addr -> Prop := fun _ _ env _ L => env = envOf (Str.ofString r.qual) (zD r.st) L r.f (.ref r.cdv)
theorem exsq_next {Pe sc ρ n st rest ρ1 fl ρ2} (h1 : Ex1 sc ρ n st .next ρ1) (h2 : ExSq Pe sc ρ1 n rest fl ρ2) : ExSq Pe sc ρ n (st :: rest) fl ρ2 := by
 intro prog w A env h₀ L s m ko led news Q hp hs hl Si S K
 refine wpAny_execs_cons (h1 prog w A env h₀ L s m ko led news _ hs hl Si S fun f h' tk m' led' news' S' i hf => ?_)
 have : f = .next := hf
 subst this
 exact h2 prog w A env h₀ L _ m' ko led' news' _ hp hs hl Si S' fun f2 h2' tk2 m2 led2 news2 S2 i2 hf2 => K f2 h2' tk2 m2 led2 news2 S2 (Inc.trans i i2) hf2
theorem exsq_stop {Pe sc ρ n st rest fl ρ1} (hq : stops fl = true) (h1 : Ex1q Pe sc ρ n st fl ρ1) : ExSq Pe sc ρ n (st :: rest) fl ρ1 := by
 intro prog w A env h₀ L s m ko led news Q hp hs hl Si S K
 refine wpAny_execs_cons (h1 prog w A env h₀ L s m ko led news _ hp hs hl Si S fun f h' tk m' led' news' S' i hf => ?_)
 have hk := K f h' tk m' led' news' S' i hf
 cases fl with
 | next => cases hq
 | brk => have : f = .brk := hf; subst this; exact hk
 | cont => have : f = .cont := hf; subst this; exact hk
 | ret d => obtain ⟨v, rfl, _⟩ := hf; exact hk
theorem ex1q_ret {Pe sc ρ n e pos d} (h : EvEq Pe sc ρ n e d) : Ex1q Pe sc ρ n (.Return (some e) pos) (.ret d) ρ := by
 intro prog w A env h₀ L s m ko led news Q hp hs hl Si S K
 exact wpAny_Return_some (h prog w A env h₀ L s m ko led news _ _ hp hs Si S fun v h' tk led' news' S' i r => K _ h' tk m led' news' S' i ⟨v, rfl, r⟩)
theorem call_of_bodyq {r names} {k n : Nat} {ex ds d fl ρ'} (G : Gd r names k ex) (hk : ds.length = k)
  (hx : ExSq (FrameOf r) (zD r.st).names (vals names (ds ++ ex)) n (zG r.st) fl ρ') (hf : retOf fl = some d) : zF (n + 1) r.f ds d := by
 intro prog w A env h₀ L s m ρ ko led news vs Rr Si S rr K
 obtain ⟨A₀, base, outer, fenv, B, hA, hfr, hke⟩ := Si.fr
 refine enterP G hk B hA hfr hke Si S rr fun g L' h₁ tk mm FG B' Si' S' => wpAny_noRaise ?_
 refine hx prog w _ _ g L' (sw s h₁ tk) _ (koOf led news) led news _ rfl rfl rfl Si' S' fun f h' tk m' led' news' S'' i hfl => ?_
 refine leaveK_ S''.F S''.N fun F2 N2 => ?_
 have SB := S.back S'' i F2 N2
 cases fl with
 | next =>
  cases hf
  have : f = .next := hfl
  subst this
  exact K .none h' tk led' news' SB i R_none
 | ret d' =>
  cases hf
  obtain ⟨v, rfl, rv⟩ := hfl
  exact K v h' tk led' news' SB i rv
 | brk => cases hf
 | cont => cases hf
theorem evq_sorted {r P sc ρ} {n : Nat} {f fp e params body scope lpos kp pos x kw ds kD outs}
  (hk : zZ sc f = true) (hd : zM f = true) (ef : fnd f bTab = some (.builtin "sorted")) (hst : zP e = true) (hkw : isNm kw "key" = true) (he : EvE sc ρ (n + 1) e (.lst ds)) (hP : P ∈ tabs) (hpos : lpos = tabPos P) (hq : Str.ofString r.qual ++ ".<locals>." ++ "<lambda>" = zCj P)
  (hcode : ∀ P', codeHdIn (KW P') r.cdv P = true) (hdef : ∀ env, defaultsOf params env = ([], [])) (hcl : ∀ env, closureFor scope env = pure [])
  (hbind : ∀ pm cdv ct v, bindArgs (kla_fn "<lambda>" (zCj P) params body scope [] pm cdv ct) ⟨[v], []⟩ = pure [(x, v)]) (hsc : plainSc scope = true) (hx : fnd x scope.names = some .local)
  (hkeys : KeysE scope.names n x body ds kD) (hs : SortOK kD ds outs ∨ (ds.length < 2 ∧ outs = ds)) (h64 : ds.length < 60) :
  EvEq (FrameOf r) sc ρ (n + 1) (.Call (.Name f fp) [e] [⟨some kw, .Lambda params body scope lpos, kp⟩] pos) (.lst outs) := by
 intro prog w A env h₀ L s m ko led news Q E hPe hsc' Si S K
 obtain rfl := zW.mp hkw
 have hPe' : env = envX (Str.ofString r.qual) (zD r.st) L r.f (.ref r.cdv) [] := hPe
 generalize hkey : Str.ofString "key" = key
 show wpAny _ A (do callWith pos (← eval (.Name f fp) env) [] (backTo pos (starEach [e] env)) (backToKw pos (keywordEach [⟨some key, .Lambda params body scope lpos, kp⟩] env))) Q E s
 refine wpAny_bind (zAl hsc' Si S hk hd ef ?_)
 have hkws : keywordEach [⟨some key, .Lambda params body scope lpos, kp⟩] env = [(some key, eval (.Lambda params body scope lpos) env)] := rfl
 generalize hlam : eval (.Lambda params body scope lpos) env = lam at hkws
 refine callWith_kw ?_ (by rw [zB hst]; rfl) (by rw [zAr]; exact zAa (by simp [hst])) (by rw [hkws]; rfl) (by rw [hkws]; rfl)
 rw [hkws]
 refine zH hst he zO prog w A env h₀ L s m ko led news _ _ pos hsc' Si S fun vs h' tk led' news' S' i rr => ?_
 obtain ⟨v, rfl, rv⟩ := Rs.inv1 rr
 show wpAny _ A (evalAll [do let v ← lam; standAt pos; pure v]) _ _ _
 subst hlam
 subst hkey
 refine Rows.evalAll_cons (wpAny_bind ?_)
 subst hPe'
 refine lam_make (s := (sw s h' tk)) Si S' hP hpos hq (codeHd_of_K Si.X (hcode _)) hdef hcl fun g h2 tk2 led2 news2 S2 i2 hl => ?_
 refine wpAny_bind (wpAny_standAt (wpAny_pure ?_))
 refine Rows.evalAll_nil ?_
 show wpAny _ A (call (.builtin "sorted") [v] [(Str.ofString "key", .ref g)]) Q E (sw s h2 tk2)
 exact sorted_keyed (s := (sw s h2 tk2)) Si S2 hl hbind hsc hx (R.mono i2 rv) hkeys hs h64 fun u h3 tk3 led3 news3 S3 i3 r3 => K u h3 tk3 led3 news3 S3 (Inc.trans i (Inc.trans i2 i3)) r3
theorem zCa {sc ρ n x xp att pos C ns ds d} (ex : fnd x ρ = some (.obj C ns ds)) (hd : zM x = true) (ha : isAt C att = true) (hf : fld att ns ds = some d) : EvE sc ρ n (.Attribute (.Name x xp) att pos) d := by
 intro prog w A env h₀ L s m ko led news Q E hs Si S K
 obtain ⟨mm, X⟩ := S.loc
 obtain ⟨v, V, ⟨a, dx, es, k, vs, rfl, m1, m2, hk, rfl, rr, n1, n2⟩, kk⟩ := X.at' x _ ex
 refine Attribute_any_ (load_vw Si.kd S X.lc V hd ?_) (attr_eq rfl)
 obtain ⟨v, hl, rv⟩ := getL_fld hk rr hf
 obtain ⟨c1, c2⟩ := chk_of (P := w.params) ha
 have c1 := chk_c c1
 have c2 := chk_a c2
 obtain ⟨_, e1, c3⟩ := c2.1.2
 exact get_own S.F Si.X (W.InstAt.of_news S.N (S.kon _ (zAw m1)) m2) c2.1.1 c1.1.1.1 e1 c3 hl (R.handed rv) (K v s.heap _ led news S (fun _ h => h) rv)
theorem blt_tuple_tup {n ds} : BltOK n (.type "tuple") [.tup ds] (.tup ds) := by
 intro prog w A env h₀ L s m ρ ko led news vs Q E Si S r K
 obtain ⟨v, rfl, rv⟩ := Rs.inv1 r
 obtain ⟨a, ws, rfl, _, hi, rr⟩ := S.isTup rv
 exact PySem.call_tuple_same hi (K _ s.heap s.toks led news S (fun _ h => h) rv)
theorem ev_addl {sc ρ n l r pos a b} (h1 : EvE sc ρ n l (.lst a)) (h2 : EvE sc ρ n r (.lst b)) (hz : Nat.ble (a.length + b.length) 10000 = true) : EvE sc ρ n (.BinOp l .Add r pos) (.lst (a ++ b)) := by
 intro prog w A env h₀ L s m ko led news Q E hs Si S K
 refine wpAny_BinOp (h1 prog w A env h₀ L s m ko led news _ E hs Si S fun v h' tk led' news' S' i ra => ?_)
 refine h2 prog w A env h₀ L _ m ko led' news' _ E hs Si S' fun v2 h2' tk2 led2 news2 S2 i2 rb => ?_
 obtain ⟨x, vs, c, rfl, m1, hi1, r1⟩ := S2.isLst (R.mono i2 ra)
 obtain ⟨y, ws, c', rfl, m2, hi2, r2⟩ := S2.isLst rb
 have hl1 := Rs.length r1
 have hl2 := Rs.length r2
 have hz' := Nat.le_of_ble_eq_true hz
 refine add_lists (s := (sw s h2' tk2)) S2.F S2.N hi1 hi2 (fun h3 F3 N3 => ?_) (by have : sizeLine = 2 ^ 24 := rfl; lia)
 obtain ⟨led3, i3, S3, r3⟩ := S2.newList F3 N3 (Rs.append r1 r2)
 exact K _ h3 tk2 led3 _ S3 (Inc.trans i (Inc.trans i2 i3)) r3
theorem ex1_expr {sc ρ n e pos d} (hn : zBx e = true) (h : EvE sc ρ n e d) : Ex1 sc ρ n (.Expr e pos) .next ρ := by
 intro prog w A env h₀ L s m ko led news Q hs hl Si S K
 exact wpAny_Expr_any (h prog w A env h₀ L s m ko led news _ _ hs Si S fun v h' tk led' news' S' i _ => K .next h' tk m led' news' S' i rfl) (inter_false Si.kd) (noSwap hn _ _ _)
noncomputable def swapNames (sc : zT) (ts vs : List Expr) : Option (List Str) :=
 if !(ts.length == 2 || ts.length == 3) || vs.length != ts.length then none
 else if vs.any (fun | .Starred .. => true | _ => false) then none
 else
  let line := (ts.head?.map (·.pos.line)).getD 0
  let names := ts.filterMap fun
   | .Name id pos => if (fnd id sc == some .local) && pos.line == line then some id else none
   | _ => none
  if names.length != ts.length || names.eraseDups.length != names.length then none
  else if vs.all (foldedForSure 8) then none
  else if vs.all (constantsAlone 8) then none
  else some names
theorem if_some {α : Type} {c : Prop} [Decidable c] {r : Option α} {x : α} (h : (if c then none else r) = some x) : ¬ c ∧ r = some x := by
 by_cases q : c
 ·rw [if_pos q] at h
  cases h
 ·rw [if_neg q] at h
  exact ⟨q, h⟩
theorem swap_of {sc ts vs names} {k k' : Nat} {tp vp env} (h : swapNames sc ts vs = some names) (hs : env.scope.names = sc) (hk : env.scope.kind = .function) : swappedStores [.Tuple ts k tp] (.Tuple vs k' vp) env = pure (some names) := by
 have hb : env.blockKind = .function := by unfold Env.blockKind; rw [hk]; rfl
 obtain ⟨h1, h⟩ := if_some h
 obtain ⟨h2, h⟩ := if_some h
 obtain ⟨h3, h⟩ := if_some h
 obtain ⟨h4, h⟩ := if_some h
 obtain ⟨h5, h⟩ := if_some h
 obtain rfl := Option.some.inj h
 unfold swappedStores
 rw [show env.kindOf = fun id => fnd id sc from funext fun id => kind_of hs, hb]
 refine Eq.trans (if_neg fun q => h1 ?_) ?_
 ·rw [bne_self_eq_false, Bool.or_false] at q
  exact q
 refine Eq.trans (if_neg h2) ?_
 refine Eq.trans (if_neg h3) ?_
 refine Eq.trans (if_neg h4) ?_
 refine Eq.trans (if_neg h5) ?_
 rfl
noncomputable def bindS (sc : zT) : List Str -> List D -> Loc -> Option Loc
 | [], [], ρ => some ρ
 | x :: es, d :: ds, ρ => gd (zAu sc x) (bindS sc es ds (put x (.val d) ρ))
 | _, _, _ => none
theorem asg_binds {prog w A E sc env h₀ L ko led news} (hs : env.scope.names = sc) (hl : env.locals = L) (kd : env.scope.kind = .function) : ∀ {es ds vs ρ ρ' s m Q},
  bindS sc es ds ρ = some ρ' -> St env h₀ L s.heap m ρ ko led news -> Rs led ds vs -> (∀ h' tk m', St env h₀ L h' m' ρ' ko led news -> Q () (sw s h' tk)) -> wpAny (model prog w) A (assignInOrder (es.map fun n => bindName env n) vs) Q E s
 | [], [], vs, ρ, ρ', s, m, Q, h, S, r, K => by
  obtain rfl := Option.some.inj h
  exact assignInOrder_nil (K s.heap s.toks m S)
 | [], _ :: _, _, _, _, _, _, _, h, _, _, _ => by cases h
 | _ :: _, [], _, _, _, _, _, _, h, _, _, _ => by cases h
 | x :: es, d :: ds, vs, ρ, ρ', s, m, Q, h, S, r, K => by
  have h : gd (zAu sc x) (bindS sc es ds (put x (.val d) ρ)) = some ρ' := h
  cases hx : zAu sc x with
  | false =>
   rw [hx] at h
   cases h
  | true =>
   rw [hx] at h
   obtain ⟨v, vs, rfl, r1, r2⟩ := r
   refine assignInOrder_cons (t := bindName env x) ?_
   refine wpAny_bindName (store_ kd hl (zL hs hx) S.F S.N fun h' F N => ?_)
   exact asg_binds hs hl kd h (s := (sw s h' (s.toks + 1))) (S.putVal hl (zL hs hx) F N r1) r2 fun h2 tk2 m2 S2 => K h2 tk2 m2 S2
theorem bindS_len {sc} : ∀ {es ds ρ ρ'}, bindS sc es ds ρ = some ρ' -> es.length = ds.length
 | [], [], _, _, _ => rfl
 | [], _ :: _, _, _, h => by cases h
 | _ :: _, [], _, _, h => by cases h
 | x :: es, d :: ds, ρ, ρ', h => by
  have h : gd (zAu sc x) (bindS sc es ds (put x (.val d) ρ)) = some ρ' := h
  cases hx : zAu sc x with
  | false =>
   rw [hx] at h
   cases h
  | true =>
   rw [hx] at h
   exact congrArg (· + 1) (bindS_len (es := es) (ds := ds) h)
theorem Rs.reverse {led} : ∀ {ds vs}, Rs led ds vs -> Rs led ds.reverse vs.reverse
 | [], _, x => by obtain rfl : _ = [] := x; exact Rs.nil
 | d :: ds, _, x => by
  obtain ⟨v, r, rfl, a, b⟩ := x
  rw [List.reverse_cons, List.reverse_cons]
  exact Rs.append (Rs.reverse b) (Rs.one a)
theorem ex1_assign_swap {sc ρ ρ' n elts k tpos es k' vpos pos ds names} (hsw : swapNames sc elts es = some names) (h : EvE sc ρ n (.Tuple es k' vpos) (.tup ds)) (hb : bindS sc names.reverse ds.reverse ρ = some ρ') : Ex1 sc ρ n (.Assign [.Tuple elts k tpos] (.Tuple es k' vpos) pos) .next ρ' := by
 intro prog w A env h₀ L s m ko led news Q hs hl Si S K
 refine Rows.Assign_Tuple_swapped (names := names) (h prog w A env h₀ L s m ko led news _ _ hs Si S fun v h' tk led' news' S' i rv => ?_) rfl (swap_of hsw hs Si.kd)
 obtain ⟨a, vs, rfl, hm, hi, rr⟩ := S'.isTup rv
 have hlen : names.length = vs.toArray.size := by
  have := bindS_len hb
  rw [List.length_reverse, List.length_reverse] at this
  rw [this, List.size_toArray, Rs.length rr]
 rw [hlen]
 refine wpAny_unpackItems_tuple Si.hd hi fun h2 he => ?_
 have S2 : St env h₀ L h2 m ρ ko led' news' := S'.re (S'.F.extBut he (Nat.le_refl _)) fun p hp => by
  have z := S'.N p hp
  exact ⟨he p.1 p.2 (Nat.ne_of_lt (Heap.lt_size z.1)) z.1, z.2⟩
 exact asg_binds hs hl Si.kd hb (s := (sw s h2 tk)) S2 (by simpa using Rs.reverse rr) fun h3 tk3 m3 S3 => K .next h3 tk3 m3 led' news' S3 i rfl
noncomputable def foldedAll (vs : List Expr) : Bool := vs.all (foldedForSure 8)
noncomputable def someStar (vs : List Expr) : Bool := vs.any (fun | .Starred .. => true | _ => false)
theorem plain_of {ts vs} {k k' : Nat} {tp vp env} (h : foldedAll vs = true) (h2 : someStar vs = false) : swappedStores [.Tuple ts k tp] (.Tuple vs k' vp) env = pure none := by
 unfold foldedAll at h
 unfold someStar at h2
 unfold swappedStores
 simp only [h, h2]
 simp only [Bool.false_eq_true, if_false, if_true, pure_bind]
 split
 ·rfl
 ·split
  ·rfl
  ·split
   ·rfl
   ·rfl
end
end Mine
end
section
open PySem PySem.W PyProof.Rows PySem.Calls PyProof PySem.SeqAt
set_option Elab.async false
set_option maxRecDepth 100000
set_option maxHeartbeats 0
set_option linter.all false
namespace Mine
variable [hF : HashFn]
noncomputable section
noncomputable def bA (r : FnR) (vs : List Value) : Sem (List (Str × Value)) := bindArgs (fnOf (fnName r.st) (Str.ofString r.qual) (fnParams r.st) (zG r.st) (zD r.st) r.dV .none .none r.pm none (.ref r.cdv) .none) ⟨vs, []⟩
noncomputable def Fn : Nat -> (List Value -> Prop) -> Prop
 | 0, P => P []
 | k + 1, P => ∀ v, Fn k fun vs => P (v :: vs)
theorem lenV : ∀ {k : Nat} {P : List Value -> Prop}, Fn k P -> ∀ vs : List Value, vs.length = k -> P vs
 | 0, _, h, vs, e => List.length_eq_zero_iff.mp e ▸ h
 | k + 1, P, h, vs, e => by
  cases vs with
  | nil => cases e
  | cons v vs => exact lenV (h v) vs (Nat.succ.inj e)
theorem bnd {r ns} {k : Nat} (h : Fn k fun vs => bA r vs = pure (ns.zip (vs ++ []))) : BindOK r ns k [] := fun w s vs X e => ⟨[], Rs.nil, BindsTo.of_eq (lenV h vs e)⟩
theorem bndD {r ns} {k : Nat} {ex} (es : List Value) (hR : Rs [] ex es) (h : ∀ (w : World) (s : Shared), (KW w.params).In s.heap -> Fn k fun vs => BindsTo s (fnOf (fnName r.st) (Str.ofString r.qual) (fnParams r.st) (zG r.st) (zD r.st) r.dV .none .none r.pm none (.ref r.cdv) .none) ⟨vs, []⟩ (ns.zip (vs ++ es))) : BindOK r ns k ex := fun w s vs X e => ⟨es, hR, lenV (h w s X) vs e⟩
theorem b36 : BindOK r36 [S' "self", S' "what", S' "at"] 2 [.none] := bndD [.none] (Rs.cons R_none (Rs.nil)) fun w s X _ _ => binds_K X (T := 29) (o := ob29) rfl (by rfl') rfl rfl (by rfl')
theorem g122 : Gd r122 [S' "worth", S' "width"] 2 [] := ⟨mem_fn122, by rfl', bnd fun _ _ => by show _ = _; rfl', by rfl', rfl, by rfl'⟩
theorem g268 : Gd r268 [S' "form", S' "instruction"] 2 [] := ⟨mem_fn268, by rfl', bnd fun _ _ => by show _ = _; rfl', by rfl', rfl, by rfl'⟩
theorem g681 : Gd r681 [S' "mem"] 1 [] := ⟨mem_fn681, by rfl', bnd fun _ => by show _ = _; rfl', by rfl', rfl, by rfl'⟩
theorem g829 : Gd r829 [S' "self"] 1 [] := ⟨mem_fn829, by rfl', bnd fun _ => by show _ = _; rfl', by rfl', rfl, by rfl'⟩
theorem g862 : Gd r862 [S' "form", S' "instruction"] 2 [] := ⟨mem_fn862, by rfl', bnd fun _ _ => by show _ = _; rfl', by rfl', rfl, by rfl'⟩
theorem g904 : Gd r904 [S' "form", S' "reg", S' "rm", S' "shape", S' "begin"] 5 [] := ⟨mem_fn904, by rfl', bnd fun _ _ _ _ _ => by show _ = _; rfl', by rfl', rfl, by rfl'⟩
theorem g924 : Gd r924 [S' "form", S' "instruction", S' "shape"] 3 [] := ⟨mem_fn924, by rfl', bndD [] (Rs.nil) fun w s X _ _ _ => binds_K X (T := 917) (o := ob917) rfl (by rfl') rfl rfl (by rfl'), by rfl', rfl, by rfl'⟩
theorem b936 : BindOK r936 [S' "iset", S' "instruction"] 2 [] := bnd fun _ _ => by show _ = _; rfl'
theorem g943 : Gd r943 [S' "form", S' "instruction", S' "shape"] 3 [] := ⟨mem_fn943, by rfl', bnd fun _ _ _ => by show _ = _; rfl', by rfl', rfl, by rfl'⟩
theorem g950 : Gd r950 [S' "rows", S' "refusals"] 2 [] := ⟨mem_fn950, by rfl', bnd fun _ _ => by show _ = _; rfl', by rfl', rfl, by rfl'⟩
theorem g955 : Gd r955 [S' "iset", S' "instruction"] 2 [] := ⟨mem_fn955, by rfl', bnd fun _ _ => by show _ = _; rfl', by rfl', rfl, by rfl'⟩
theorem g962 : Gd r962 [S' "iset", S' "instruction"] 2 [] := ⟨mem_fn962, by rfl', bnd fun _ _ => by show _ = _; rfl', by rfl', rfl, by rfl'⟩
theorem g969 : Gd r969 [S' "iset", S' "instruction"] 2 [] := ⟨mem_fn969, by rfl', bnd fun _ _ => by show _ = _; rfl', by rfl', rfl, by rfl'⟩
theorem b974 : BindOK r974 [S' "form"] 1 [] := bnd fun _ => by show _ = _; rfl'
theorem b988 : BindOK r988 [S' "self", S' "forms"] 2 [] := bnd fun _ _ => by show _ = _; rfl'
theorem g1000 : Gd r1000 [S' "self", S' "name"] 2 [] := ⟨mem_fn1000, by rfl', bnd fun _ _ => by show _ = _; rfl', by rfl', rfl, by rfl'⟩
theorem g1140 : Gd r1140 [S' "number"] 1 [] := ⟨mem_fn1140, by rfl', bnd fun _ => by show _ = _; rfl', by rfl', rfl, by rfl'⟩
theorem g1147 : Gd r1147 [S' "number"] 1 [] := ⟨mem_fn1147, by rfl', bnd fun _ => by show _ = _; rfl', by rfl', rfl, by rfl'⟩
theorem b1152 : BindOK r1152 [S' "kind", S' "worth"] 2 [] := bnd fun _ _ => by show _ = _; rfl'
theorem g1159 : Gd r1159 [S' "rows", S' "number", S' "worth"] 3 [] := ⟨mem_fn1159, by rfl', bnd fun _ _ _ => by show _ = _; rfl', by rfl', rfl, by rfl'⟩
theorem g1171 : Gd r1171 [S' "rows", S' "base", S' "disp", S' "worth"] 4 [] := ⟨mem_fn1171, by rfl', bnd fun _ _ _ _ => by show _ = _; rfl', by rfl', rfl, by rfl'⟩
theorem g1178 : Gd r1178 [S' "iset", S' "line"] 2 [] := ⟨mem_fn1178, by rfl', bnd fun _ _ => by show _ = _; rfl', by rfl', rfl, by rfl'⟩
theorem g1185 : Gd r1185 [S' "iset", S' "line"] 2 [] := ⟨mem_fn1185, by rfl', bnd fun _ _ => by show _ = _; rfl', by rfl', rfl, by rfl'⟩
noncomputable def nms (r : FnR) : List Str := (fnParams r.st).args.map (·.arg)
noncomputable def exOf (r : FnR) : List D := match r.dV with
 | .ref a => bif Nat.beq a 207 then [.int 0, .bool false] else bif Nat.beq a 365 || Nat.beq a 452 then [.str (S' "")] else bif Nat.beq a 399 then [.str (S' ""), .str (S' "")] else bif Nat.beq a 29 then [.none] else []
 | _ => []
noncomputable def BO (r : FnR) : Prop := BindOK r (nms r) r.ar (exOf r)
theorem bo {r} (h : Fn r.ar fun vs => bA r vs = pure ((nms r).zip (vs ++ []))) (e : exOf r = []) : BO r := by
 unfold BO
 rw [e]
 exact bnd h
noncomputable def PB : List FnR -> Prop
 | [] => True
 | r :: l => BO r ∧ PB l
noncomputable def PBs : List (List FnR) -> Prop
 | [] => True
 | l :: t => PB l ∧ PBs t
theorem pbs_ok : PBs fnLL := ⟨⟨bndD [.none] (Rs.cons R_none (Rs.nil)) fun w s X _ _ => binds_K X (T := 29) (o := ob29) rfl (by rfl') rfl rfl (by rfl'), bo (fun _ => by show _ = _; rfl') (by rfl'), bo (fun _ _ => by show _ = _; rfl') (by rfl'), bo (fun _ _ => by show _ = _; rfl') (by rfl'), bo (fun _ _ => by show _ = _; rfl') (by rfl'), bo (fun _ _ => by show _ = _; rfl') (by rfl'), bo (fun _ _ => by show _ = _; rfl') (by rfl'), bo (fun _ _ => by show _ = _; rfl') (by rfl'), trivial⟩,
 ⟨bo (fun _ => by show _ = _; rfl') (by rfl'), bo (fun _ => by show _ = _; rfl') (by rfl'), bo (fun _ => by show _ = _; rfl') (by rfl'), bo (fun _ => by show _ = _; rfl') (by rfl'), bo (fun _ => by show _ = _; rfl') (by rfl'), bo (fun _ => by show _ = _; rfl') (by rfl'), bo (fun _ => by show _ = _; rfl') (by rfl'), bo (fun _ _ => by show _ = _; rfl') (by rfl'), bo (fun _ _ _ => by show _ = _; rfl') (by rfl'), bo (fun _ _ _ => by show _ = _; rfl') (by rfl'), bndD [(.int 0 434), (.bool false)] (Rs.cons R_int (Rs.cons R_bool (Rs.nil))) fun w s X _ _ _ _ _ _ _ => binds_K X (T := 207) (o := ob207) rfl (by rfl') rfl rfl (by rfl'), bo (fun _ => by show _ = _; rfl') (by rfl'), bo (fun _ => by show _ = _; rfl') (by rfl'), trivial⟩,
 ⟨bo (fun _ _ => by show _ = _; rfl') (by rfl'), bo (fun _ _ => by show _ = _; rfl') (by rfl'), bo (fun _ _ => by show _ = _; rfl') (by rfl'), bndD [(.str (Str.ofString "") 632)] (Rs.cons R_str (Rs.nil)) fun w s X _ _ => binds_K X (T := 365) (o := ob365) rfl (by rfl') rfl rfl (by rfl'), trivial⟩,
 ⟨bndD [(.str (Str.ofString "") 675), (.str (Str.ofString "") 676)] (Rs.cons R_str (Rs.cons R_str (Rs.nil))) fun w s X _ _ _ _ _ _ => binds_K X (T := 399) (o := ob399) rfl (by rfl') rfl rfl (by rfl'), bo (fun _ => by show _ = _; rfl') (by rfl'), bndD [(.str (Str.ofString "") 750)] (Rs.cons R_str (Rs.nil)) fun w s X _ _ _ => binds_K X (T := 452) (o := ob452) rfl (by rfl') rfl rfl (by rfl'), bo (fun _ => by show _ = _; rfl') (by rfl'), trivial⟩,
 ⟨bo (fun _ => by show _ = _; rfl') (by rfl'), bo (fun _ => by show _ = _; rfl') (by rfl'), bo (fun _ => by show _ = _; rfl') (by rfl'), bo (fun _ _ _ => by show _ = _; rfl') (by rfl'), bo (fun _ => by show _ = _; rfl') (by rfl'), bo (fun _ _ _ => by show _ = _; rfl') (by rfl'), bo (fun _ _ _ => by show _ = _; rfl') (by rfl'), bo (fun _ => by show _ = _; rfl') (by rfl'), bo (fun _ => by show _ = _; rfl') (by rfl'), bo (fun _ _ _ _ _ _ _ => by show _ = _; rfl') (by rfl'), bo (fun _ => by show _ = _; rfl') (by rfl'), bo (fun _ => by show _ = _; rfl') (by rfl'), bo (fun _ => by show _ = _; rfl') (by rfl'), bo (fun _ => by show _ = _; rfl') (by rfl'), bo (fun _ => by show _ = _; rfl') (by rfl'), trivial⟩,
 ⟨bo (fun _ => by show _ = _; rfl') (by rfl'), bo (fun _ => by show _ = _; rfl') (by rfl'), bo (fun _ => by show _ = _; rfl') (by rfl'), bo (fun _ => by show _ = _; rfl') (by rfl'), bo (fun _ => by show _ = _; rfl') (by rfl'), bo (fun _ => by show _ = _; rfl') (by rfl'), bo (fun _ _ _ => by show _ = _; rfl') (by rfl'), bo (fun _ _ _ _ => by show _ = _; rfl') (by rfl'), bo (fun _ => by show _ = _; rfl') (by rfl'), bndD [] (Rs.nil) fun w s X _ _ _ _ _ _ => binds_K X (T := 724) (o := ob724) rfl (by rfl') rfl rfl (by rfl'), bo (fun _ => by show _ = _; rfl') (by rfl'), trivial⟩,
 ⟨bo (fun _ _ _ _ _ => by show _ = _; rfl') (by rfl'), bo (fun _ => by show _ = _; rfl') (by rfl'), bo (fun _ _ _ => by show _ = _; rfl') (by rfl'), bo (fun _ => by show _ = _; rfl') (by rfl'), bo (fun _ _ => by show _ = _; rfl') (by rfl'), bo (fun _ => by show _ = _; rfl') (by rfl'), bo (fun _ _ _ _ _ => by show _ = _; rfl') (by rfl'), bo (fun _ _ => by show _ = _; rfl') (by rfl'), bo (fun _ _ => by show _ = _; rfl') (by rfl'), trivial⟩,
 ⟨bo (fun _ _ _ _ _ => by show _ = _; rfl') (by rfl'), bo (fun _ _ => by show _ = _; rfl') (by rfl'), bo (fun _ _ => by show _ = _; rfl') (by rfl'), bndD [] (Rs.nil) fun w s X _ _ _ => binds_K X (T := 917) (o := ob917) rfl (by rfl') rfl rfl (by rfl'), bo (fun _ _ => by show _ = _; rfl') (by rfl'), bo (fun _ _ => by show _ = _; rfl') (by rfl'), bo (fun _ _ _ => by show _ = _; rfl') (by rfl'), bo (fun _ _ => by show _ = _; rfl') (by rfl'), bo (fun _ _ => by show _ = _; rfl') (by rfl'), bo (fun _ _ => by show _ = _; rfl') (by rfl'), bo (fun _ _ => by show _ = _; rfl') (by rfl'), bo (fun _ => by show _ = _; rfl') (by rfl'), bo (fun _ _ => by show _ = _; rfl') (by rfl'), bo (fun _ _ => by show _ = _; rfl') (by rfl'), trivial⟩,
 ⟨bo (fun _ _ _ _ _ => by show _ = _; rfl') (by rfl'), bo (fun _ => by show _ = _; rfl') (by rfl'), bo (fun _ => by show _ = _; rfl') (by rfl'), bo (fun _ => by show _ = _; rfl') (by rfl'), bo (fun _ => by show _ = _; rfl') (by rfl'), bo (fun _ => by show _ = _; rfl') (by rfl'), bo (fun _ => by show _ = _; rfl') (by rfl'), bo (fun _ _ => by show _ = _; rfl') (by rfl'), bndD [] Rs.nil fun w s X => BindsTo.of_eq (by rfl'), bo (fun _ => by show _ = _; rfl') (by rfl'), bo (fun _ => by show _ = _; rfl') (by rfl'), trivial⟩,
 ⟨bo (fun _ _ => by show _ = _; rfl') (by rfl'), bo (fun _ _ _ => by show _ = _; rfl') (by rfl'), bo (fun _ _ => by show _ = _; rfl') (by rfl'), bo (fun _ _ _ _ => by show _ = _; rfl') (by rfl'), bo (fun _ _ => by show _ = _; rfl') (by rfl'), bo (fun _ _ => by show _ = _; rfl') (by rfl'), trivial⟩, trivial⟩
end
end Mine
end
section
open PySem PySem.W PyProof.Rows PySem.Calls PyProof
set_option Elab.async false
set_option maxRecDepth 100000
set_option linter.all false
namespace Mine
noncomputable section
section
variable {β : Type}
noncomputable def onFl (f g : Loc -> Option β) (k : D -> Loc -> Option β) (p : Fl × Loc) : Option β := p.rec fun a ρ => a.rec (f ρ) (g ρ) (f ρ) fun v => k v ρ
theorem Sat.onFl {P : Fl × Loc -> Prop} {Q : β -> Prop} {f g : Loc -> Option β} {k : D -> Loc -> Option β} (h : ∀ a ρ, a = .next ∨ a = .cont -> P (a, ρ) -> Sat Q (f ρ)) (l : ∀ ρ, P (.brk, ρ) -> Sat Q (g ρ)) (m : ∀ v ρ, P (.ret v, ρ) -> Sat Q (k v ρ)) (p : Fl × Loc) (a : P p) : Sat Q (onFl f g k p) := by
 obtain ⟨x, ρ⟩ := p
 cases x with
 | next => exact h _ _ (.inl rfl) a
 | cont => exact h _ _ (.inr rfl) a
 | brk => exact l _ a
 | ret => exact m _ _ a
end
end
end Mine
end
section
open PySem PySem.W PyProof.Rows PySem.Calls PyProof PySem.SeqAt
set_option Elab.async false
set_option maxRecDepth 100000
set_option linter.all false
set_option genInjectivity false
set_option genSizeOf false
namespace Mine
variable [hF : HashFn]
noncomputable section
noncomputable abbrev Orc := Nat -> List D -> Option (Nat × D)
noncomputable def OrcOK (o : Orc) : Prop := ∀ f ds n d, o f ds = some (n, d) -> zF n f ds d
structure FnE where
 r : FnR
 names : List Str
 ar : Nat
 ex : List D
noncomputable def FnE.still (e : FnE) : Bool := plainSc (zD e.r.st) && zAz e.names && Nat.beq e.names.length (e.ar + e.ex.length) && e.names.all (fun x => zAu (zD e.r.st).names x)
noncomputable def FnE.ok (e : FnE) : Prop := Gd e.r e.names e.ar e.ex
noncomputable def headO {α : Type} : List α -> Option (α × List α)
 | [] => none
 | a :: l => some (a, l)
noncomputable def predO : Nat -> Option Nat
 | 0 => none
 | k + 1 => some k
noncomputable def isCont : Fl -> Bool
 | .cont => true
 | _ => false
noncomputable def isNext : Fl -> Bool
 | .next => true
 | _ => false
noncomputable def bltB (d : D) (i : String) : Option D := cond (i == "len") ((lenD d).bind fun k => gd (Nat.ble k 1000000) (some (.int k)))
 (cond (i == "abs") (onI (fun i => some (.int (if i < 0 then -i else i))) d)
 (cond (i == "sum") (onLT (fun ds => (intsOf ds).map fun ns => .int ns.sum) noV d)
 (cond (i == "sorted") (onLT (fun ds => cond (Nat.blt ds.length 2) (some (.lst ds)) (gd (Nat.ble 2 ds.length && Nat.ble ds.length 60) ((orderOf ds).map fun p => .lst (p.map fun i => ds.getD i .none)))) noV d) none)))
noncomputable def bltT (d : D) (i : String) : Option D := cond (i == "int") ((intD d).map .int)
 (cond (i == "bytes") (onLT (fun ds => (intsOf ds).bind fun ns => gd (ns.all okByte && Nat.ble ds.length 10000) (some (.bytes (ns.map zAt)))) noV d)
 (cond (i == "tuple") (onLT (fun ds => gd (Nat.ble ds.length 10000) (some (.tup ds))) (fun ds => some (.tup ds)) d)
 (cond (i == "list") ((itemsD d).bind fun ds => gd (Nat.ble ds.length 10000) (some (.lst ds)))
 (cond (i == "str") (onI (fun a => gd (Nat.blt a.natAbs.log2 1920) (some (.str (Str.ofString (toString a))))) d) none))))
noncomputable def bltV (d : D) : Value -> Option D
 | .builtin i => bltB d i
 | .type i => bltT d i
 | _ => none
noncomputable def bltD (bv : Value) (ds : List D) : Option D := on012 none (fun d => bltV d bv) (fun _ _ => none) ds
theorem Sat.eqS {α : Type} {P : String -> α -> Prop} {a b : Option α} {s i : String} (h : Sat (P s) a) (k : Sat (P i) b) : Sat (P i) (_root_.cond (i == s) a b) := .cond (fun q => (beq_iff_eq.mp q).symm ▸ h) fun _ => k
noncomputable def BP (f : String -> Value) (n : Nat) (d : D) (i : String) (e : D) : Prop := BltOK n (f i) [d] e ∧ isB (f i) = true
theorem bltB_ok {n i d} : Sat (BP .builtin n d i) (bltB d i) :=
 .eqS (.bind .is fun k e => .gd fun c => .some ⟨blt_len e c, rfl⟩) (.eqS (.onIx (P := fun d => BP _ n d _) (fun i => .some ⟨blt_abs, rfl⟩) d)
  (.eqS (.onLTx (P := fun d => BP _ n d _) (fun ds => .map .is fun ns e => ⟨blt_sum e, rfl⟩) (fun _ => .none) d)
  (.eqS (.onLTx (P := fun d => BP _ n d _) (fun ds => .cond (fun z => .some ⟨blt_sorted_short z, rfl⟩) fun _ => .gd2 fun z1 z2 => .map .is fun p e => ⟨blt_sorted (order_ok e rfl) z1 z2, rfl⟩) (fun _ => .none) d) .none)))
theorem bltT_ok {n i d} : Sat (BP .type n d i) (bltT d i) :=
 .eqS (.map .is fun k e => ⟨blt_int e, rfl⟩) (.eqS (.onLTx (P := fun d => BP _ n d _) (fun ds => .bind .is fun ns e => .gd2 fun c1 c2 => .some ⟨blt_bytes e c1 c2, rfl⟩) (fun _ => .none) d)
  (.eqS (.onLTx (P := fun d => BP _ n d _) (fun ds => .gd fun c => .some ⟨blt_tuple c, rfl⟩) (fun _ => .some ⟨blt_tuple_tup, rfl⟩) d)
  (.eqS (.bind .is fun ds e => .gd fun c => .some ⟨blt_list e c, rfl⟩)
  (.eqS (.onIx (P := fun d => BP _ n d _) (fun a => .gd fun c => .some ⟨blt_str (Nat.le_of_ble_eq_true (show Nat.ble (_ + 1) 1920 = true from c)), rfl⟩) d) .none))))
theorem bltD_ok {n bv ds} : Sat (fun d => BltOK n bv ds d ∧ isB bv = true) (bltD bv ds) :=
 .on012 (P := fun ds d => BltOK n bv ds d ∧ isB bv = true) .none (fun d => by cases bv <;> first | exact bltB_ok | exact bltT_ok | exact .none) (fun _ _ => .none) ds
noncomputable def frz : List Str -> Loc -> Loc
 | [], ρ => ρ
 | x :: xs, ρ => (fnd x ρ).rec (frz xs ρ) fun l => l.rec (fun _ => frz xs ρ) (fun ds => frz xs (put x (.val (.lst ds)) ρ)) fun _ _ _ => frz xs ρ
theorem ex1_frz {sc n st fl ρ'} : ∀ {xs ρ}, Ex1 sc (frz xs ρ) n st fl ρ' -> Ex1 sc ρ n st fl ρ'
 | [], _, h => h
 | x :: xs, ρ, h => by
  have h : Ex1 sc ((fnd x ρ).rec (frz xs ρ) fun l => l.rec (fun _ => frz xs ρ) (fun ds => frz xs (put x (.val (.lst ds)) ρ)) fun _ _ _ => frz xs ρ) n st fl ρ' := h
  revert h
  cases e : fnd x ρ with
  | none => exact ex1_frz
  | some l => cases l with
   | own ds => exact fun h => zCd e (ex1_frz h)
   | _ => exact ex1_frz
noncomputable def owns : Loc -> List Str
 | [] => []
 | (x, l) :: r => l.rec (fun _ => owns r) (fun _ => x :: owns r) fun _ _ _ => owns r
noncomputable def notTupE (e : Expr) : Bool := match fv e with
 | .tup .. => false
 | _ => true
theorem noSwapT {e} (h : notTupE e = true) (elts : List Expr) (k : Nat) (tp : Pos) (env : Env) : swappedStores [.Tuple elts k tp] e env = pure none := by
 cases e <;> first | rfl | cases h
noncomputable def addL (op : Operator) (a b : D) : Option D := match op with
 | .Add => onLT (fun x => onLT (fun y => gd (Nat.ble (x.length + y.length) 10000) (some (.lst (x ++ y)))) noV b) noV a
 | _ => none
structure Rec where
 e : zT -> Loc -> Expr -> Option D
 t : zT -> Loc -> Expr -> Option Bool
 l : zT -> Loc -> List Expr -> Option (List D)
 c : Nat -> List D -> Option D
 i : Nat -> Nat -> List Str -> List D -> List D -> Option (List Str × List D)
 s : zT -> Loc -> List Stmt -> Option (Fl × Loc)
 lp : zT -> Str -> List Stmt -> Loc -> List D -> Option (Fl × Loc)
 s1 : zT -> Loc -> Stmt -> Option (Fl × Loc)
 sr : zT -> Loc -> Expr -> Expr -> Option (List D)
 cp : zT -> Expr -> Expr -> List Expr -> Loc -> List D -> Option (List D)
 lt : zT -> List Expr -> List Stmt -> Loc -> List (List D) -> Option (Fl × Loc)
section
variable (r : Rec) (sc : zT) (ρ : Loc)
noncomputable def ownD {β : Type} (x : Str) (f : List D -> Option β) : Option β := (fnd x ρ).bind (onLV noV (fun ds => gd (zM x) (f ds)) noO3)
noncomputable def callE (x : Str) (e0 : Expr) (es : List Expr) : Option D := gd (zZ sc x && zM x && (e0 :: es).all zP)
 (orE (fnd x gTab) (onV (fun f => (r.l sc ρ (e0 :: es)).bind fun ds => orE (inOf f inTab) (fun g => (r.i g f [] [] ds).map fun p => .inst f p.1 p.2) (r.c f ds)) noV)
  ((fnd x bTab).bind fun bv => (r.l sc ρ (e0 :: es)).bind fun ds => bltD bv ds))
noncomputable def call0E (x : Str) : Option D := gd (zZ sc x && zM x) ((fnd x gTab).bind (onV (fun f => r.c f []) noV))
noncomputable def methE (ob : Expr) (x : Str) (apos : Pos) (es : List Expr) (pos : Pos) : Option D := (r.e sc ρ ob).bind (onSO
 (fun x1 => on012 (gd (isNm x "split" && zCf ob apos pos [] && Nat.ble x1.cps.size 1000000) (some (.lst ((Txt.words x1).map D.str))))
  (fun e1 => gd (zCf ob apos pos [e1] && Nat.ble x1.cps.size 1000000) ((r.e sc ρ e1).bind (onSO (fun y =>
   cond (isNm x "split") (cond (y.length == 0) none (some (.lst ((Txt.split x1 y).map D.str))))
   (cond (isNm x "lstrip") (some (.str (Txt.lstripChars x1 y)))
   (gd (isNm x "index") (cond (Builtin.Str.occurrences x1 y 0 x1.length 1).isEmpty none (some (.int (Txt.find x1 y))))))) noO3)))
  (fun _ _ => none) es)
 (fun C ns fs => cond (ns.any (eqS x)) none (gd (zCf ob apos pos es) ((meOf C x meTab).bind fun f => (r.l sc ρ es).bind fun ds => r.c f (.inst C ns fs :: ds)))))
noncomputable def boolE (p : Pos) (op : BoolOp) : List Expr -> Option D
 | [] => none
 | x :: l => match l with
  | [] => r.e sc ρ x
  | y :: l => (r.e sc ρ x).bind (onB fun b => match op with
   | .And => cond b (r.e sc ρ (.BoolOp .And (y :: l) p)) (some (.bool false))
   | .Or => cond b (some (.bool true)) (r.e sc ρ (.BoolOp .Or (y :: l) p)))
noncomputable def xrE : Expr -> Option D
 | .Name x _ => orE (fnd x ρ) (onLV (fun d => gd (zM x) (some d)) noV noO3) (gd (zZ sc x && zM x) ((fnd x gTab).bind litD))
 | .Constant c _ _ => constD c
 | .BinOp l op q _ => (r.e sc ρ l).bind fun a => (r.e sc ρ q).bind fun b => orO (addL op a b) (binD op a b)
 | .ListComp elt gens scope _ => onGen (fun t it ifs => gd (okSc scope && tgtOK t ifs && freeOK sc ρ scope) ((r.sr sc ρ t it).bind fun ds => gd (Nat.ble ds.length 10000) ((r.cp (zAg sc scope) t elt ifs (zCc ρ scope.names) ds).map .lst))) gens
 | .Compare l ops rs _ => onCmp (fun op q => gd (zBe q) ((r.e sc ρ l).bind fun a => (r.e sc ρ q).bind fun b => (cmpD op a b).map .bool))
   (fun op op' q q' => gd (zBe q') ((r.e sc ρ l).bind fun a => (r.e sc ρ q).bind fun b => (cmpD op a b).bind fun c => cond c ((r.e sc ρ q').bind fun d => (cmpD op' b d).map .bool) (some (.bool false)))) ops rs
 | .IfExp t x y _ => (r.t sc ρ t).bind fun c => r.e sc ρ (if c then x else y)
 | .Attribute v x _ => orE (r.e sc ρ v) (onSO noV fun C ns ds => gd (plainBase v && isAt C x) (fld x ns ds)) (onName (fun y _ => (fnd y ρ).bind (onLV noV noV fun C ns ds => gd (zM y && isAt C x) (fld x ns ds))) v)
 | .Tuple es _ _ => (r.l sc ρ es).bind fun ds => gd (Nat.ble ds.length 10000) (some (.tup ds))
 | .List es _ => (r.l sc ρ es).bind fun ds => gd (Nat.ble ds.length 10000) (some (.lst ds))
 | .Call f es ks pos => onNil (onNA (fun x _ => on0s (call0E r sc x) (callE r sc ρ x) es) (fun ob x apos => methE r sc ρ ob x apos es pos) (fun _ _ _ => none) f) ks
 | .UnaryOp op x _ => (r.e sc ρ x).bind (match op with
  | .Not => onB fun b => some (.bool (!b))
  | .USub => onI fun b => some (.int (-b))
  | _ => noV)
 | .BoolOp op es p => boolE r sc ρ p op es
 | .Subscript v i _ => (r.e sc ρ v).bind fun a => cond (notSlice i) ((r.e sc ρ i).bind (onI fun k => itemAt a k))
   (onSO (fun x => gd (Nat.ble x.cps.size 1000000) (onSl (fun u => (r.e sc ρ u).bind (onI fun j => some (.str (Txt.slice x none (some j))))) (fun u => (r.e sc ρ u).bind (onI fun j => some (.str (Txt.slice x (some j) none)))) i)) noO3 a)
 | _ => none
noncomputable def boolT (p : Pos) (op : BoolOp) : List Expr -> Option Bool
 | [] => some (match op with
  | .And => true
  | .Or => false)
 | x :: l => (r.t sc ρ x).bind fun b => match op with
  | .And => cond b (r.t sc ρ (.BoolOp .And l p)) (some false)
  | .Or => cond b (some true) (r.t sc ρ (.BoolOp .Or l p))
noncomputable def plainT (e : Expr) : Option Bool := gd (plainTest e) ((r.e sc ρ e).bind (onB some))
noncomputable def xrT : Expr -> Option Bool
 | .Compare l ops rs _ => onCmp (fun op q => orE (r.e sc ρ l) (fun a => orE (r.e sc ρ q) (fun b => gd (zBe q) (cmpD op a b)) (onName (fun x _ => ownD ρ x fun ds => cmpD op a (.lst ds)) q))
    ((r.e sc ρ q).bind fun b => onName (fun x _ => gd (zBe q) (ownD ρ x fun ds => cmpD op (.lst ds) b)) l))
   (fun op op' q q' => gd (zBe q') ((r.e sc ρ l).bind fun a => (r.e sc ρ q).bind fun b => (cmpD op a b).bind fun c => cond c ((r.e sc ρ q').bind fun d => cmpD op' b d) (some false))) ops rs
 | .UnaryOp op x p => match op with
  | .Not => (r.t sc ρ x).map not
  | _ => plainT r sc ρ (.UnaryOp op x p)
 | .BoolOp op es p => boolT r sc ρ p op es
 | e => plainT r sc ρ e
noncomputable def xrL : List Expr -> Option (List D)
 | [] => some []
 | e :: es => gd (zP e) ((r.e sc ρ e).bind fun d => (r.l sc ρ es).map fun ds => d :: ds)
noncomputable def rangeE {β : Type} (it : Expr) (f : List D -> Option β) : Option β := onCall (fun g es ks _ => onNil (onName (fun rx _ => on012 none (fun e => gd (zZ sc rx && zM rx && zP e)
 ((fnd rx bTab).bind (onV noV fun t => (r.e sc ρ e).bind (onI fun k => gd (t == "range" && decide (0 ≤ k) && Nat.ble k.toNat 1000) (f ((List.range k.toNat).map fun i => .int (i : Nat))))))) (fun _ _ => none) es) g) ks) it
noncomputable def xrSr (t it : Expr) : Option (List D) := orE (r.e sc ρ it) (onLT (fun ds => gd (zBe it) (some ds)) (fun ds => gd (notTupT t && zBe it) (some ds))) (gd (notTupT t) (rangeE r sc ρ it some))
noncomputable def xrLp (x : Str) (body : List Stmt) : List D -> Option (Fl × Loc)
 | [] => some (.next, ρ)
 | d :: ds => (r.s sc (put x (.val d) ρ) body).bind (onFl (fun ρ1 => r.lp sc x body ρ1 ds) (fun ρ1 => some (.next, ρ1)) fun v ρ1 => some (.ret v, ρ1))
noncomputable def xrLt (elts : List Expr) (body : List Stmt) : List (List D) -> Option (Fl × Loc)
 | [] => some (.next, ρ)
 | d :: ds => (zBw sc elts d ρ).bind fun ρ0 => (r.s sc ρ0 body).bind (onFl (fun ρ1 => r.lt sc elts body ρ1 ds) (fun ρ1 => some (.next, ρ1)) fun v ρ1 => some (.ret v, ρ1))
noncomputable def xrCp (t elt : Expr) (ifs : List Expr) : List D -> Option (List D)
 | [] => some []
 | d :: ds => (bindT sc t d ρ).bind fun ρ1 => on012 ((r.e sc ρ1 elt).bind fun y => (r.cp sc t elt ifs ρ ds).map fun ys => y :: ys)
   (fun c => (r.t sc ρ1 c).bind fun b => cond b ((r.e sc ρ1 elt).bind fun y => (r.cp sc t elt ifs ρ ds).map fun ys => y :: ys) (r.cp sc t elt ifs ρ ds)) (fun _ _ => none) ifs
noncomputable def xrS : List Stmt -> Option (Fl × Loc)
 | [] => some (.next, ρ)
 | s :: ss => (r.s1 sc ρ s).bind fun p => p.rec fun a ρ1 => a.rec (r.s sc ρ1 ss) (some (.brk, ρ1)) (some (.cont, ρ1)) fun v => some (.ret v, ρ1)
noncomputable def nx : Option Loc -> Option (Fl × Loc) := Option.map fun ρ => (.next, ρ)
noncomputable def forE (it : Expr) (body : List Stmt) (elts : List Expr) : Option (Fl × Loc) := onCall (fun g es ks _ => onNil (onName (fun rx _ => on012 none
  (fun e => gd (zZ sc rx && zM rx && zP e) ((fnd rx bTab).bind (onV noV fun t => gd (t == "enumerate") ((r.e sc ρ e).bind (onLT (fun ds => r.lt sc elts body ρ (zAy 0 ds)) fun ds => r.lt sc elts body ρ (zAy 0 ds))))))
  (fun e f => gd (zZ sc rx && zM rx && [e, f].all zP) ((fnd rx bTab).bind (onV noV fun t => gd (t == "zip") ((r.l sc ρ [e, f]).bind fun l => on012 none (fun _ => none) (fun a b => onLT noV (fun ds => onLT noV (fun es => gd (Nat.beq ds.length es.length) (r.lt sc elts body ρ (zipD ds es))) b) a) l)))) es) g) ks) it
noncomputable def asgTup (elts : List Expr) (e : Expr) : Option (Fl × Loc) := (r.e sc ρ e).bind (onLT noV fun ds => cond (notTupE e) (gd (zBx e) (nx (zBw sc elts ds ρ)))
 (onTup (fun es _ _ => orE (swapNames sc elts es) (fun names => nx (bindS sc names.reverse ds.reverse ρ)) (gd (foldedAll es && !(someStar es)) (nx (zBw sc elts ds ρ)))) e))
noncomputable def asgNm (x : Str) (e : Expr) : Option (Fl × Loc) := gd (zAu sc x) (cond (isNilE e) (some (.next, put x (.own []) ρ)) (gd (zBx e) (nx ((r.e sc ρ e).map fun d => put x (.val d) ρ))))
noncomputable def asgAt (ob : Expr) (att : Str) (e : Expr) : Option (Fl × Loc) := onName (fun x _ => (fnd x ρ).bind (onLV noV noV fun C ns fs => gd (zM x && isAt C att && !(ns.any (eqS att)) && Nat.ble ns.length 100 && zBx e) (nx ((r.e sc ρ e).map fun d => put x (.obj C (ns ++ [att]) (fs ++ [d])) ρ)))) ob
noncomputable def asgT : Expr -> Expr -> Option (Fl × Loc) := fun t e => onNA (fun x _ => asgNm r sc ρ x e) (fun ob att _ => asgAt r sc ρ ob att e) (fun elts _ _ => asgTup r sc ρ elts e) t
noncomputable def appE1 (x att : Str) (apos cpos : Pos) (e : Expr) : Option (Fl × Loc) := ownD ρ x fun ds => gd (isNm att "append" && Nat.ble ds.length 10000 && zP e && (apos.endLine == cpos.line)) (nx ((r.e sc ρ e).map fun d => put x (.own (ds ++ [d])) ρ))
noncomputable def supE1 (cx att : Str) (cxp apos cpos : Pos) (s e : Expr) : Option (Fl × Loc) := onName (fun self sp => gd (zZ sc cx && zM cx && isNm att "__init__" && zCf (.Name cx cxp) apos cpos [.Name self sp, e] && zM self)
 ((fnd cx gTab).bind (onV (fun a => gd (Nat.beq a 320) ((fnd self ρ).bind (onLV noV noV fun C ns fs => (r.e sc ρ e).bind fun d => nx ((r.i 296 C ns fs [d]).map fun p => put self (.obj C p.1 p.2) ρ)))) noV))) s
noncomputable def expC (e : Expr) : Option (Fl × Loc) := onCall (fun g es ks cpos => onNil (onNA (fun _ _ => none) (fun ob att apos => onName (fun x xp => on012 none (appE1 r sc ρ x att apos cpos) (supE1 r sc ρ x att xp apos cpos) es) ob) (fun _ _ _ => none) g) ks) e
noncomputable def xr1S : Stmt -> Option (Fl × Loc)
 | .Return e _ => orE e (fun e => (r.e sc (frz (owns ρ) ρ) e).map fun d => (.ret d, frz (owns ρ) ρ)) (some (.ret .none, ρ))
 | .For t it body orelse _ => onNil (onNA (fun x _ => gd (zAu sc x && zBe it) (orE (r.e sc ρ it) (onLT (r.lp sc x body ρ) (r.lp sc x body ρ)) (rangeE r sc ρ it (r.lp sc x body ρ)))) (fun _ _ _ => none) (fun elts _ _ => forE r sc ρ it body elts) t) orelse
 | .Expr e _ => orO (expC r sc ρ e) (gd (zBx e) ((r.e sc ρ e).map fun _ => (.next, ρ)))
 | .Assign ts e _ => on012 none (fun t => asgT r sc ρ t e) (fun _ _ => none) ts
 | .Continue _ => some (.cont, ρ)
 | .If t a b _ => (r.t sc ρ t).bind fun c => r.s sc ρ (if c then a else b)
 | _ => none
end
section
variable (o : Orc) (ft : Nat -> Option FnE) (n : Nat) (r : Rec)
noncomputable def xrC (f : Nat) (ds : List D) : Option D := orE (o f ds) (fun p => gd (Nat.ble p.1 n) (some p.2)) ((ft f).bind fun e => gd (Nat.beq e.r.f f && Nat.beq ds.length e.ar) ((r.s (zD e.r.st).names (vals e.names (ds ++ e.ex)) (zG e.r.st)).bind fun p => retOf p.1))
noncomputable def xrI (f C : Nat) (ns0 : List Str) (fs0 ds : List D) : Option (List Str × List D) := (ft f).bind fun e => (headO e.names).bind fun q => (predO e.ar).bind fun k => gd (Nat.beq e.r.f f && Nat.beq ds.length k)
 ((r.s (zD e.r.st).names ((q.1, .obj C ns0 fs0) :: vals q.2 (ds ++ e.ex)) (zG e.r.st)).bind fun p => gd (isNext p.1) ((fnd q.1 p.2).bind (onLV noV noV fun C' ns fs => gd (Nat.beq C' C) (some (ns, fs)))))
noncomputable def step : Rec := ⟨xrE r, xrT r, xrL r, xrC o ft n r, xrI ft r, xrS r, fun sc x body ρ => xrLp r sc ρ x body, xr1S r, xrSr r, fun sc t elt ifs ρ => xrCp r sc ρ t elt ifs, fun sc elts body ρ => xrLt r sc ρ elts body⟩
noncomputable def run (n : Nat) : Rec := n.rec ⟨fun _ _ _ => none, fun _ _ _ => none, fun _ _ _ => none, fun _ _ => none, fun _ _ _ _ _ => none, fun _ _ _ => none, fun _ _ _ _ _ => none, fun _ _ _ => none, fun _ _ _ _ => none, fun _ _ _ _ _ _ => none, fun _ _ _ _ _ => none⟩ fun n r => step o ft n r
noncomputable def evE := (run o ft n).e
noncomputable def evT := (run o ft n).t
noncomputable def evL := (run o ft n).l
noncomputable def callF := (run o ft n).c
noncomputable def evS := (run o ft n).s
noncomputable def ev1 := (run o ft n).s1
end
end
end Mine
end
section
open PySem PySem.W PyProof.Rows PySem.Calls PyProof PySem.SeqAt
set_option Elab.async false
set_option maxRecDepth 100000
set_option linter.all false
namespace Mine
variable [hF : HashFn]
noncomputable section
noncomputable def OrcKeep (o : Orc) : Prop := ∀ f ds p, o f ds = some p -> ∀ P, keepIn (KW P) (.ref f) = true
noncomputable def PT' : World -> Around -> Env -> Heap -> Addr -> Prop := fun _ _ _ _ _ => True
structure Snd (n : Nat) (r : Rec) : Prop where
 e : ∀ sc ρ x, Sat (EvE sc ρ n x) (r.e sc ρ x)
 t : ∀ sc ρ x, Sat (EvT sc ρ n x) (r.t sc ρ x)
 l : ∀ sc ρ x, Sat (fun ds => EvL sc ρ n x ds ∧ (x = [] -> ds = [])) (r.l sc ρ x)
 c : ∀ f ds, Sat (fun d => zF n f ds d ∧ ∀ P, keepIn (KW P) (.ref f) = true) (r.c f ds)
 i : ∀ f C ns0 fs0 ds, Sat (fun p => InitOK n f C ns0 fs0 ds p.1 p.2) (r.i f C ns0 fs0 ds)
 s : ∀ sc ρ ss, Sat (fun p => ExS sc ρ n ss p.1 p.2) (r.s sc ρ ss)
 lp : ∀ sc x body ρ ds, Sat (fun p => Lp PT sc n x body ρ ds p.1 p.2) (r.lp sc x body ρ ds)
 s1 : ∀ sc ρ s, Sat (fun p => Ex1 sc ρ n s p.1 p.2) (r.s1 sc ρ s)
 sr : ∀ sc ρ t it, Sat (Src PT' sc ρ n t it) (r.sr sc ρ t it)
 cp : ∀ sc t elt ifs ρ ds, Sat (Cp sc n t elt ifs ρ ds) (r.cp sc t elt ifs ρ ds)
 lt : ∀ sc elts body ρ ds, Sat (fun p => Lt sc n elts body ρ ds p.1 p.2) (r.lt sc elts body ρ ds)
theorem Src.up {Pe sc ρ n k t it ds} (h : Src Pe sc ρ n t it ds) (hk : n ≤ k) : Src Pe sc ρ k t it ds := by
 cases h with
 | list a b => exact .list a (b.up hk)
 | listq a b => exact .listq a fun prog w A env h₀ L s m ko led news Q E hp hs Si S K => b prog w A env h₀ L s m ko led news Q E hp hs (Si.le hk) S K
 | tuple a b c => exact .tuple a b (c.up hk)
 | range a b c d e f g => exact .range a b c d e (f.up hk) g
theorem Cp.up {sc n k t elt ifs ρ ds outs} (hk : n ≤ k) (h : Cp sc n t elt ifs ρ ds outs) : Cp sc k t elt ifs ρ ds outs := by
 induction h with
 | nil => exact .nil
 | keep a b c _ ih => exact .keep a (fun x hx => (b x hx).up hk) (c.up hk) ih
 | drop a b c _ ih => exact .drop a b (c.up hk) ih
theorem Lt.up {sc n k elts body ρ ds fl ρ'} (hk : n ≤ k) (h : Lt sc n elts body ρ ds fl ρ') : Lt sc k elts body ρ ds fl ρ' := by
 induction h with
 | nil => exact .nil
 | next a b c _ ih => exact .next a (b.up hk) c ih
 | brk a b => exact .brk a (b.up hk)
 | ret a b => exact .ret a (b.up hk)
theorem Lp.up {sc n k x body ρ ds fl ρ'} (hk : n ≤ k) (h : Lp PT sc n x body ρ ds fl ρ') : Lp PT sc k x body ρ ds fl ρ' := by
 induction h with
 | nil => exact .nil
 | next a b _ ih => exact .next (a.up hk) b ih
 | brk a => exact .brk (a.up hk)
 | ret a => exact .ret (a.up hk)
theorem Snd.up {n r} (S : Snd n r) : Snd (n + 1) r :=
 have u := Nat.le_succ n
 ⟨fun a b c d h => (S.e a b c d h).up u, fun a b c d h => (S.t a b c d h).up u, fun a b c d h => ⟨(S.l a b c d h).1.up u, (S.l a b c d h).2⟩, fun a b c h => ⟨(S.c a b c h).1.up u, (S.c a b c h).2⟩,
  fun a b c d e f h => (S.i a b c d e f h).up u, fun a b c d h => (S.s a b c d h).up u, fun a b c d e f h => (S.lp a b c d e f h).up u, fun a b c d h => (S.s1 a b c d h).up u, fun a b c d e h => (S.sr a b c d e h).up u,
  fun a b c d e f g h => (S.cp a b c d e f g h).up u, fun a b c d e f h => (S.lt a b c d e f h).up u⟩
theorem isLoc_all {sc : zT} {l : List Str} (c7 : l.all (fun x => zAu sc x) = true) : l.all (fun x => fnd x sc == some .local) = true :=
 List.all_eq_true.mpr fun x hx => by
  have := List.all_eq_true.mp c7 x hx
  unfold zAu at this
  split at this
  ·rename_i q; rw [q]; rfl
  ·cases this
section
variable {o : Orc} {ft : Nat -> Option FnE} {n : Nat} {r : Rec}
theorem zAv (P : Params) {f : Nat} {r} (hr : r ∈ zAk) (h : r.f = f) : keepIn (KW P) (.ref f) = true := h ▸ List.all_eq_true.mp (keep_ok P) r hr
theorem Sat.fl {α : Type} {P : α -> Prop} {r : Option α} (h : Sat P r) : Sat P r := h
theorem snd_call (ho : OrcOK o) (hk : OrcKeep o) (hf : ∀ f e, ft f = some e -> e.ok) (S : Snd n r) {f ds} : Sat (fun d => zF (n + 1) f ds d ∧ ∀ P, keepIn (KW P) (.ref f) = true) (xrC o ft n r f ds) :=
 .orE .is (fun p e => .gd fun c => .some ⟨(ho _ _ _ _ e).up (Nat.le_succ_of_le (Nat.le_of_ble_eq_true c)), hk _ _ _ e⟩)
  (.bind .is fun e he => .gd2 fun c1 c4 => .bind (S.s _ _ _) fun p hp d hd => by
   have G := hf _ _ he
   exact ⟨Nat.eq_of_beq_eq_true c1 ▸ zR G (Nat.eq_of_beq_eq_true c4) hp hd, fun P => zAv P G.hr (Nat.eq_of_beq_eq_true c1)⟩)
theorem headO_ok {α : Type} {l : List α} : Sat (fun q => l = q.1 :: q.2) (headO l) := by
 cases l with
 | nil => exact .none
 | cons => exact .some rfl
theorem predO_ok {k : Nat} : Sat (fun j => k = j + 1) (predO k) := by
 cases k with
 | zero => exact .none
 | succ => exact .some rfl
theorem snd_i (hf : ∀ f e, ft f = some e -> e.ok) (S : Snd n r) {f C ns0 fs0 ds} : Sat (fun p => InitOK (n + 1) f C ns0 fs0 ds p.1 p.2) (xrI ft r f C ns0 fs0 ds) :=
 .bind .is fun e he => .bind headO_ok fun q hn => .bind predO_ok fun k ha => .gd2 fun c1 c4 => .bind (S.s _ _ _) fun p hp => .gd fun cn => .bind .is fun lv e1 => Sat.onLV (P := Is (fnd q.1 p.2)) (fun _ _ => .none) (fun _ _ => .none) (fun C' ns fs e1 => .gd fun hC => by
  obtain rfl := Nat.eq_of_beq_eq_true hC
  have G : Gd _ _ _ _ := hf _ _ he
  refine .some ?_
  obtain ⟨fl, ρ'⟩ := p
  have cn : fl = .next := by cases fl <;> first | rfl | cases cn
  subst cn
  rw [hn, ha] at G
  exact Nat.eq_of_beq_eq_true c1 ▸ init_of_body G (Nat.eq_of_beq_eq_true c4) hp e1) lv e1
theorem snd_lp (S : Snd (n + 1) r) {sc x body ρ} : ∀ {ds}, Sat (fun p => Lp PT sc (n + 1) x body ρ ds p.1 p.2) (xrLp r sc ρ x body ds)
 | [] => .some .nil
 | d :: ds => .bind (S.s _ _ _) (.onFl (fun a ρ1 ha h p hp => .next h.q ha (S.lp _ _ _ _ _ p hp)) (fun ρ1 h => .some (.brk h.q)) fun v ρ1 h => .some (.ret h.q))
theorem snd_lt (S : Snd (n + 1) r) {sc elts body ρ} : ∀ {ds}, Sat (fun p => Lt sc (n + 1) elts body ρ ds p.1 p.2) (xrLt r sc ρ elts body ds)
 | [] => .some .nil
 | d :: ds => .bind .is fun ρ0 e => .bind (S.s _ _ _) (.onFl (fun a ρ1 ha h p hp => .next e h ha (S.lt _ _ _ _ _ p hp)) (fun ρ1 h => .some (.brk e h)) fun v ρ1 h => .some (.ret e h))
theorem snd_cp (S : Snd (n + 1) r) {sc t elt ifs ρ} : ∀ {ds}, Sat (Cp sc (n + 1) t elt ifs ρ ds) (xrCp r sc ρ t elt ifs ds)
 | [] => .some .nil
 | d :: ds => .bind .is fun ρ1 e ys h => Sat.on012 (P := fun l ys => ifs = l -> Cp sc (n + 1) t elt ifs ρ (d :: ds) ys)
   (.bind (S.e _ _ _) fun y h1 => .map (S.cp _ _ _ _ _ _) fun ys h2 q => .keep e (fun c hc => nomatch (q ▸ hc : c ∈ [])) h1 h2)
   (fun c => .bind (S.t _ _ _) fun b h0 => .cond
    (fun hb => .bind (S.e _ _ _) fun y h1 => .map (S.cp _ _ _ _ _ _) fun ys h2 q => .keep e (fun x hx => List.mem_singleton.mp (q ▸ hx : x ∈ [c]) ▸ hb ▸ h0) h1 h2)
    fun hb ys h2 q => .drop e q (hb ▸ h0) (S.cp _ _ _ _ _ _ ys h2))
   (fun _ _ => .none) ifs ys h rfl
theorem snd_l (S : Snd (n + 1) r) {sc ρ} : ∀ {es}, Sat (fun ds => EvL sc ρ (n + 1) es ds ∧ (es = [] -> ds = [])) (xrL r sc ρ es)
 | [] => .some ⟨zO, fun _ => rfl⟩
 | e :: es => .gd fun hn => .bind (S.e _ _ _) fun d h1 => .map (S.l _ _ _) fun ds h2 => ⟨zH hn h1 h2.1, fun q => nomatch q⟩
theorem snd_s (S : Snd (n + 1) r) {sc ρ} : ∀ {ss}, Sat (fun p => ExS sc ρ (n + 1) ss p.1 p.2) (xrS r sc ρ ss)
 | [] => .some zAh
 | s :: ss => .bind (S.s1 _ _ _) fun p h => by
  obtain ⟨fl, ρ1⟩ := p
  cases fl with
  | next => exact fun q hq => zK h (S.s _ _ _ q hq)
  | _ => exact .some (zAj rfl h)
theorem range_ok {β : Type} (S : Snd n r) {sc ρ} {it} {Q : Expr -> β -> Prop} {f : List D -> Option β}
  (k : ∀ rx rpos e cpos (k : Nat), zZ sc rx = true -> zM rx = true -> fnd rx bTab = some (.type "range") -> zP e = true -> EvE sc ρ n e (.int (k : Nat)) -> Nat.ble k 1000 = true -> Sat (Q (.Call (.Name rx rpos) [e] [] cpos)) (f ((List.range k).map fun i => .int (i : Nat)))) :
  Sat (Q it) (rangeE r sc ρ it f) :=
 .onCall (P := Q) (fun g es ks cpos => .onNil (P := fun ks => Q (.Call g es ks cpos)) (.onName (P := fun g => Q (.Call g es [] cpos)) (fun rx rpos => .on012 (P := fun es => Q (.Call (.Name rx rpos) es [] cpos)) .none
  (fun e => .gd3 fun c1 c2 c3 => .bind .is fun v hv => Sat.onV (P := Is (fnd rx bTab)) (fun _ _ => .none) (fun t ht => .bI (S.e _ _ _) fun j hj => .gd3 fun d1 d2 d3 =>
   k rx rpos e cpos j.toNat c1 c2 ((eq_of_beq (a := t) (b := "range") d1) ▸ ht) c3 ((Int.toNat_of_nonneg (of_decide_eq_true d2)).symm ▸ hj) d3) v hv) (fun _ _ => .none) es) g) ks) it
theorem snd_sr (S : Snd (n + 1) r) {sc ρ t it} : Sat (Src PT' sc ρ (n + 1) t it) (xrSr r sc ρ t it) :=
 .orE (S.e _ _ _) (.onLT (fun ds h => .gd fun hn => .some (.list hn h)) fun ds h => .gd2 fun h1 h2 => .some (.tuple h1 h2 h)) (.gd fun hn => range_ok S (Q := Src PT' sc ρ (n + 1) t) fun rx rpos e cpos k a b c d e f => .some (.range hn a b c d e f))
theorem own_ok {β : Type} {ρ x} {Q : β -> Prop} {f : List D -> Option β} (k : ∀ ds, fnd x ρ = some (.own ds) -> zM x = true -> Sat Q (f ds)) : Sat Q (ownD ρ x f) :=
 .bind .is (.onLV (fun _ _ => .none) (fun ds e => .gd fun h => k ds e h) fun _ _ _ _ => .none)
theorem obj_ok {β : Type} {ρ x} {Q : β -> Prop} {f : Nat -> List Str -> List D -> Option β} (k : ∀ C ns ds, fnd x ρ = some (.obj C ns ds) -> Sat Q (f C ns ds)) : Sat Q ((fnd x ρ).bind (onLV noV noV f)) :=
 .bind .is (.onLV (fun _ _ => .none) (fun _ _ => .none) k)
theorem ref_ok {β : Type} {v : Option Value} {Q : β -> Prop} {f : Nat -> Option β} (k : ∀ a, v = some (.ref a) -> Sat Q (f a)) : Sat Q (v.bind (onV f noV)) := .bind .is (.onV k fun _ _ => .none)
theorem ty_ok {β : Type} {v : Option Value} {Q : β -> Prop} {f : String -> Option β} (k : ∀ a, v = some (.type a) -> Sat Q (f a)) : Sat Q (v.bind (onV noV f)) := .bind .is (.onV (fun _ _ => .none) k)
theorem snd_tb (S : Snd (n + 1) r) {sc ρ p op} : ∀ {es}, Sat (EvT sc ρ (n + 1) (.BoolOp op es p)) (boolT r sc ρ p op es)
 | [] => by
  cases op with
  | And => exact .some evT_and_nil
  | Or => exact .some evT_or_nil
 | x :: l => .bind (S.t _ _ _) fun b hb => by
  cases op with
  | And => cases b with
   | true => exact fun d h => evT_and hb fun _ => S.t _ _ _ d h
   | false => exact .some (evT_and (b := false) hb fun q => (ftE q).elim)
  | Or => cases b with
   | true => exact .some (evT_or (b := false) hb fun q => (tfE q).elim)
   | false => exact fun d h => evT_or hb fun _ => S.t _ _ _ d h
theorem plain_ok (S : Snd (n + 1) r) {sc ρ e} : Sat (EvT sc ρ (n + 1) e) (plainT r sc ρ e) := .gd fun c => .bB (S.e _ _ _) fun b h => .some (evT_plain c h)
theorem snd_t (S : Snd (n + 1) r) {sc ρ} : ∀ x, Sat (EvT sc ρ (n + 1) x) (xrT r sc ρ x) := by
 intro x
 cases x with
 | Compare l ops rs pos =>
  exact .onCmp (P := fun ops rs => EvT sc ρ (n + 1) (.Compare l ops rs pos))
   (fun op q => .orE (S.e _ _ _) (fun a ha => .orE (S.e _ _ _) (fun b hb => .gd fun hn c h => evT_cmp1 hn ha hb h) (.onName (P := fun q => EvT sc ρ (n + 1) (.Compare l [op] [q] pos)) (fun x _ => own_ok fun ds e hd c h => evT_in_own e hd ha h) q))
    (.bind (S.e _ _ _) fun b hb => .onName (P := fun l => EvT sc ρ (n + 1) (.Compare l [op] [q] pos)) (fun x _ => .gd fun hn => own_ok fun ds e hd c h => evT_cmp_own e hd hn hb h) l))
   (fun op op' q q' => .gd fun hn => .bind (S.e _ _ _) fun a ha => .bind (S.e _ _ _) fun b hb => .bind .is fun c hc => by
    cases c with
    | true => exact .bind (S.e _ _ _) fun d hd y hy => evT_cmp2 (x := true) hn ha hb hc fun _ => ⟨hd, hy⟩
    | false => exact .some (evT_cmp2 (y := false) (c := .none) hn ha hb hc fun q => (ftE q).elim)) ops rs
 | UnaryOp op x p =>
  cases op with
  | Not => exact .map (S.t _ _ _) fun b h => evT_not h
  | _ => exact plain_ok S
 | BoolOp => exact snd_tb S
 | _ => exact plain_ok S
theorem snd_callE (S : Snd n r) (U : Snd (n + 1) r) {sc ρ x xp e0 es pos} : Sat (EvE sc ρ (n + 1) (.Call (.Name x xp) (e0 :: es) [] pos)) (callE r sc ρ x e0 es) :=
 .gd3 fun c1 c2 c3 => .orE .is (.onV (fun f e1 => .bind (U.l _ _ _) fun ds e2 => .orE .is (fun g e3 => .map (S.i _ _ _ _ _) fun p e4 => ev_new c1 c2 e1 e3 c3 e2.1 e4) fun d h => ev_call c1 c2 e1 (U.c _ _ d h).2 c3 e2.1 (U.c _ _ d h).1) fun _ _ => .none)
  (.bind .is fun bv e1 => .bind (U.l _ _ _) fun ds e2 d h => zAx c1 c2 e1 (bltD_ok (n := n + 1) d h).2 c3 e2.1 (bltD_ok d h).1)
theorem snd_meth (S : Snd n r) {sc ρ ob x apos es pos} : Sat (EvE sc ρ n (.Call (.Attribute ob x apos) es [] pos)) (methE r sc ρ ob x apos es pos) :=
 .bind (S.e _ _ _) (.onSO (fun x1 h1 => .on012 (P := fun es => EvE sc ρ n (.Call (.Attribute ob x apos) es [] pos))
   (.gd3 fun c1 c2 c3 => .some (ev_split0 h1 c1 c2 c3))
   (fun e1 => .gd2 fun c1 c2 => .bind (S.e _ _ _) (.onSO (fun y h2 => .cond (fun c3 => .cond (fun _ => .none) fun c4 => .some (ev_split1 h1 h2 c4 c3 c1 c2))
    fun _ => .cond (fun c3 => .some (ev_lstrip h1 h2 c3 c1 c2)) fun _ => .gd fun c3 => .cond (fun _ => .none) fun c4 => .some (ev_index h1 h2 c3 c1 c4)) fun _ _ _ _ => .none))
   (fun _ _ => .none) es)
  fun C ns fs h1 => .cond (fun _ => .none) fun c0 => .gd fun c1 => .bind .is fun f e1 => .bind (S.l _ _ _) fun ds h2 d h => ev_meth h1 e1 c0 (S.c _ _ d h).2 c1 h2.1 h2.2 (S.c _ _ d h).1)
theorem snd_bool (S : Snd n r) {sc ρ p op} : ∀ {es}, Sat (EvE sc ρ n (.BoolOp op es p)) (boolE r sc ρ p op es)
 | [] => .none
 | [x] => fun d h => ev_bool1 (S.e _ _ _ d h)
 | x :: y :: l => .bB (S.e _ _ _) fun b hb => by
  cases op with
  | And => cases b with
   | true => exact fun d h => ev_and hb (fun _ => S.e _ _ _ d h) fun q => (tfE q).elim
   | false => exact .some (ev_and hb (fun q => (ftE q).elim) fun _ => rfl)
  | Or => cases b with
   | true => exact .some (ev_or hb (fun q => (tfE q).elim) fun _ => rfl)
   | false => exact fun d h => ev_or hb (fun _ => S.e _ _ _ d h) fun q => (ftE q).elim
theorem addL_ok {op a b} : Sat (fun d => ∃ x y, op = .Add ∧ a = .lst x ∧ b = .lst y ∧ d = .lst (x ++ y) ∧ Nat.ble (x.length + y.length) 10000 = true) (addL op a b) := by
 cases op with
 | Add => cases a with
  | lst x => cases b with
   | lst y => exact .gd fun c => .some ⟨x, y, rfl, rfl, rfl, rfl, c⟩
   | _ => exact .none
  | _ => exact .none
 | _ => exact .none
theorem snd_e (S : Snd n r) (U : Snd (n + 1) r) {sc ρ} : ∀ x, Sat (EvE sc ρ (n + 1) x) (xrE r sc ρ x) := by
 intro x
 cases x with
 | Name x p => exact .orE .is (.onLV (fun d e => .gd fun hd => .some (zJ e hd)) (fun _ _ => .none) fun _ _ _ _ => .none) (.gd2 fun c1 c2 => .bind .is fun v e1 d e2 => ev_glob c1 c2 e1 e2)
 | Constant => exact fun d h => zAb h
 | BinOp =>
  exact .bind (U.e _ _ _) fun a ha => .bind (U.e _ _ _) fun b hb => .orO (fun d h => by
   obtain ⟨x, y, rfl, rfl, rfl, rfl, c⟩ := addL_ok d h
   exact ev_addl ha hb c) fun d h => ev_bin ha hb h
 | ListComp elt gens scope p => exact .onGen (P := fun g => EvE sc ρ (n + 1) (.ListComp elt g scope p)) (fun t it ifs => .gd3 fun c1 c2 c3 => .bind (U.sr _ _ _ _) fun ds h => .gd fun c => .map (U.cp _ _ _ _ _ _) fun outs h2 => ev_own (evo_comp c1 c2 c3 h c h2)) gens
 | Compare l ops rs pos =>
  exact .onCmp (P := fun ops rs => EvE sc ρ (n + 1) (.Compare l ops rs pos))
   (fun op q => .gd fun hn => .bind (U.e _ _ _) fun a ha => .bind (U.e _ _ _) fun b hb => .map .is fun c h => ev_cmp1 hn ha hb h)
   (fun op op' q q' => .gd fun hn => .bind (U.e _ _ _) fun a ha => .bind (U.e _ _ _) fun b hb => .bind .is fun c hc => by
    cases c with
    | true => exact .bind (U.e _ _ _) fun d hd => .map .is fun y hy => ev_cmp2 (x := true) hn ha hb hc fun _ => ⟨hd, hy⟩
    | false => exact .some (ev_cmp2 (y := false) (c := .none) hn ha hb hc fun q => (ftE q).elim)) ops rs
 | IfExp => exact .bind (U.t _ _ _) fun c hc d h => ev_if hc (U.e _ _ _ d h)
 | Attribute v x p =>
  exact .orE (U.e _ _ _) (.onSO (fun _ _ => .none) fun C ns ds h => .gd2 fun c1 c2 d hd => ev_attr c1 h c2 hd)
   (.onName (P := fun v => EvE sc ρ (n + 1) (.Attribute v x p)) (fun y _ => obj_ok fun C ns ds e => .gd2 fun c1 c2 d hd => zCa e c1 c2 hd) v)
 | Tuple => exact .bind (U.l _ _ _) fun ds h => .gd fun c => .some (ev_tuple h.1 c)
 | List => exact .bind (U.l _ _ _) fun ds h => .gd fun c => .some (ev_own (evo_list h.1 c))
 | Call f es ks pos =>
  exact .onNil (P := fun ks => EvE sc ρ (n + 1) (.Call f es ks pos)) (.onNA (P := fun f => EvE sc ρ (n + 1) (.Call f es [] pos))
   (fun x xp => .on0s (P := fun es => EvE sc ρ (n + 1) (.Call (.Name x xp) es [] pos)) (.gd2 fun c1 c2 => ref_ok fun f e1 d h => ev_call0 c1 c2 e1 (U.c _ _ d h).2 (U.c _ _ d h).1) (fun e0 es => snd_callE S U) es)
   (fun ob x apos => snd_meth U) (fun _ _ _ => .none) f) ks
 | UnaryOp op => cases op with
  | Not => exact .bB (U.e _ _ _) fun b h => .some (ev_not h)
  | USub => exact .bI (U.e _ _ _) fun b h => .some (ev_neg h)
  | _ => exact .bind (U.e _ _ _) fun _ _ => .none
 | BoolOp => exact snd_bool U
 | Subscript v i p =>
  exact .bind (U.e _ _ _) fun a ha => .cond (fun c => .bI (U.e _ _ _) fun k hk d h => ev_idx c ha hk h)
   fun _ => Sat.onSO (P := EvE sc ρ (n + 1) v) (fun x hx => .gd fun c => .onSl (P := fun i => EvE sc ρ (n + 1) (.Subscript v i p)) (fun u _ => .bI (U.e _ _ _) fun j hj => .some (ev_slice_to hx hj c)) (fun u _ => .bI (U.e _ _ _) fun j hj => .some (ev_slice_from hx hj c)) i) (fun _ _ _ _ => .none) a ha
 | _ => exact .none
noncomputable def E1 (sc : zT) (ρ : Loc) (n : Nat) (s : Stmt) (p : Fl × Loc) : Prop := Ex1 sc ρ n s p.1 p.2
theorem nx_ok {Q : Fl × Loc -> Prop} {r : Option Loc} (h : Sat (fun ρ => Q (.next, ρ)) r) : Sat Q (nx r) := .map h fun _ h => h
theorem forE_ok (S : Snd n r) {sc ρ elts kt tp it body pos} : Sat (E1 sc ρ n (.For (.Tuple elts kt tp) it body [] pos)) (forE r sc ρ it body elts) :=
 .onCall (P := fun it => E1 sc ρ n (.For (.Tuple elts kt tp) it body [] pos)) (fun g es ks cpos => .onNil (P := fun ks => E1 sc ρ n (.For (.Tuple elts kt tp) (.Call g es ks cpos) body [] pos))
  (.onName (P := fun g => E1 sc ρ n (.For (.Tuple elts kt tp) (.Call g es [] cpos) body [] pos)) (fun rx rpos => .on012 (P := fun es => E1 sc ρ n (.For (.Tuple elts kt tp) (.Call (.Name rx rpos) es [] cpos) body [] pos)) .none
   (fun e => .gd3 fun c1 c2 c3 => ty_ok fun t ht => .gd fun q => .bind (S.e _ _ _) (.onLT (fun ds h p hp => zBb c1 c2 (eq_of_beq (a := t) (b := "enumerate") q ▸ ht) c3 h (S.lt _ _ _ _ _ p hp)) fun ds h p hp => ex1_for_enum_tup c1 c2 (eq_of_beq (a := t) (b := "enumerate") q ▸ ht) c3 h (S.lt _ _ _ _ _ p hp)))
   (fun e f => .gd3 fun c1 c2 c3 => ty_ok fun t ht => .gd fun q => .bind (S.l _ _ _) fun l hl p hp => Sat.on012 (P := fun m p => l = m -> E1 sc ρ n (.For (.Tuple elts kt tp) (.Call (.Name rx rpos) [e, f] [] cpos) body [] pos) p) .none (fun _ => .none)
    (fun a b => .onLTx (P := fun a p => l = [a, b] -> E1 sc ρ n _ p) (fun _ => .none) (fun ds => .onLTx (P := fun b p => l = [.tup ds, b] -> E1 sc ρ n _ p) (fun _ => .none) (fun es => .gd fun z p hp q2 => zCe c1 c2 (eq_of_beq (a := t) (b := "zip") q ▸ ht) c3 (q2 ▸ hl.1) z (S.lt _ _ _ _ _ p hp)) b) a) l p hp rfl) es) g) ks) it
theorem asgTup_ok (S : Snd n r) {sc ρ elts k tp e pos} : Sat (E1 sc ρ n (.Assign [.Tuple elts k tp] e pos)) (asgTup r sc ρ elts e) :=
 .bind (S.e _ _ _) (.onLT (fun _ _ => .none) fun ds h => .cond (fun c => .gd fun c2 => nx_ok fun ρ1 e1 => ex1_assign_tup c2 (fun env _ _ => noSwapT c _ _ _ env) h e1)
  fun _ p hp => Sat.onTup (P := fun e p => EvE sc ρ n e (.tup ds) -> E1 sc ρ n (.Assign [.Tuple elts k tp] e pos) p) (fun es _ _ => .orE .is (fun names e2 => nx_ok fun ρ1 e1 h => ex1_assign_swap e2 h e1)
   (.gd2 fun c1 c2 => nx_ok fun ρ1 e1 h => ex1_assign_tup rfl (fun env _ _ => plain_of c1 (not_t c2)) h e1)) e p hp h)
theorem asgNm_ok (S : Snd n r) {sc ρ x xp e pos} : Sat (E1 sc ρ n (.Assign [.Name x xp] e pos)) (asgNm r sc ρ x e) :=
 .gd fun c => .cond (fun q => isNilE_ok (e := e) (fun p (q : e = .List [] p) => q ▸ .some (ex1_assign_own c rfl (evo_list zO rfl))) q) fun _ => .gd fun c2 => nx_ok (.map (S.e _ _ _) fun d h => zBc c c2 h)
theorem asgAt_ok (S : Snd n r) {sc ρ ob att ap e pos} : Sat (E1 sc ρ n (.Assign [.Attribute ob att ap] e pos)) (asgAt r sc ρ ob att e) :=
 .onName (P := fun ob => E1 sc ρ n (.Assign [.Attribute ob att ap] e pos)) (fun x xp => obj_ok fun C ns fs ex => .gd5 fun c1 c2 c3 c4 c5 => nx_ok (.map (S.e _ _ _) fun d h => ex1_setattr ex c1 c2 (not_t c3) c4 c5 h)) ob
theorem and4 {a b c d : Bool} {G : Prop} (h : (a && b && c && d) = true) (k : a = true -> b = true -> c = true -> d = true -> G) : G := and2 h fun h => and3 h k
theorem expC_ok (S : Snd n r) {sc ρ e pos} : Sat (E1 sc ρ n (.Expr e pos)) (expC r sc ρ e) :=
 .onCall (P := fun e => E1 sc ρ n (.Expr e pos)) (fun g es ks cpos => .onNil (P := fun ks => E1 sc ρ n (.Expr (.Call g es ks cpos) pos)) (.onNA (P := fun g => E1 sc ρ n (.Expr (.Call g es [] cpos) pos)) (fun _ _ => .none)
  (fun ob att apos => .onName (P := fun ob => E1 sc ρ n (.Expr (.Call (.Attribute ob att apos) es [] cpos) pos)) (fun x xp => .on012 (P := fun es => E1 sc ρ n (.Expr (.Call (.Attribute (.Name x xp) att apos) es [] cpos) pos)) .none
   (fun e => own_ok fun ds ex hd => .gd fun c => and4 c fun c1 c2 c3 c4 => nx_ok (.map (S.e _ _ _) fun d h => ex1_append ex hd c1 c2 c3 c4 h))
   (fun s e => .onName (P := fun s => E1 sc ρ n (.Expr (.Call (.Attribute (.Name x xp) att apos) [s, e] [] cpos) pos)) (fun self sp => .gd5 fun c1 c2 c3 c4 c5 => ref_ok fun a ha => .gd fun q => obj_ok fun C ns fs es => .bind (S.e _ _ _) fun d h => nx_ok (.map (S.i _ _ _ _ _) fun p hp => ex1_super c1 c2 (Nat.eq_of_beq_eq_true (n := a) (m := 320) q ▸ ha) c3 c4 es c5 h hp)) s) es) ob)
  (fun _ _ _ => .none) g) ks) e
theorem snd_s1 (S : Snd n r) {sc ρ} : ∀ s, Sat (E1 sc ρ n s) (xr1S r sc ρ s) := by
 intro s
 cases s with
 | Return e => cases e with
  | some e => exact .map (S.e _ _ _) fun d h => ex1_frz (zBy h)
  | none => exact .some ex1_ret0
 | For t it body orelse pos =>
  exact .onNil (P := fun o => E1 sc ρ n (.For t it body o pos)) (.onNA (P := fun t => E1 sc ρ n (.For t it body [] pos))
   (fun x xp => .gd2 fun c1 c2 => .orE (S.e _ _ _) (.onLT (fun ds h p hp => ex1_for_list c1 c2 h (S.lp _ _ _ _ _ p hp)) fun ds h p hp => ex1_for_tuple c1 c2 h (S.lp _ _ _ _ _ p hp)) (range_ok S (Q := fun it => E1 sc ρ n (.For (.Name x xp) it body [] pos)) fun rx rpos e cpos k a b d g h i p hp => ex1_for_range c1 a b d g h i (S.lp _ _ _ _ _ p hp)))
   (fun _ _ _ => .none) (fun elts _ _ => forE_ok S) t) orelse
 | Expr e => exact .orO (expC_ok S) (.gd fun c => .map (S.e _ _ _) fun d h => ex1_expr c h)
 | Assign ts e pos => exact .on012 (P := fun ts => E1 sc ρ n (.Assign ts e pos)) .none (fun t => .onNA (P := fun t => E1 sc ρ n (.Assign [t] e pos)) (fun x xp => asgNm_ok S) (fun ob att ap => asgAt_ok S) (fun elts _ _ => asgTup_ok S) t) (fun _ _ => .none) ts
 | Continue => exact .some fun prog w A env h₀ L s m ko led news Q hs hl Si S K => wpAny_Continue (K .cont s.heap s.toks m led news S (fun _ h => h) rfl)
 | If => exact .bind (S.t _ _ _) fun c hc p hp => ex1_if hc (S.s _ _ _ p hp)
 | _ => exact .none
theorem zBr (ho : OrcOK o) (hk : OrcKeep o) (hf : ∀ f e, ft f = some e -> e.ok) (n : Nat) : Snd n (run o ft n) := by
 induction n with
 | zero => exact ⟨fun _ _ _ => .none, fun _ _ _ => .none, fun _ _ _ => .none, fun _ _ => .none, fun _ _ _ _ _ => .none, fun _ _ _ => .none, fun _ _ _ _ _ => .none, fun _ _ _ => .none, fun _ _ _ _ => .none, fun _ _ _ _ _ _ => .none, fun _ _ _ _ _ => .none⟩
 | succ n S =>
  have U := S.up
  exact ⟨fun _ _ x => snd_e S U x, fun _ _ x => snd_t U x, fun _ _ _ => snd_l U, fun _ _ => snd_call ho hk hf S, fun _ _ _ _ _ => snd_i hf S, fun _ _ _ => snd_s U, fun _ _ _ _ _ => snd_lp U, fun _ _ s => snd_s1 U s, fun _ _ _ _ => snd_sr U, fun _ _ _ _ _ _ => snd_cp U, fun _ _ _ _ _ => snd_lt U⟩
theorem evS_ind (ho : OrcOK o) (hk : OrcKeep o) (hf : ∀ f e, ft f = some e -> e.ok) {sc} {p : Fl × Loc} {rest} {M : List Stmt -> Loc -> Prop} (e0 : p.1 = .next -> M rest p.2)
  (e1 : ∀ {s ss ρ ρ1}, Ex1 sc ρ n s .next ρ1 -> M ss ρ1 -> M (s :: ss) ρ) (e2 : ∀ {s ss ρ}, stops p.1 = true -> Ex1 sc ρ n s p.1 p.2 -> M (s :: ss) ρ) :
  ∀ {m ss ρ}, m ≤ n -> evS o ft m sc ρ ss = some p -> M (ss ++ rest) ρ
 | 0, _, _, _, h => (nnE h).elim
 | m + 1, [], ρ, _, h => by
  obtain rfl := Option.some.inj h
  exact e0 rfl
 | m + 1, s :: ss, ρ, hm, h => by
  have hm := Nat.le_of_succ_le hm
  refine Sat.bind (Q := fun q => q = p -> M (s :: ss ++ rest) ρ) ((zBr ho hk hf m).s1 sc ρ s) (fun q hq => ?_) p h rfl
  obtain ⟨fl, ρ1⟩ := q
  have hq := Ex1.up hq hm
  cases fl with
  | next => exact fun p' h e => e1 hq (evS_ind ho hk hf e0 e1 e2 hm (e ▸ h))
  | _ => exact .some fun e => e2 (e ▸ rfl) (e ▸ hq)
end
end
end Mine
end
section
open PySem PySem.W PyProof.Rows PySem.Calls PyProof PySem.SeqAt
set_option Elab.async false
set_option maxRecDepth 100000
set_option maxHeartbeats 0
set_option linter.all false
namespace Mine
variable [hF : HashFn]
noncomputable section
noncomputable def cellF (f : Nat) : Bool := Nat.beq f 936 || Nat.beq f 974 || Nat.beq f 1152
noncomputable def seek (f : Nat) : List FnR -> Option FnR
 | [] => none
 | r :: l => bif Nat.beq r.f f then some r else seek f l
noncomputable def nthL : List (List FnR) -> Nat -> List FnR
 | [], _ => []
 | l :: _, 0 => l
 | _ :: t, n + 1 => nthL t n
noncomputable def mkE (r : FnR) : FnE := ⟨r, nms r, r.ar, exOf r⟩
noncomputable def ft (f : Nat) : Option FnE := bif cellF f then none else (seek f (nthL fnLL (f / 128))).map mkE
theorem still_ok : zAk.all (fun r => cellF r.f || (mkE r).still) = true := by rfl'
theorem seek_ok {f : Nat} {r} : ∀ {l : List FnR}, seek f l = some r -> PB l -> r ∈ l ∧ BO r ∧ r.f = f
 | x :: l, h, p => by
  have h : (bif Nat.beq x.f f then some x else seek f l) = some r := h
  cases q : Nat.beq x.f f with
  | true =>
   rw [q] at h
   obtain rfl := Option.some.inj h
   exact ⟨.head _, p.1, Nat.eq_of_beq_eq_true q⟩
  | false =>
   rw [q] at h
   exact (seek_ok h p.2).imp_left (.tail _)
theorem seek_in {f : Nat} {r} : ∀ {L : List (List FnR)} {n : Nat}, seek f (nthL L n) = some r -> PBs L -> r ∈ L.flatten ∧ BO r ∧ r.f = f
 | [], n, h, _ => by cases n <;> cases h
 | l :: t, 0, h, p => (seek_ok h p.1).imp_left (List.mem_append_left _)
 | l :: t, n + 1, h, p => (seek_in (L := t) h p.2).imp_left (List.mem_append_right l)
theorem ft_ok (f : Nat) (e : FnE) (h : ft f = some e) : e.ok := by
 have h : (bif cellF f then none else (seek f (nthL fnLL (f / 128))).map mkE) = some e := h
 cases q : cellF f with
 | true => rw [q] at h; cases h
 | false =>
  rw [q] at h
  obtain ⟨r, hr, rfl⟩ := Option.map_eq_some_iff.mp h
  obtain ⟨hm, hb, hf⟩ := seek_in hr pbs_ok
  have c := List.all_eq_true.mp still_ok r hm
  rw [hf, q] at c
  exact and4 c fun c1 c2 c3 c4 => ⟨hm, c1, hb, c2, Nat.eq_of_beq_eq_true c3, isLoc_all c4⟩
noncomputable def noO : Orc := fun _ _ => none
theorem zBq : OrcOK noO := fun f ds n d h => by cases h
theorem zAi : OrcKeep noO := fun f ds p h => by cases h
theorem call_of {f : Nat} {ds d} {n : Nat} (h : callF noO ft n f ds = some d) : zF n f ds d := ((zBr zBq zAi ft_ok n).c _ _ _ h).1
end
end Mine
end
section
open PySem PySem.W PyProof.Rows PySem.Calls PyProof PySem.SeqAt
set_option Elab.async false
set_option maxRecDepth 100000
set_option linter.all false
set_option genInjectivity false
set_option genSizeOf false
namespace Mine
noncomputable section
noncomputable def strD (s : String) : D := .str (Str.ofString s)
noncomputable def regD (nm : String) (i sz : Int) : D := .inst 1101 [S' "name", S' "kind", S' "number", S' "size"] [strD nm, strD "gpr", .int i, .int sz]
noncomputable def nm32 : Nat -> String
 | 0 => "eax" | 1 => "ecx" | 2 => "edx" | 3 => "ebx" | 4 => "esp" | 5 => "ebp" | 6 => "esi" | 7 => "edi"
 | 8 => "r8d" | 9 => "r9d" | 10 => "r10d" | 11 => "r11d" | 12 => "r12d" | 13 => "r13d" | 14 => "r14d" | _ => "r15d"
noncomputable def nm64 : Nat -> String
 | 0 => "rax" | 1 => "rcx" | 2 => "rdx" | 3 => "rbx" | 4 => "rsp" | 5 => "rbp" | 6 => "rsi" | 7 => "rdi"
 | 8 => "r8" | 9 => "r9" | 10 => "r10" | 11 => "r11" | 12 => "r12" | 13 => "r13" | 14 => "r14" | _ => "r15"
noncomputable def reg32 (i : Nat) : D := regD (nm32 i) i 32
noncomputable def reg64 (i : Nat) : D := regD (nm64 i) i 64
noncomputable def regOp (r : D) : D := .inst 355 [S' "kind", S' "register"] [strD "reg", r]
noncomputable def immOp (w : Int) : D := .inst 389 [S' "kind", S' "worth", S' "name"] [strD "imm", .int w, strD ""]
noncomputable def memOp (i : Nat) (d : Int) : D := .inst 442 [S' "kind", S' "base", S' "index", S' "scale", S' "worth", S' "size", S' "segment", S' "name"] [strD "mem", reg64 i, .none, .int 1, .int d, .int 32, strD "", strD ""]
noncomputable def zAn (a b : D) : D := .inst 495 [S' "name", S' "operands", S' "prefix"] [strD "deed", .tup [a, b], strD ""]
structure Row where
 k1 : String
 k2 : String
 op : Int
 esc : Int
 dig : Int
noncomputable def rowD (r : Row) : D := .tup [.tup [strD r.k1, strD r.k2], .int r.op, .int r.esc, .int r.dig]
noncomputable def slotS (k : String) : String := if k == "eax" || k == "one" then "fixed" else if k == "o32" then "plus" else if k == "rm32" then "rm" else "imm"
noncomputable def zV (r : Row) (num : Int) : D := .inst 257 [S' "name", S' "kinds", S' "opcode", S' "escape", S' "digit", S' "size", S' "must", S' "is_wide", S' "number", S' "places"]
 [strD "deed", .tup [strD r.k1, strD r.k2], .int r.op, .int r.esc, .int r.dig, .int 32, .int 0, .bool false, .int num, .tup [strD (slotS r.k1), strD (slotS r.k2)]]
noncomputable def pool : List Row := [⟨"o32", "simm8", 64, 0, -1⟩, ⟨"rm32", "one", 209, 0, 3⟩, ⟨"rm32", "simm8", 131, 0, 5⟩, ⟨"rm32", "uimm8", 193, 0, 7⟩, ⟨"eax", "imm32", 45, 0, -1⟩, ⟨"o32", "imm32", 184, 0, -1⟩, ⟨"rm32", "imm32", 129, 0, 0⟩, ⟨"rm32", "imm32", 17, 1, 2⟩, ⟨"rm32", "simm8", 34, 1, 6⟩]
end
end Mine
end
section
open PySem PySem.W PyProof.Rows PySem.Calls PyProof PySem.SeqAt
set_option Elab.async false
set_option maxRecDepth 100000
set_option linter.all false
namespace Mine
variable [hF : HashFn]
noncomputable section
theorem St.reKo {env h₀ L h m ρ ko ko' led news} (S : St env h₀ L h m ρ ko led news) (hp : ∀ p, p ∈ ko' ↔ p ∈ ko) (hh : ko'.head? = ko.head?) : St env h₀ L h m ρ ko' led news := by
 have hk : ∀ a, a ∈ keyL ko' ↔ a ∈ keyL ko := fun a => by
  simp only [keyL, List.mem_map]
  constructor
  ·rintro ⟨p, h1, h2⟩; exact ⟨p, (hp p).mp h1, h2⟩
  ·rintro ⟨p, h1, h2⟩; exact ⟨p, (hp p).mpr h1, h2⟩
 refine ⟨S.F, S.N, S.nd, fun p h => S.kon p ((hp p).mp h), S.sub, fun a ha => S.dis a ((hk a).mp ha), S.tab, ?_⟩
 obtain ⟨mm, X⟩ := S.loc
 refine ⟨mm, ?_, fun x lv e => ?_, X.inj⟩
 ·cases X.lc with
  | fn a b => exact .fn a b
  | comp oC hm n => exact .comp oC ((hp _).mpr hm) n
 ·obtain ⟨v, V, O, k⟩ := X.at' x lv e
  refine ⟨v, V.mono fun p h => (hp p).mpr h, ?_, k⟩
  cases lv with
  | val d => exact O
  | own ds =>
   obtain ⟨a, vs, c, e1, h1, r, n1, n2⟩ := O
   exact ⟨a, vs, c, e1, h1, r, n1, fun q => n2 ((hk _).mp q)⟩
  | obj C ns ds =>
   obtain ⟨a, dx, es, n, vs, e1, h1, h2, ke, ev, r, n1, n2⟩ := O
   exact ⟨a, dx, es, n, vs, e1, hh.trans h1, h2, ke, ev, r, n1, fun q => n2 ((hk _).mp q)⟩
theorem St.addKo {env h₀ L h h' m ρ ko led news} {a o} (S : St env h₀ L h m ρ ko led news) (F : Fr h₀ L h' m) (N : News h₀ L h' ((a, o) :: news)) (hn : ∀ p ∈ news, p.1 ≠ a) : St env h₀ L h' m ρ (ko ++ [(a, o)]) led ((a, o) :: news) :=
 (S.sp.keepOne hn (S.sp.not_tab hn)).st F N
noncomputable def setK (a : Addr) (o' : Obj) : Led -> Led
 | [] => []
 | p :: r => (if Nat.beq p.1 a then (a, o') else p) :: setK a o' r
theorem mem_setK {a o' p} : ∀ {l}, p ∈ setK a o' l ↔ (p = (a, o') ∧ a ∈ keyL l) ∨ (p ∈ l ∧ p.1 ≠ a)
 | [] => by simp [setK, keyL]
 | q :: r => by
  have ih := mem_setK (a := a) (o' := o') (p := p) (l := r)
  unfold setK
  rw [List.mem_cons, ih]
  by_cases h : q.1 = a
  ·have hb : Nat.beq q.1 a = true := by rw [h]; exact Nat.beq_refl _
   rw [hb]
   simp only [if_true]
   constructor
   ·rintro (e | ⟨e, h2⟩ | ⟨h2, h3⟩)
    ·exact .inl ⟨e, h ▸ .head _⟩
    ·exact .inl ⟨e, .tail _ h2⟩
    ·exact .inr ⟨.tail _ h2, h3⟩
   ·rintro (⟨e, _⟩ | ⟨h2, h3⟩)
    ·exact .inl e
    ·rcases List.mem_cons.mp h2 with rfl | h2
     ·exact absurd h h3
     ·exact .inr (.inr ⟨h2, h3⟩)
  ·have hb : Nat.beq q.1 a = false := by
    cases hq : Nat.beq q.1 a with
    | true => exact absurd (Nat.eq_of_beq_eq_true hq) h
    | false => rfl
   rw [hb]
   simp only [Bool.false_eq_true, if_false]
   constructor
   ·rintro (rfl | ⟨e, h2⟩ | ⟨h2, h3⟩)
    ·exact .inr ⟨.head _, h⟩
    ·exact .inl ⟨e, .tail _ h2⟩
    ·exact .inr ⟨.tail _ h2, h3⟩
   ·rintro (⟨e, h2⟩ | ⟨h2, h3⟩)
    ·rcases List.mem_cons.mp (show a ∈ q.1 :: keyL r from h2) with e2 | h2
     ·exact absurd e2.symm h
     ·exact .inr (.inl ⟨e, h2⟩)
    ·rcases List.mem_cons.mp h2 with rfl | h2
     ·exact .inl rfl
     ·exact .inr (.inr ⟨h2, h3⟩)
theorem keyL_setK {a o'} : ∀ {l}, keyL (setK a o' l) = keyL l
 | [] => rfl
 | q :: r => by
  unfold setK
  show (if Nat.beq q.1 a = true then (a, o') else q).1 :: keyL (setK a o' r) = q.1 :: keyL r
  rw [keyL_setK]
  cases h : Nat.beq q.1 a with
  | true => simp only [if_true]; rw [Nat.eq_of_beq_eq_true h]
  | false => rfl
theorem St.setKo {env h₀ L h h' m ρ ko led news} {a o o'} {g : Obj -> Led} (S : St env h₀ L h m ρ ko led news) (hl : env.locals = L) (hm : (a, o) ∈ ko) (hc : ∀ v, o.data ≠ .cell v) (hh : ∀ p, ko.head? = some p -> p.1 ≠ a)
  (U : UpdF a o news g) (hg : ∀ o' p, p ∈ g o' ↔ p = (a, o') ∨ (p ∈ news ∧ p.1 ≠ a)) (F : Fr h₀ L h' m) (N : News h₀ L h' (g o')) : St env h₀ L h' m ρ (setK a o' ko) led (g o') := by
 have ing : ∀ p, p ∈ news -> p.1 ≠ a -> p ∈ g o' := fun p hp hn => (hg o' p).mpr (.inr ⟨hp, hn⟩)
 have hak : a ∈ keyL ko := zC hm
 have hnl : ∀ p ∈ led, p.1 ≠ a := fun p hp e => (S.dis a hak).1 (e ▸ zC (o := p.2) hp)
 refine ⟨F, N, by rw [updF_keys U]; exact S.nd, fun p hp => ?_, fun p hp => ing p (S.sub p hp) (hnl p hp), fun b hb => S.dis b (by rw [keyL_setK] at hb; exact hb), fun P hP => ?_, ?_⟩
 ·rcases mem_setK.mp hp with ⟨rfl, _⟩ | ⟨h1, h2⟩
  ·exact (hg _ _).mpr (.inl rfl)
  ·exact ing p (S.kon p h1) h2
 ·obtain ⟨hn, ps, hp, gd⟩ := S.tab P hP
  refine ⟨hn, ps, ing _ hp fun (e : P = a) => ?_, gd⟩
  exact (S.dis a hak).2 (e ▸ hP)
 ·obtain ⟨mm, X⟩ := S.loc
  refine ⟨mm, ?_, fun x lv e => ?_, X.inj⟩
  ·cases X.lc with
   | fn a b => exact .fn a b
   | comp oC hm2 n => exact absurd hl (S.N _ (S.kon _ hm2)).2.1
  ·obtain ⟨v, V, O, k⟩ := X.at' x lv e
   refine ⟨v, ?_, ?_, k⟩
   ·cases V with
    | loc a b => exact .loc a b
    | cel c oc b1 b2 hm2 hd =>
     refine .cel c oc b1 b2 (mem_setK.mpr (.inr ⟨hm2, fun (e2 : c = a) => ?_⟩)) hd
     subst e2
     rw [zAm S.nd (S.kon _ hm2) (S.kon _ hm)] at hd
     exact hc _ hd
   ·cases lv with
    | val d => exact O
    | own ds =>
     obtain ⟨b, vs, c, e1, h1, r, n1, n2⟩ := O
     exact ⟨b, vs, c, e1, ing _ h1 fun (q : b = a) => n2 (q ▸ hak), r, n1, by rw [keyL_setK]; exact n2⟩
    | obj C ns ds =>
     obtain ⟨b, dx, es, n, vs, e1, h1, h2, ke, ev, r, n1, n2⟩ := O
     refine ⟨b, dx, es, n, vs, e1, ?_, ing _ h2 fun (q : dx = a) => n2 (q ▸ hak), ke, ev, r, n1, by rw [keyL_setK]; exact n2⟩
     cases ko with
     | nil => cases h1
     | cons p q =>
      have hp := hh p rfl
      have hb : Nat.beq p.1 a = false := by
       cases hq : Nat.beq p.1 a with
       | true => exact absurd (Nat.eq_of_beq_eq_true hq) hp
       | false => rfl
      show some (if Nat.beq p.1 a = true then (a, o') else p) = _
      rw [hb]
      exact h1
theorem St.koLed {env h₀ L h m ρ ko ko' led news} {a o} (S : St env h₀ L h m ρ ko led news) (hl : env.locals = L) (hm : (a, o) ∈ ko) (hc : ∀ v, o.data ≠ .cell v) (hcl : o.cls ≠ (X.tableObj #[]).cls) (hp : ∀ p, p ∈ ko' ↔ p ∈ ko ∧ p.1 ≠ a) (hh : ko'.head? = ko.head?) :
  St env h₀ L h m ρ ko' ((a, o) :: led) news := by
 have hak : a ∈ keyL ko := zC hm
 have kk : ∀ b, b ∈ keyL ko' -> b ∈ keyL ko ∧ b ≠ a := fun b hb => by
  obtain ⟨p, h1, rfl⟩ := List.mem_map.mp hb
  have := (hp p).mp h1
  exact ⟨zC (o := p.2) this.1, this.2⟩
 refine ⟨S.F, S.N, S.nd, fun p h => S.kon p ((hp p).mp h).1, fun p h => ?_, fun b hb => ⟨zU (S.dis b (kk b hb).1).1 (kk b hb).2, (S.dis b (kk b hb).1).2⟩, S.tab.add S.nd (S.kon _ hm) hcl, ?_⟩
 ·rcases List.mem_cons.mp h with rfl | h
  ·exact S.kon _ hm
  ·exact S.sub p h
 ·obtain ⟨mm, X⟩ := S.loc
  refine ⟨mm, ?_, fun x lv e => ?_, X.inj⟩
  ·cases X.lc with
   | fn a b => exact .fn a b
   | comp oC hm2 n => exact absurd hl (S.N _ (S.kon _ hm2)).2.1
  ·obtain ⟨v, V, O, k⟩ := X.at' x lv e
   refine ⟨v, ?_, ?_, k⟩
   ·cases V with
    | loc a b => exact .loc a b
    | cel c oc b1 b2 hm2 hd =>
     refine .cel c oc b1 b2 ((hp _).mpr ⟨hm2, fun (e2 : c = a) => ?_⟩) hd
     subst e2
     rw [zAm S.nd (S.kon _ hm2) (S.kon _ hm)] at hd
     exact hc _ hd
   ·cases lv with
    | val d => exact R.mono (fun p hp => .tail _ hp) O
    | own ds =>
     obtain ⟨b, vs, c, e1, h1, r, n1, n2⟩ := O
     exact ⟨b, vs, c, e1, h1, Rs.mono (fun p hp => .tail _ hp) r, zU n1 (fun q => n2 (q ▸ hak)), fun q => n2 (kk _ q).1⟩
    | obj C ns ds =>
     obtain ⟨b, dx, es, n, vs, e1, h1, h2, ke, ev, r, n1, n2⟩ := O
     exact ⟨b, dx, es, n, vs, e1, hh.trans h1, h2, ke, ev, Rs.mono (fun p hp => .tail _ hp) r, zU n1 (fun q => n2 (q ▸ hak)), fun q => n2 (kk _ q).1⟩
theorem setattr_cps {prog w A E sc env h₀ L s m ρ} {n : Nat} {x xpos att apos e pos} {C : Nat} {ns ds Q}
  (hs : env.scope.names = sc) (hloc : env.locals = L) (Si : Sit w A env h₀ L n) (ex : fnd x ρ = some (.obj C ns ds)) (hd : zM x = true) (ha : isAt C att = true) (hnew : ns.any (eqS att) = false) (hl : Nat.ble ns.length 100 = true) (hn : zBx e = true)
  (he : wpAny (model prog w) A (eval e env) (fun v s' => ∃ h' tk d ko led news, s' = (sw s h' tk) ∧ St env h₀ L h' m ρ ko led news ∧ R led d v ∧ (∀ h2 tk2 news2, St env h₀ L h2 m (put x (.obj C (ns ++ [att]) (ds ++ [d])) ρ) ko led news2 -> Q .next (sw s h2 tk2))) E s) :
  wpAny (model prog w) A (exec (.Assign [.Attribute (.Name x xpos) att apos] e pos) env) Q E s := by
 refine plainObj_wpAny_Assign_Attribute (wpAny_mono he (fun v s' h => ?_) fun _ _ e => e) (noSwap hn _ _ _)
 obtain ⟨h', tk, d, ko, led, news, rfl, S', rv, K⟩ := h
 obtain ⟨mm, X⟩ := S'.loc
 obtain rfl := S'.fn hloc X
 obtain ⟨u, V, ⟨a, dx, es, k, vs, rfl, hhd, hm, ke, rfl, r, h1, h2⟩, kk⟩ := X.at' x _ ex
 have hv := V.local (kk rfl)
 refine load_vw Si.kd S' X.lc V hd ?_
 obtain ⟨g, U, hg⟩ := zCi S'.nd hm
 obtain ⟨c1, c2⟩ := chk_of (P := w.params) ha
 have c1 := chk_c c1
 have c2 := chk_a c2
 have hlen := Nat.le_of_ble_eq_true hl
 have hkl := ke.len
 refine set_dict (s := (sw s h' tk)) (n' := putN att es k) S'.F Si.X S'.N (W.InstAt.of_news S'.N (S'.kon _ (zAw hhd)) hm) rfl c1.1.1.2 c1.1.2 c2.2 c1.1.1.1 (getL_isSome ke hnew) (by rw [putL_new ke hnew]) (zCh U) (by rw [List.length_append]; simp; lia) fun h2' F2 N2 => ?_
 refine K h2' _ _ (S'.setObj hloc ex hv hhd hm h1 h2 U hg F2 N2 ke.snoc ?_)
 rw [List.map_append]
 exact Rs.append r (Rs.one rv)
section
variable {prog : Program} {w : World} {A : Around}
noncomputable def EvF (prog : Program) (w : World) (A : Around) (env : Env) (h₀ : Heap) (L : Addr) (m : Str -> Option Value) (ρ : Loc) (led : Led) (e : Expr) (P : Led -> Value -> Prop) : Prop :=
 ∀ (s : Shared) (ko led' news : Led) (Q E : Value -> Shared -> Prop), St env h₀ L s.heap m ρ ko led' news -> Inc led led' -> Kept env h₀ L m ρ ko led' s P Q -> wpAny (model prog w) A (eval e env) Q E s
theorem EvF.of {sc ρ n e d env h₀ L m led} {P : Led -> Value -> Prop} (h : EvE sc ρ n e d) (hs : env.scope.names = sc) (Si : Sit w A env h₀ L n) (hP : ∀ l v, R l d v -> P l v) : EvF prog w A env h₀ L m ρ led e P :=
 fun s ko led' news Q E S _ K => h prog w A env h₀ L s m ko led' news Q E hs Si S fun v h' tk led2 news2 S2 i2 r => K v h' tk led2 news2 S2 i2 (hP _ _ r)
theorem EvF.up {env h₀ L m ρ led led2 e P} (h : EvF prog w A env h₀ L m ρ led e P) (i : Inc led led2) : EvF prog w A env h₀ L m ρ led2 e P :=
 fun s ko led' news Q E S j K => h s ko led' news Q E S (fun p hp => j p (i p hp)) K
end
noncomputable def IsIt (o : Obj) : Prop := (∀ its c, o ≠ listOf its c) ∧ ¬ o.ExactDict ∧ (∀ C dx, o ≠ instObj C dx) ∧ ∀ v, o.data ≠ .cell v
inductive TurnG (env : Env) (h₀ : Heap) (L : Addr) (s1 : Shared) (hd : Addr × Obj) (I : Addr) (oI : Obj) (ledi : Led) (G : Loc -> Led -> Led -> Prop) (f : Flow) (s' : Shared) : Prop
 | mk (_ : f = .next) (h' : Heap) (tk' : Nat) (m' : Str -> Option Value) (ρ' : Loc) (ko' koj led' news' : Led) : s' = (sw s1 h' tk') -> St env h₀ L h' m' ρ' ko' led' news' -> (∀ p, p ∈ ko' ↔ p ∈ koj ∨ p = (I, oI)) -> ko'.head? = some hd -> koj.head? = some hd -> I ∉ keyL koj -> G ρ' koj led' -> (Inc ledi led') -> TurnG env h₀ L s1 hd I oI ledi G f s'
section
variable {prog : Program} {w : World} {A : Around}
theorem loop_goG {sc env h₀ L s m ρ ko led news} {n k : Nat} {x body Q I fp P Stt} {Pd : Nat -> D -> Prop} {hd} {G : Nat -> Loc -> Led -> Led -> Prop}
  (hs : env.scope.names = sc) (hl : env.locals = L) (Si : Sit w A env h₀ L n) (hxl : env.kindOf x = some .local) (W : Walks prog w A I fp [I] k P Stt) (hfp : ∀ b ∈ fp, b = I ∨ ∃ o, (b, o) ∈ led) (hst : Stt 0 s.heap)
  (S : St env h₀ L s.heap m ρ ko led news) (hnew : ∀ p ∈ news, p.1 ≠ I) (hI0 : h₀.get? I = none) (hIL : L ≠ I) (hhd : ko.head? = some hd)
  (hIo : ∀ i h, Stt i h -> ∃ o, h.get? I = some o ∧ (∀ C dx, o ≠ instObj C dx) ∧ (∀ mm, ¬ LCg.NsObj o mm) ∧ IsIt o)
  (hP : ∀ i v, i < k -> P i v -> ∃ d, Pd i d ∧ R led d v) (g0 : G 0 ρ ko led)
  (step : ∀ i d, i < k -> Pd i d -> ∀ oI m₁ ρi koi ledi newsi (s1 : Shared), (∃ h tk, s1 = (sw s h tk)) -> G i ρi koi ledi -> (Inc led ledi) -> I ∉ keyL koi -> koi.head? = some hd -> IsIt oI ->
   St env h₀ L s1.heap m₁ (put x (.val d) ρi) (koi ++ [(I, oI)]) ledi newsi -> wpAny (model prog w) A (execs body env) (TurnG env h₀ L s1 hd I oI ledi (G (i + 1))) (fun _ _ => False) s1)
  (K : ∀ h' tk m' ρ' ko' led' news', St env h₀ L h' m' ρ' ko' led' news' -> G k ρ' ko' led' -> Inc led led' -> ko'.head? = some hd -> Q .next (sw s h' tk)) :
  LoopAtV prog w A h₀ env x body Q (fun _ _ => False) (.ref I) s := by
 subst hl
 have hIt : I ∉ tabs := S.sp.not_tab hnew
 let J : Nat -> (Str -> Option Value) -> Led -> Prop := fun i m₁ news₁ => ∃ ρi koi ledi, G i ρi koi ledi ∧ Sp env env.locals m₁ ρi koi ledi news₁ ∧ (Inc led ledi) ∧ koi.head? = some hd
 refine ⟨I, fp, [I], k, P, Stt, m, news, J, rfl, W, ?_, ?_, ?_, hst, S.F, S.N, ⟨ρ, ko, led, g0, S.sp, fun _ h => h, hhd⟩, ?_, ?_⟩
 ·intro hm
  rcases hfp _ hm with e | ⟨o, ho⟩
  ·exact hIL e
  ·exact (S.N _ (S.sub _ ho)).2.1 rfl
 ·intro b hb; rw [List.mem_singleton.mp hb]; exact hI0
 ·intro p hp hq; exact hnew p hp (List.mem_singleton.mp hq)
 ·rintro i v m₁ news₁ s₁ own ⟨hh', tk', rfl⟩ hin hPv ⟨ρi, koi, ledi, gi, Spi, ili, hhi⟩ hoff hown hownH hcompl hst1 F₁ N₁
  obtain ⟨d, hpd, rd⟩ := hP i v hin hPv
  obtain ⟨oI, hoI, ho1, ho2, ho3⟩ := hIo _ _ hst1
  have hIfp : I ∈ fp := W.sub I (.head _)
  have hIown : (I, oI) ∈ own := hcompl I hIfp hI0 oI hoI
  have hnew1 : ∀ p ∈ news₁, p.1 ≠ I := fun p hp e => hoff p hp (by rw [e]; exact .head _)
  have Sk := Spi.keepOne (o := oI) hnew1 hIt
  have hIk := Spi.not_ko hnew1
  have N' : News h₀ env.locals hh' ((I, oI) :: news₁) := fun p hp => by
   rcases List.mem_cons.mp hp with rfl | hp
   ·exact N₁ _ (List.mem_append_left _ hIown)
   ·exact N₁ _ (List.mem_append_right _ hp)
  have S0 : Sp env env.locals (upd m₁ x v) (put x (.val d) ρi) (koi ++ [(I, oI)]) ledi ((I, oI) :: news₁) := by
   refine ⟨Sk.nd, Sk.kon, Sk.sub, Sk.dis, Sk.tab, ?_⟩
   obtain ⟨mm, X⟩ := Sk.loc
   have hmm : mm = m₁ := by
    cases X.lc with
    | fn _ e => exact e
    | comp oC hm _ => exact absurd rfl (N' _ (Sk.kon _ hm)).2.1
   subst hmm
   exact ⟨_, X.putNew rfl hxl (R.mono ili rd) fun h => (tfE h).elim⟩
  refine wpAny_mono (step i d hin hpd oI _ ρi koi ledi _ (sw s hh' tk') ⟨_, _, rfl⟩ gi ili hIk hhi ho3 (S0.st F₁ N')) (fun f s2 ht => ?_) fun _ _ e => e
  obtain ⟨rfl, h2, tk2, m2, ρ2, ko2, koj, led2, news2, rfl, S2, hmem, hh2, hhj, hIj, g2, i2⟩ := ht
  have S3 := S2.reKo (ko' := koj ++ [(I, oI)]) (fun p => by rw [hmem, List.mem_append, List.mem_singleton]) (by
   rw [hh2]
   cases koj with
   | nil => cases hhj
   | cons q r => exact hhj)
  have S4 : Sp env env.locals m2 ρ2 koj led2 (news2.filter fun p => decide (p.1 ≠ I)) := S3.sp.dropOne hIj ho1 (fun oC mm hm hns => by
   rcases List.mem_append.mp hm with hm | hm
   ·exact hm
   ·exact absurd hns (by have := congrArg Prod.snd (List.mem_singleton.mp hm); simp only at this; rw [this]; exact ho2 mm)) ho3.2.2.2
  refine LoopStepV.next ⟨rfl, h2, tk2, m2, _, rfl, S2.F, ?_, fun p hp hq => ?_, ρ2, koj, led2, g2, S4, (Inc.trans ili i2), hhj⟩
  ·intro p hp
   rcases List.mem_append.mp hp with hp | hp
   ·have hpfp := hown p hp
    have hcur := hownH p hp
    rcases hfp _ hpfp with e | ⟨o, ho⟩
    ·have : p = (I, oI) := by
      have e2 : p.2 = oI := by rw [e] at hcur; rw [hoI] at hcur; exact (Option.some.inj hcur).symm
      exact Prod.ext e e2
     rw [this]
     exact S3.N _ (S3.kon _ (List.mem_append_right _ (.head _)))
    ·have hmem : (p.1, o) ∈ ledi := ili _ ho
     have e2 : p.2 = o := by
      have := (N' _ (Sk.sub _ hmem)).1
      simp only at this
      rw [this] at hcur
      exact (Option.some.inj hcur).symm
     have : p = (p.1, o) := Prod.ext rfl e2
     rw [this]
     exact S2.N _ (S2.sub _ (i2 _ hmem))
   ·exact S2.N p (List.mem_filter.mp hp).1
  ·have := (List.mem_filter.mp hp).2
   simp at this
   exact this (List.mem_singleton.mp hq)
 ·rintro h' tk m' news' F' N' hoff ⟨ρi, koi, ledi, gi, Spi, ili, hhi⟩
  exact K h' tk m' ρi koi ledi news' (Spi.st F' N') gi ili hhi
theorem forG_list {sc env h₀ L s m ρ ko led news} {n : Nat} {x px it body pos ds Q hd} {G : Nat -> Loc -> Led -> Led -> Prop}
  (hs : env.scope.names = sc) (hl : env.locals = L) (Si : Sit w A env h₀ L n) (hx : zAu sc x = true) (hn : zBe it = true) (S : St env h₀ L s.heap m ρ ko led news) (hhd : ko.head? = some hd) (h : EvF prog w A env h₀ L m ρ led it fun l v => R l (.lst ds) v)
  (g0 : ∀ led', Inc led led' -> G 0 ρ ko led')
  (step : ∀ i d, ds[i]? = some d -> ∀ I oI m₁ ρi koi ledi newsi (s1 : Shared), (∃ h tk, s1 = (sw s h tk)) -> G i ρi koi ledi -> (Inc led ledi) -> I ∉ keyL koi -> koi.head? = some hd -> IsIt oI ->
   St env h₀ L s1.heap m₁ (put x (.val d) ρi) (koi ++ [(I, oI)]) ledi newsi -> wpAny (model prog w) A (execs body env) (TurnG env h₀ L s1 hd I oI ledi (G (i + 1))) (fun _ _ => False) s1)
  (K : ∀ h' tk m' ρ' ko' led' news', St env h₀ L h' m' ρ' ko' led' news' -> G ds.length ρ' ko' led' -> Inc led led' -> ko'.head? = some hd -> Q .next (sw s h' tk)) :
  wpAny (model prog w) A (exec (.For (.Name x px) it body [] pos) env) Q (fun _ _ => False) s := by
 refine For_invV h₀ (zL hs hx) (by rw [Si.kd]; rfl) (h s ko led news _ _ S (fun _ h => h) fun v h' tk led' news' S' i rv => ?_) (fun _ => zBm hn _) PassesOwn.never
 obtain ⟨a, vs, c, rfl, hm, hi, rr⟩ := S'.isLst rv
 refine wpAny_pyIter_list hi ?_
 obtain ⟨f1, f2, f3⟩ := S'.fresh
 have hne : a ≠ h'.objs.size := Nat.ne_of_lt (Heap.lt_size (S'.held _ hm))
 have W := Walks.list (prog := prog) (w := w) Si.hd h'.objs.size a hne vs.toArray
 have hlen : vs.toArray.size = ds.length := by rw [List.size_toArray, Rs.length rr]
 rw [hlen] at W
 have S2 := S'.pushed { cls := .type "list_iterator", data := .fields #[.ref a, .int 0 0] }
 refine loop_goG (Pd := fun i d => ds[i]? = some d) (G := G) hs hl Si (zL hs hx) W (fun b hb => ?_) ⟨⟨_, Heap.get?_push_size _ rfl, rfl, rfl⟩, hi.at fun o e => Heap.get?_push_of_some _ e⟩ S2 f1 f2 f3 hhd (fun i h hst => ?_) (fun i v hin hP => ?_) (g0 _ i)
  (fun j d hj hd' oI m₁ ρi koi ledi newsi s1 hs1 gj il hIk hh hc S1 => ?_) fun h2 tk2 m2 ρ2 ko2 led2 news2 S3 g3 i3 hh3 => K h2 tk2 m2 ρ2 ko2 led2 news2 S3 g3 (Inc.trans i i3) hh3
 ·rcases List.mem_cons.mp hb with e | hb
  ·exact .inl e
  ·rw [List.mem_singleton.mp hb]; exact .inr ⟨_, hm⟩
 ·obtain ⟨⟨o, ho, hc, hd⟩, _⟩ := hst
  exact ⟨o, ho, (fun C dx e => by rw [e] at hc; cases hc), (fun mm h => by obtain ⟨es, ep, e, _⟩ := h; rw [hd] at e; cases e), (fun its c e => by rw [e] at hc; simp at hc), (fun e => by have := e.1; rw [hc] at this; simp at this), (fun C dx e => by rw [e] at hc; cases hc), (fun v e => by rw [hd] at e; cases e)⟩
 ·have hd : ds[i]? = some ds[i] := List.getElem?_eq_getElem hin
  obtain ⟨u, hu, ru⟩ := Rs.get rr hd
  simp only [List.getElem?_toArray] at hP
  rw [hu] at hP
  cases hP
  exact ⟨_, hd, ru⟩
 ·obtain ⟨h9, tk9, rfl⟩ := hs1
  exact step j d hd' _ oI m₁ ρi koi ledi newsi (sw s h9 tk9) ⟨h9, tk9, rfl⟩ gj (Inc.trans i il) hIk hh hc S1
theorem forG_range {sc env h₀ L s m ρ ko led news} {n : Nat} {x px rx rpos cpos e body pos} {k : Nat} {Q hd} {G : Nat -> Loc -> Led -> Led -> Prop}
  (hs : env.scope.names = sc) (hl : env.locals = L) (Si : Sit w A env h₀ L n) (hx : zAu sc x = true) (hk : zZ sc rx = true) (hdb : zM rx = true) (er : fnd rx bTab = some (.type "range")) (hs1 : zP e = true) (S : St env h₀ L s.heap m ρ ko led news) (hhd : ko.head? = some hd) (h : EvE sc ρ n e (.int (k : Nat))) (hk2 : Nat.ble k 1000 = true)
  (g0 : ∀ led', Inc led led' -> G 0 ρ ko led')
  (step : ∀ i, i < k -> ∀ I oI m₁ ρi koi ledi newsi (s1 : Shared), (∃ h tk, s1 = (sw s h tk)) -> G i ρi koi ledi -> (Inc led ledi) -> I ∉ keyL koi -> koi.head? = some hd -> IsIt oI ->
   St env h₀ L s1.heap m₁ (put x (.val (.int (i : Nat))) ρi) (koi ++ [(I, oI)]) ledi newsi -> wpAny (model prog w) A (execs body env) (TurnG env h₀ L s1 hd I oI ledi (G (i + 1))) (fun _ _ => False) s1)
  (K : ∀ h' tk m' ρ' ko' led' news', St env h₀ L h' m' ρ' ko' led' news' -> G k ρ' ko' led' -> Inc led led' -> ko'.head? = some hd -> Q .next (sw s h' tk)) :
  wpAny (model prog w) A (exec (.For (.Name x px) (.Call (.Name rx rpos) [e] [] cpos) body [] pos) env) Q (fun _ _ => False) s := by
 have hk3 := Nat.le_of_ble_eq_true hk2
 refine For_invV h₀ (zL hs hx) (by rw [Si.kd]; rfl) ?_ (fun _ => rfl) PassesOwn.never
 refine Rows.Call_ (zAl hs Si S hk hdb er ?_)
 refine Rows.callWith_type1 (zH hs1 h zO prog w A env h₀ L s m ko led news _ _ cpos hs Si S fun vs h' tk led' news' S' i r => ?_) (zB hs1) rfl
 obtain ⟨v, rfl, rv⟩ := Rs.inv1 r
 obtain ⟨t, rfl⟩ := zS rv
 refine call_range_1 ?_
 have S1 := S'.pushed { cls := .type "range", data := .fields #[.int 0 tk, .int (k : Int) t, .int 1 (tk + 1)] }
 have hsmall : Builtin.Range.small 0 (k : Int) 1 = true := small_range hk3
 have hsize : Builtin.Range.rangeSize 0 (k : Int) 1 = (k : Int) := by rw [rangeSize_nat]; simp
 refine wpAny_pyIter_range (s := ⟨h'.push _, s.gens, s.drawn, _, s.os⟩) (Heap.get?_push_size _ rfl) hsmall ?_
 rw [hsize]
 obtain ⟨f1, f2, f3⟩ := S1.fresh
 have S2 := S1.pushed { cls := .type "range_iterator", data := .fields #[rawInt 0, rawInt (k : Int), rawInt 1] }
 have W := Walks.range (prog := prog) (w := w) Si.hd (h'.push { cls := .type "range", data := .fields #[.int 0 tk, .int (k : Int) t, .int 1 (tk + 1)] }).objs.size 0 1 k
 refine loop_goG (Pd := fun i d => d = .int (i : Nat)) (G := G) hs hl Si (zL hs hx) W (fun b hb => .inl (List.mem_singleton.mp hb)) ?_ S2 f1 f2 f3 hhd (fun i h hst => ?_) (fun i v hin hP => ?_) (g0 _ i)
  (fun j d hj hd' oI m₁ ρi koi ledi newsi s1 hs1 gj il hIk hh hc S1 => ?_) fun h2 tk2 m2 ρ2 ko2 led2 news2 S3 g3 i3 hh3 => K h2 tk2 m2 ρ2 ko2 led2 news2 S3 g3 (Inc.trans i i3) hh3
 ·have e1 : ((0 : Int) + ((0 : Nat) : Int) * 1) = 0 := by simp
  have e2 : ((k : Int) - ((0 : Nat) : Int)) = k := by simp
  rw [e1, e2]
  exact Heap.get?_push_size _ rfl
 ·exact ⟨_, hst, (fun C dx e => by cases e), (fun mm h => by obtain ⟨es, ep, e, _⟩ := h; cases e), (fun its c e => by have := congrArg Obj.cls e; simp at this), (fun e => by have := e.1; simp at this), (fun C dx e => by cases e), (fun v e => by cases e)⟩
 ·obtain ⟨u, rfl⟩ := hP
  refine ⟨.int (i : Nat), rfl, ?_⟩
  exact show ∃ t, _ = Value.int _ t from ⟨u, by simp⟩
 ·subst hd'
  obtain ⟨h9, tk9, rfl⟩ := hs1
  exact step j hj _ oI m₁ ρi koi ledi newsi (sw s h9 tk9) ⟨h9, tk9, rfl⟩ gj (Inc.trans i il) hIk hh hc S1
end
theorem bindL_skip {k : Str -> Option NameKind} {x} : ∀ {binds : List (Str × Value)} {m}, (binds.map (·.1)).any (eqS x) = false -> bindL k binds m x = m x
 | [], _, _ => rfl
 | (n, v) :: r, m, h => by
  simp only [List.map_cons, List.any_cons, Bool.or_eq_false_iff] at h
  unfold bindL
  rw [bindL_skip h.2]
  have hne : x ≠ n := fun e => by rw [e, zI] at h; cases h.1
  split
  ·simp [hne]
  ·rfl
theorem bindC_skip {k : Str -> Option NameKind} {x} : ∀ {binds : List (Str × Value)} {m}, (binds.map (·.1)).any (eqS x) = false -> bindC k binds m x = m x
 | [], _, _ => rfl
 | (n, v) :: r, m, h => by
  simp only [List.map_cons, List.any_cons, Bool.or_eq_false_iff] at h
  unfold bindC
  rw [bindC_skip h.2]
  have hne : x ≠ n := fun e => by rw [e, zI] at h; cases h.1
  split
  ·rfl
  ·simp [hne]
theorem bindL_at {k : Str -> Option NameKind} {x v} (hk : k x = some .local) : ∀ {binds : List (Str × Value)} {m}, zAz (binds.map (·.1)) = true -> fnd x binds = some v -> bindL k binds m x = some v
 | [], _, _, h => by cases h
 | (n, u) :: r, m, hd, h => by
  simp only [List.map_cons, zAz, Bool.and_eq_true, Bool.not_eq_true'] at hd
  unfold bindL
  unfold fnd at h
  split at h
  ·rename_i q
   obtain rfl := zW.mp q
   cases h
   rw [bindL_skip hd.1, if_pos hk]
   simp
  ·exact bindL_at hk hd.2 h
theorem bindC_at {k : Str -> Option NameKind} {x v} (hk : k x ≠ some .local) : ∀ {binds : List (Str × Value)} {m}, zAz (binds.map (·.1)) = true -> fnd x binds = some v -> bindC k binds m x = some v
 | [], _, _, h => by cases h
 | (n, u) :: r, m, hd, h => by
  simp only [List.map_cons, zAz, Bool.and_eq_true, Bool.not_eq_true'] at hd
  unfold bindC
  unfold fnd at h
  split at h
  ·rename_i q
   obtain rfl := zW.mp q
   cases h
   rw [bindC_skip hd.1, if_neg hk]
   simp
  ·exact bindC_at hk hd.2 h
theorem St.backG {env env' h₀ g L L' h h' m m' ρ ρ' ko ko' led news led' news'} (S : St env h₀ L h m ρ ko led news) (S' : St env' g L' h' m' ρ' ko' led' news') (hko : ∀ p ∈ koOf led news, p ∈ ko') (i : Inc led led')
  (F2 : Fr h₀ L h' m) (N2 : News h₀ L h' news') : St env h₀ L h' m ρ ko led' news' where
 F := F2
 N := N2
 nd := S'.nd
 kon := fun p hp => S'.kon p (hko _ (zAd.mpr ⟨S.kon p hp, S.dis p.1 (zC (o := p.2) hp)⟩))
 sub := S'.sub
 dis := fun a ha => by
  obtain ⟨p, hp, rfl⟩ := List.mem_map.mp ha
  exact S'.dis p.1 (zC (o := p.2) (hko _ (zAd.mpr ⟨S.kon p hp, S.dis p.1 ha⟩)))
 tab := S'.tab
 loc := by
  obtain ⟨mm, X⟩ := S.loc
  refine ⟨mm, X.lc, fun x lv e => ?_, X.inj⟩
  obtain ⟨v, V, O, k⟩ := X.at' x lv e
  refine ⟨v, V, O.mono i (fun a o hm hn _ hc => ?_), k⟩
  have := hko _ (own_koOf S.nd S.tab hm hn hc)
  exact ⟨S'.kon _ this, (S'.dis a (zC this)).1⟩
noncomputable def BodyC (sc : zT) (y : Str) (ρ : Loc) (n : Nat) (ss : List Stmt) (fl : Fl) : Prop :=
 ∀ (prog : Program) (w : World) (A : Around) (env : Env) (h₀ : Heap) (L : Addr) (s : Shared) (m : Str -> Option Value) (ko led news : Led) (c : Addr) (o : Obj) (Q : Flow -> Shared -> Prop),
  env.scope.names = sc -> env.locals = L -> Sit w A env h₀ L n -> St env h₀ L s.heap m ρ ko led news -> env.cells.lookup y = some c -> (c, o) ∈ ko -> (∃ v, o.data = .cell v) -> (∀ C dx, o ≠ instObj C dx) -> (∃ p, ko.head? = some p ∧ p.1 ≠ c) ∨ ko = [(c, o)] ->
  (∀ f h' tk m' ρ' ko' led' news', St env h₀ L h' m' ρ' ko' led' news' -> (∀ p ∈ ko, p.1 ≠ c -> p ∈ ko') -> Inc led led' -> FlOK led' fl f -> Q f (sw s h' tk)) ->
  wpAny (model prog w) A (execs ss env) Q (fun _ _ => False) s
theorem ExS.bodyC {sc y ρ n ss fl ρ'} (h : ExS sc ρ n ss fl ρ') : BodyC sc y ρ n ss fl := fun prog w A env h₀ L s m ko led news c o Q hs hl Si S _ _ _ _ _ K =>
 h prog w A env h₀ L s m ko led news Q hs hl Si S fun f h' tk m' led' news' S' i hf => K f h' tk m' ρ' ko led' news' S' (fun p hp _ => hp) i hf
noncomputable abbrev fC (r : FnR) (L : Addr) : Env := envOfC (Str.ofString r.qual) (zD r.st) L r.f (.ref r.cdv)
theorem enterC {r names y} {k n : Nat} {ex ds} (hr : r ∈ zAk) (hco : (zD r.st).isCoroutine = false) (hge : (zD r.st).isGenerator = false) (hki : (zD r.st).kind = .function) (hb : BindOK r names k ex)
  (hk : ds.length = k) (hdis : zAz names = true) (hlen : names.length = k + ex.length) (hcel : ∀ n, cellsFrom n (zD r.st).names [] = [(y, n)]) (hy : fnd y (zD r.st).names = some .cell)
  (hloc : names.all (fun x => fnd x (zD r.st).names == some .local || eqS x y) = true) {prog w A env h₀ L s m ρ ko led news vs Rr A₀ base outer fenv}
  (B : Below A₀ base outer h₀) (hA : A.frames = some (fenv :: outer)) (hfr : fenv.frame = some L) (hke : fenv.scope.kind = .function) (Si : Sit w A env h₀ L (n + 1)) (S : St env h₀ L s.heap m ρ ko led news) (rr : Rs led ds vs)
  (H : ∀ g L' h₁ tk m' o, Fr h₀ L g m -> Below A base (fenv :: outer) g -> Sit w (A.deeper (fC r L')) (fC r L') g L' n ->
   St (fC r L') g L' h₁ m' (vals names (ds ++ ex)) (koOf led news ++ [(L' + 1, o)]) led ((L' + 1, o) :: news) -> (fC r L').cells.lookup y = some (L' + 1) -> (∃ v, o.data = .cell v) -> (∀ p ∈ news, p.1 ≠ L' + 1) ->
   wpAny (model prog w) (A.deeper (fC r L')) (execs (zG r.st) (fC r L')) (fun fl s' => LeaveK h₀ L m g Rr (match fl with | .ret v => v | _ => .none) s')
    (fun e s' => wpAny (model prog w) (A.deeper (fC r L')) (leaving (fC r L') e) (fun _ s'' => Rr (.error e) s'') (fun e' s'' => Rr (.error e') s'') s') (sw s h₁ tk)) :
  codeAny (model prog w) A (.call (.ref r.f) ⟨vs, []⟩) Rr s := by
 obtain ⟨mean, mg, mb, T⟩ := Si.T
 obtain ⟨e1, e2⟩ := fn_ok w.params r hr
 rw [fnO_eq] at e1
 obtain ⟨es, re, hbind⟩ := hb w s vs (Si.X.keeps S.F.keep) (by rw [← Rs.length rr, hk])
 have hl : names.length = (vs ++ es).length := by rw [hlen, List.length_append, ← Rs.length rr, hk, ← Rs.length re]
 have hz : (names.zip (vs ++ es)).map (·.1) = names := zip_fst hl
 have hall : Rs led (ds ++ ex) (vs ++ es) := Rs.append rr (Rs.mono (led := []) (by intro p hp; cases hp) re)
 have hkn : ∀ x ∈ names, fnd x (zD r.st).names = some .local ∨ x = y := fun x hx => by
  have := List.all_eq_true.mp hloc x hx
  rcases Bool.or_eq_true_iff.mp this with h | h
  ·exact .inl (beq_iff_eq.mp h)
  ·exact .inr (zW.mp h)
 refine code_defC B S.F Si.X S.N T hA hfr hke e1 e2 Si.d0 hbind ?_ (by rw [hcel]; simp) (fun g L' h₁ tk cells FG F' N' Y B' X' T' hltL => ?_) hco hge hki
 ·refine List.all_eq_true.mpr fun x hx => ?_
  have hm : x.1 ∈ names := by rw [← hz]; exact List.mem_map.mpr ⟨x, hx, rfl⟩
  rcases hkn x.1 hm with h | h
  ·rw [zAc, h]; rfl
  ·rw [zAc, h, hy]; rfl
 ·rw [hcel] at Y
  obtain ⟨o, rfl, hod⟩ := Y.one
  have kind : ∀ x, (fC r L').kindOf x = fnd x (zD r.st).names := fun x => by
   show List.lookup x _ = _
   rw [zAc]
   rfl
  have hcl : (fC r L').cells.lookup y = some (L' + 1) := by
   show List.lookup y (cellsFrom (L' + 1) (zD r.st).names []) = _
   rw [hcel]; simp
  have hcn : ∀ p ∈ news, p.1 ≠ L' + 1 := fun p hp => Nat.ne_of_lt (Nat.lt_succ_of_lt (hltL p hp))
  have hct : (L' + 1 : Nat) ∉ tabs := S.sp.not_tab hcn
  have S' : St (fC r L') g L' h₁ (bindL (fC r L').kindOf (names.zip (vs ++ es)) fun _ => none) (vals names (ds ++ ex)) (koOf led news ++ [(L' + 1, o)]) led ((L' + 1, o) :: news) := by
   refine ⟨F', N', ?_, fun p hp => ?_, fun p hp => .tail _ (S.sub p hp), fun a ha => ?_, fun P hP => let ⟨hn, ps, h, g⟩ := S.tab P hP; ⟨hn, ps, .tail _ h, g⟩, ⟨_, .fn rfl rfl, fun x lv e => ?_, fun x z lx lz u f1 f2 g1 g2 _ _ => ?_⟩⟩
   ·show ((L' + 1) :: keyL news).Nodup
    refine List.nodup_cons.mpr ⟨fun hm => ?_, S.nd⟩
    obtain ⟨p, hp, e⟩ := List.mem_map.mp hm
    exact hcn p hp e
   ·rcases List.mem_append.mp hp with hp | hp
    ·exact .tail _ (zAd.mp hp).1
    ·rw [List.mem_singleton.mp hp]; exact .head _
   ·obtain ⟨p, hp, rfl⟩ := List.mem_map.mp ha
    rcases List.mem_append.mp hp with hp | hp
    ·exact (zAd.mp hp).2
    ·rw [List.mem_singleton.mp hp]
     exact ⟨S.sp.not_led hcn, hct⟩
   ·obtain ⟨d', v, rfl, e1, r1⟩ := fnd_vals hall e
    have hm : x ∈ names := by rw [← hz]; exact List.mem_map.mpr ⟨(x, v), fnd_mem e1, rfl⟩
    refine ⟨v, ?_, r1, fun h => by cases h⟩
    rcases hkn x hm with h | h
    ·exact .loc (by rw [kind, h]) (bindL_at (by rw [kind, h]) (by rw [hz]; exact hdis) e1)
    ·subst h
     refine .cel (L' + 1) o (.inl (by rw [kind, hy])) hcl (List.mem_append_right _ (.head _)) ?_
     rw [hod, bindC_at (by rw [kind, hy]; intro h; cases h) (by rw [hz]; exact hdis) e1]
   ·obtain ⟨d, v, rfl, _⟩ := fnd_vals hall f1
    cases g1
  have Si' : Sit w (A.deeper (fC r L')) (fC r L') g L' n := Si.deep hA B' X' ⟨mean, mg, mb, T'⟩ rfl hki rfl rfl
  exact H g L' h₁ tk _ o FG B' Si' S' hcl ⟨_, hod⟩ hcn
theorem call_of_bodyC {r names y} {k n : Nat} {ex ds d fl} (hr : r ∈ zAk) (hco : (zD r.st).isCoroutine = false) (hge : (zD r.st).isGenerator = false) (hki : (zD r.st).kind = .function) (hb : BindOK r names k ex)
  (hk : ds.length = k) (hdis : zAz names = true) (hlen : names.length = k + ex.length) (hcel : ∀ n, cellsFrom n (zD r.st).names [] = [(y, n)]) (hy : fnd y (zD r.st).names = some .cell)
  (hloc : names.all (fun x => fnd x (zD r.st).names == some .local || eqS x y) = true) (hx : BodyC (zD r.st).names y (vals names (ds ++ ex)) n (zG r.st) fl) (hf : retOf fl = some d) : zF (n + 1) r.f ds d := by
 intro prog w A env h₀ L s m ρ ko led news vs Rr Si S rr K
 obtain ⟨A₀, base, outer, fenv, B, hA, hfr, hke⟩ := Si.fr
 refine enterC hr hco hge hki hb hk hdis hlen hcel hy hloc B hA hfr hke Si S rr fun g L' h₁ tk mm o FG B' Si' S' hcl hod hcn => wpAny_noRaise ?_
 refine hx prog w _ _ g L' (sw s h₁ tk) _ _ led _ (L' + 1) o _ rfl rfl Si' S' hcl (List.mem_append_right _ (.head _)) hod (fun C dx e => by obtain ⟨v, hod⟩ := hod; rw [e] at hod; cases hod) ?_ fun f h' tk m' ρ' ko' led' news' S'' hko i hfl => ?_
 ·cases hq : koOf led news with
  | nil => exact .inr (by simp)
  | cons p q =>
   refine .inl ⟨p, rfl, ?_⟩
   exact hcn p (zAd.mp (by rw [hq]; exact .head _)).1
 ·refine leaveK_ S''.F S''.N fun F2 N2 => ?_
  have SB := S.backG S'' (fun p hp => hko p (List.mem_append_left _ hp) (hcn p (zAd.mp hp).1)) i F2 N2
  cases fl with
  | next =>
   cases hf
   have : f = .next := hfl
   subst this
   exact K .none h' _ led' news' SB i R_none
  | ret d' =>
   cases hf
   obtain ⟨v, rfl, rv⟩ := hfl
   exact K v h' _ led' news' SB i rv
  | brk => cases hf
  | cont => cases hf
theorem exs_of {n : Nat} {sc ρ ss fl ρ'} (h : evS noO ft n sc ρ ss = some (fl, ρ')) : ExS sc ρ n ss fl ρ' := (zBr zBq zAi ft_ok n).s _ _ _ _ h
noncomputable def zA (i : Nat) : Row := pool.getD i ⟨"", "", 0, 0, 0⟩
noncomputable def codesD (r : Row) : List D := if r.k1 == "o32" then (List.range 8).map fun (i : Nat) => .tup [.int 0, .int r.esc, .int (r.op + (i : Int))] else [.tup [.int 0, .int r.esc, .int r.op]]
noncomputable def bodyOf (n : Nat) (r : FnR) (ρ : Loc) : Option D := (evS noO ft n (zD r.st).names ρ (zG r.st)).bind fun p => retOf p.1
theorem bodyOf_ok {n : Nat} {r ρ d} (h : bodyOf n r ρ = some d) : ∃ fl ρ', ExS (zD r.st).names ρ n (zG r.st) fl ρ' ∧ retOf fl = some d :=
 let ⟨p, e, h⟩ := Option.bind_eq_some_iff.mp h
 ⟨p.1, p.2, exs_of e, h⟩
noncomputable def nextO (r : Option (Fl × Loc)) : Option Loc := r.bind fun p => gd (isNext p.1) (some p.2)
theorem nextO_ok {r : Option (Fl × Loc)} : Sat (fun ρ => r = some (.next, ρ)) (nextO r) := fun ρ h => by
 obtain ⟨⟨a, ρ1⟩, rfl, h⟩ := Option.bind_eq_some_iff.mp h
 cases a with
 | next => exact congrArg (fun x => some (Fl.next, x)) (Option.some.inj h)
 | _ => cases h
noncomputable def retO (r : Option (Fl × Loc)) : Option D := r.bind fun p => match p.1 with
 | .ret d => some d
 | _ => none
theorem retO_ok {r : Option (Fl × Loc)} : Sat (fun d => ∃ ρ, r = some (.ret d, ρ)) (retO r) := fun d h => by
 obtain ⟨⟨a, ρ1⟩, rfl, h⟩ := Option.bind_eq_some_iff.mp h
 cases a with
 | ret d' => exact ⟨ρ1, congrArg (fun x => some (Fl.ret x, ρ1)) (Option.some.inj h)⟩
 | _ => cases h
noncomputable abbrev noSt : Stmt := .Pass ⟨0, 0, 0, 0⟩
noncomputable def noE : Expr := .Constant .none 0 ⟨0, 0, 0, 0⟩
noncomputable def sx : Stmt -> List Expr
 | .Expr e _ => [e]
 | .Assign ts e _ => e :: ts
 | .Return (some e) _ => [e]
 | .If t _ _ _ => [t]
 | .While t _ _ _ => [t]
 | .For t it _ _ _ => [it, t]
 | _ => []
noncomputable def sb : Stmt -> List (List Stmt)
 | .If _ a b _ => [a, b]
 | .While _ b _ _ => [b]
 | .For _ _ b _ _ => [b]
 | .Try b _ _ _ _ => [b]
 | _ => []
noncomputable def kx : Expr -> List Expr
 | .Subscript e _ _ => [e]
 | .Call _ es _ _ => es
 | .Tuple es _ _ => es
 | .ListComp e _ _ _ => [e]
 | _ => []
noncomputable def hdE (l : List Expr) : Expr := l.headD noE
noncomputable def hdS (l : List Stmt) : Stmt := l.headD noSt
noncomputable def stE (s : Stmt) : Expr := hdE (sx s)
noncomputable def stB1 (s : Stmt) : List Stmt := (sb s).headD []
noncomputable def stAt (r : FnR) (i : Nat) : Stmt := (zG r.st).getD i noSt
section
variable {K : Type} [DecidableEq K]
noncomputable def look (xs : List (K × Addr)) (k : K) : Option Addr := (xs.find? fun x => decide (x.1 = k)).map (·.2)
noncomputable abbrev valsR (xs : List (K × Addr)) : List (K × Value) := xs.map fun x => (x.1, Value.ref x.2)
theorem look_ref (xs : List (K × Addr)) (k : K) : ((valsR xs).find? fun x => decide (x.1 = k)).map (·.2) = (look xs k).map Value.ref := by
 induction xs with
 | nil => rfl
 | cons x r ih =>
  unfold look at ih ⊢
  simp only [valsR, List.map_cons, List.find?_cons] at ih ⊢
  by_cases h : x.1 = k
  ·simp [h]
  ·simp only [h, decide_false]
   exact ih
theorem look_none {xs : List (K × Addr)} {k : K} (h : look xs k = none) : ∀ x ∈ xs, x.1 ≠ k := fun x hx e => by
 unfold look at h
 rw [Option.map_eq_none_iff, List.find?_eq_none] at h
 exact h x hx (by simp [e])
theorem look_snoc {xs : List (K × Addr)} {k : K} {l} (h : look xs k = none) : look (xs ++ [(k, l)]) k = some l := by
 unfold look at h ⊢
 rw [Option.map_eq_none_iff] at h
 rw [List.find?_append, h]
 simp
theorem look_mem {xs : List (K × Addr)} {k : K} {l} (h : look xs k = some l) : (k, l) ∈ xs := by
 unfold look at h
 cases hq : xs.find? fun x => decide (x.1 = k) with
 | none => rw [hq] at h; cases h
 | some x =>
  rw [hq] at h
  have h1 := List.find?_some hq
  have h2 := List.mem_of_find?_eq_some hq
  cases h
  have : x.1 = k := of_decide_eq_true h1
  rw [← this]
  exact h2
structure TOps (prog : Program) (w : World) (T : Led -> Obj -> List (K × Addr) -> Prop) (kd : Led -> K -> Value -> Prop) : Prop where
 exact' : ∀ {led o xs}, T led o xs -> o.ExactDict ∧ ∃ es ep, o.data = .dict es ep
 up : ∀ {led led' o xs}, Inc led led' -> T led o xs -> T led' o xs
 kup : ∀ {led led' k v}, Inc led led' -> kd led k v -> kd led' k v
 notin : ∀ {A : Around} {E : Value -> Shared -> Prop} {h₀ : Heap} {L : Addr} {s : Shared} {led news : Led} {d : Addr} {o : Obj} {xs : List (K × Addr)} {k : K} {key : Value} {Q : Value -> Shared -> Prop},
  A.units + 1 < cLine -> News h₀ L s.heap news -> (Inc led news) -> (d, o) ∈ news -> T led o xs -> kd led k key -> (d == sysModules) = false -> (∀ tk, Q (.bool (!(look xs k).isSome)) { s with toks := tk }) ->
  wpAny (model prog w) A (compareOp .NotIn key (.ref d)) Q E s
 item : ∀ {A : Around} {E : Value -> Shared -> Prop} {h₀ : Heap} {L : Addr} {s : Shared} {led news : Led} {d : Addr} {o : Obj} {xs : List (K × Addr)} {k : K} {key : Value} {l : Addr} {value slice : Expr} {Q : Value -> Shared -> Prop},
  A.units + 1 < cLine -> News h₀ L s.heap news -> (Inc led news) -> (d, o) ∈ news -> T led o xs -> kd led k key -> notSlice slice = true -> look xs k = some l -> (∀ tk, Q (.ref l) { s with toks := tk }) ->
  wpAny (model prog w) A (subscriptTail value slice (.ref d) key) Q E s
 set : ∀ {A : Around} {E : Value -> Shared -> Prop} {h₀ : Heap} {L : Addr} {s : Shared} {m : Str -> Option Value} {led news : Led} {g : Obj -> Led} {d : Addr} {o : Obj} {xs : List (K × Addr)} {k : K} {key : Value} {l : Addr} {Q : Unit -> Shared -> Prop},
  A.units + 1 < cLine -> Fr h₀ L s.heap m -> News h₀ L s.heap news -> (Inc led news) -> UpdF d o news g -> T led o xs -> kd led k key -> look xs k = none -> xs.length ≤ 1000 ->
  (∀ h' o' tk, Fr h₀ L h' m -> News h₀ L h' (g o') -> T led o' (xs ++ [(k, l)]) -> Q () (sw s h' tk)) ->
  wpAny (model prog w) A (setItem (.ref d) key (.ref l)) Q E s
end
noncomputable def TS (prog : Program) (w : World) (_ : Led) (o : Obj) (xs : List (Str × Addr)) : Prop := o.IsDictOf (strKind prog w) (valsR xs)
noncomputable def kdS (_ : Led) (k : Str) (v : Value) : Prop := ∃ t, v = .str k t
theorem kdS_is {prog w led k v} (h : kdS led k v) : (strKind prog w).is k v = true := by
 obtain ⟨t, rfl⟩ := h
 show Value.isStrOf k (.str k t) = true
 simp [Value.isStrOf]
theorem tops_str {prog w} : TOps prog w (TS prog w) kdS where
 exact' := fun ⟨_, _, h, h2, _⟩ => ⟨h, _, _, h2⟩
 up := fun _ h => h
 kup := fun _ h => h
 notin := fun {A E h₀ L s led news d o xs k key Q} hu N hs hm T hk hd K =>
  kdg_notin N hm T hd (kdS_is hk) (look xs k).isSome (by show Option.isSome (Option.map _ _) = _; rw [look_ref]; simp) (K _)
 item := fun {A E h₀ L s led news d o xs k key l value slice Q} hu N hs hm T hk hn hl K =>
  have hD := kda_dict N hm T
  tail_any hD.typeIs slot_dict_getitem.lookup (wpAny_getItem_of (kdS_is hk) hD.mapOf (v := .ref l) (by show Option.map _ _ = _; rw [look_ref, hl]; rfl) (K _)) (subs_ops hn)
 set := fun {A E h₀ L s m led news g d o xs k key l Q} hu F N hs U T hk hl hz K =>
  kda_set F N U T (kdS_is hk) (by simp only [valsR, List.length_map]; unfold sizeLine; lia) fun h' o' F' N' T' => K h' o' _ F' N' (by
   have h1 : ((valsR xs).any fun kv => decide (kv.1 = k)) = false := by
    rw [List.any_eq_false]
    intro kv hkv
    obtain ⟨x, hx, rfl⟩ := List.mem_map.mp hkv
    simpa using look_none hl x hx
   have h2 : stored (valsR xs) k (.ref l) = valsR (xs ++ [(k, l)]) := by
    unfold stored
    rw [if_neg (by rw [h1]; exact Bool.false_ne_true)]
    simp [valsR]
   unfold TS
   rw [← h2]
   exact T')
inductive TT (prog : Program) (w : World) (led : Led) (o : Obj) (xs : List (List Int × Addr)) : Prop
 | mk (es : Array DictEntry) (ep : Nat) (ys : List (List Int × Addr × Value)) : o.ExactDict -> o.data = .dict es ep -> es.toList = ys.map (entryOfKey (tupleKind (intKind prog w))) -> (ys.map (·.1)).Nodup -> (∀ y ∈ ys, ∃ ok, (y.2.1, ok) ∈ led ∧ TupKeyObj (intKind prog w) y.1 ok) ->
  (valsR xs = ys.map fun (y : List Int × Addr × Value) => (y.1, y.2.2)) -> TT prog w led o xs
inductive kdT (prog : Program) (w : World) (led : Led) (k : List Int) (v : Value) : Prop
 | mk (a : Addr) (ok : Obj) : v = .ref a -> (a, ok) ∈ led -> TupKeyObj (intKind prog w) k ok -> kdT prog w led k v
theorem atKey_ref {xs : List (List Int × Addr)} {ys : List (List Int × Addr × Value)} (h : valsR xs = ys.map fun (y : List Int × Addr × Value) => (y.1, y.2.2)) (k : List Int) : (atKey ys k).map (·.2) = (look xs k).map Value.ref := by
 rw [← look_ref, h]
 clear h
 unfold atKey
 induction ys with
 | nil => rfl
 | cons y r ih =>
  simp only [List.map_cons, List.find?_cons]
  by_cases h : y.1 = k
  ·simp [h]
  ·simp only [h, decide_false]
   exact ih
theorem zBi {prog w} : TOps prog w (TT prog w) (kdT prog w) where
 exact' := fun ⟨_, _, _, h, h2, _, _, _, _⟩ => ⟨h, _, _, h2⟩
 up := fun i ⟨es, ep, ys, a, b, c, d, e, f⟩ => ⟨es, ep, ys, a, b, c, d, fun y hy => let ⟨ok, h1, h2⟩ := e y hy; ⟨ok, i _ h1, h2⟩, f⟩
 kup := fun i ⟨a, ok, e, h, t⟩ => ⟨a, ok, e, i _ h, t⟩
 notin := fun {A E h₀ L s led news d o xs k key Q} hu N hs hm T hk hd K => by
  obtain ⟨es, ep, ys, hc, hdt, he, hn, hy, hx⟩ := T
  obtain ⟨a, ok, rfl, hka, t⟩ := hk
  refine Rows.wpAny_notIn_heap (knd := tupleKind (intKind prog w)) (xs := ys) (k := k) (tupleKind_room_in1 hu) (t.key (N.get (hs _ hka))) hd ⟨o, es, ep, N.get hm, hc, hdt, he, fun x hx => let ⟨_, h1, h2⟩ := hy x hx; h2.key (N.get (hs _ h1)), hn⟩ ?_
  have h1 : (atKey ys k).isSome = (look xs k).isSome := by
   have := congrArg Option.isSome (atKey_ref hx k)
   simpa using this
  rw [h1]
  exact K _
 item := fun {A E h₀ L s led news d o xs k key l value slice Q} hu N hs hm T hk hns hl K => by
  obtain ⟨es, ep, ys, hc, hdt, he, hn, hy, hx⟩ := T
  obtain ⟨a, ok, rfl, hka, t⟩ := hk
  have hD : s.heap.DictOfH (tupleKind (intKind prog w)) d ys := ⟨o, es, ep, N.get hm, hc, hdt, he, fun x hx => let ⟨_, h1, h2⟩ := hy x hx; h2.key (N.get (hs _ h1)), hn⟩
  have h1 := atKey_ref hx k
  rw [hl] at h1
  cases hp : atKey ys k with
  | none => rw [hp] at h1; cases h1
  | some p =>
   rw [hp] at h1
   have h2 : p.2 = .ref l := by injection h1
   refine tail_any hD.typeIs slot_dict_getitem.lookup (wpAny_getItem_heap (tupleKind_room_in1 hu) (t.key (N.get (hs _ hka))) hD hp ?_) (subs_ops hns)
   rw [h2]
   exact K _
 set := fun {A E h₀ L s m led news g d o xs k key l Q} hu F N hs U T hk hl hz K => by
  obtain ⟨es, ep, ys, hc, hdt, he, hn, hy, hx⟩ := T
  obtain ⟨a, ok, rfl, hka, t⟩ := hk
  obtain ⟨pre, post, rfl, hg, h1, h2⟩ := U.split
  have hm := N (d, o) (List.mem_append_right _ (.head _))
  have hD : s.heap.DictOfH (tupleKind (intKind prog w)) d ys := ⟨o, es, ep, hm.1, hc, hdt, he, fun x hx => let ⟨_, h1, h2⟩ := hy x hx; h2.key (N.get (hs _ h1)), hn⟩
  have hlen : ys.length = xs.length := by have := congrArg List.length hx; simpa [valsR] using this.symm
  have hnone : atKey ys k = none := by
   have := atKey_ref hx k
   rw [hl] at this
   simpa using this
  refine wpAny_setItem_heap (hsz := by rw [hlen]; unfold sizeLine; lia) (tupleKind_room_in1 hu) (t.key (N.get (hs _ hka))) hD fun h' hmm hsb => ?_
  obtain ⟨o', es', ep', ho', hc', hd', he', _, hn'⟩ := hmm
  refine K h' o' _ (F.change hsb hm.2.1 hm.2.2) (hg o' ▸ N.setIn h1 h2 hsb ho') ⟨es', ep', _, hc', hd', he', hn', fun y hy' => ?_, ?_⟩
  ·rw [storedH_new hnone] at hy'
   rcases List.mem_append.mp hy' with h3 | h3
   ·exact hy y h3
   ·rw [List.mem_singleton.mp h3]
    exact ⟨ok, hka, t⟩
  ·rw [storedH_new hnone, List.map_append, ← hx]
   simp [valsR]
theorem items_ints {prog w led} : ∀ {ks : List Int} {vs}, Rs led (ks.map D.int) vs -> ItemsAre (intKind prog w) ks vs
 | [], vs, h => by obtain rfl : vs = [] := h; exact .nil
 | k :: ks, vs, h => by
  obtain ⟨v, r, rfl, a, b⟩ := h
  have a : R led (.int k) v := a
  obtain ⟨t, rfl⟩ := a
  exact .cons (by show Value.isInt k (.int k t) = true; simp [Value.isInt]) (items_ints b)
theorem kdT_of {prog w led} {ks : List Int} {v} (h : R led (.tup (ks.map D.int)) v) : kdT prog w led ks v := by
 have h : R led (.tup (ks.map D.int)) v := h
 obtain ⟨a, vs, rfl, hm, r⟩ := h
 exact ⟨a, _, rfl, hm, TupKeyObj.made (items_ints r)⟩
theorem kdS_of {led x v} (h : R led (.str x) v) : kdS led x v := by
 have h : R led (.str x) v := h
 exact h
section
variable {prog : Program} {w : World} {A : Around}
theorem put_same {α : Type} {x} {l : α} : ∀ {ρ : List (Str × α)}, fnd x ρ = some l -> put x l ρ = ρ
 | [], h => by cases h
 | (y, k) :: r, h => by
  unfold fnd at h
  unfold put
  split at h
  ·rename_i q
   cases h
   rw [if_pos q]
  ·rename_i q
   rw [if_neg q, put_same h]
theorem St.viewAs {env h₀ L h m ρ ko led news} {x v d} (S : St env h₀ L h m ρ ko led news) (hl : env.locals = L) (hk : env.kindOf x = some .local) (hm : m x = some v) (r : R led d v) : St env h₀ L h m (put x (.val d) ρ) ko led news :=
 S.asVal (fun mm X => .loc hk (by rw [S.fn hl X]; exact hm)) r
theorem EvF.view {sc ρ n e d env h₀ L m led} {P : Led -> Value -> Prop} {x v dv d0} (hl : env.locals = L) (hk : env.kindOf x = some .local) (hm : m x = some v) (hx : fnd x ρ = some (.val d0)) (r0 : ∀ l, R l d0 v) (r : R led dv v)
  (h : EvE sc (put x (.val dv) ρ) n e d) (hs : env.scope.names = sc) (Si : Sit w A env h₀ L n) (hP : ∀ l v, R l d v -> P l v) : EvF prog w A env h₀ L m ρ led e P :=
 fun s ko led' news Q E S i K => h prog w A env h₀ L s m ko led' news Q E hs Si (S.viewAs hl hk hm (R.mono i r)) fun u h' tk led2 news2 S2 i2 ru => K u h' tk led2 news2 (by
  have := S2.viewAs hl hk hm (r0 led2)
  rw [put_put, put_same hx] at this
  exact this) i2 (hP _ _ ru)
variable {K : Type} [DecidableEq K] {T : Led -> Obj -> List (K × Addr) -> Prop} {kd : Led -> K -> Value -> Prop}
theorem k_ifnot {E env h₀ L s m ρ ko led news} {n : Nat} {d od} {xs : List (K × Addr)} {kk : K} {ek eo cp body pos Q}
  (O : TOps prog w T kd) (Si : Sit w A env h₀ L (n + 1)) (S : St env h₀ L s.heap m ρ ko led news) (hk : EvF prog w A env h₀ L m ρ led ek fun l v => kd l kk v) (ho : EvF prog w A env h₀ L m ρ led eo fun _ v => v = .ref d) (hn : zBe eo = true) (hm : (d, od) ∈ ko) (hT : T led od xs) (hd : (d == sysModules) = false)
  (Kn : ∀ h' tk led' news', St env h₀ L h' m ρ ko led' news' -> Inc led led' -> look xs kk = none -> wpAny (model prog w) A (execs body env) Q E (sw s h' tk))
  (Ky : ∀ h' tk led' news', St env h₀ L h' m ρ ko led' news' -> Inc led led' -> (look xs kk).isSome = true -> Q .next (sw s h' tk)) :
  wpAny (model prog w) A (exec (.If (.Compare ek [.NotIn] [eo] cp) body [] pos) env) Q E s := by
 refine wpAny_If ?_
 refine wpAny_isTrue_Compare1 (hk s ko led news _ E S (fun _ h => h) fun v h' tk led' news' S' i rk => ?_) (zBg hn)
 refine ho (sw s h' tk) ko led' news' _ E S' i fun u h2 tk2 led2 news2 S2 i2 e => ?_
 subst e
 refine O.notin (Si.u0 _ rfl) S2.N S2.sub (S2.kon _ hm) (O.up (Inc.trans i i2) hT) (O.kup i2 rk) hd fun tk3 => ?_
 refine wpAny_truthy_bool ?_
 cases hq : look xs kk with
 | none => exact Kn h2 tk3 led2 news2 S2 (Inc.trans i i2) hq
 | some l => exact wpAny_execs_nil (Ky h2 tk3 led2 news2 S2 (Inc.trans i i2) (by rw [hq]; rfl))
theorem k_set {E env h₀ L s m ρ ko led news} {n : Nat} {d od} {xs : List (K × Addr)} {kk : K} {ek eo sp lp pos Q hd}
  (O : TOps prog w T kd) (hl : env.locals = L) (Si : Sit w A env h₀ L (n + 1)) (S : St env h₀ L s.heap m ρ ko led news) (hk : EvF prog w A env h₀ L m ρ led ek fun l v => kd l kk v) (ho : EvF prog w A env h₀ L m ρ led eo fun _ v => v = .ref d) (hm : (d, od) ∈ ko) (hT : T led od xs) (hz : xs.length ≤ 1000)
  (hnone : look xs kk = none) (hhd : ko.head? = some hd) (hne : hd.1 ≠ d)
  (Kx : ∀ h' tk led' news' ko' l od', St env h₀ L h' m ρ ko' led' news' -> Inc led led' -> (∀ p, p ∈ ko' ↔ (p ∈ ko ∧ p.1 ≠ d) ∨ p = (d, od') ∨ p = (l, listOf #[] 0)) -> l ∉ keyL ko -> ko'.head? = some hd -> T led' od' (xs ++ [(kk, l)]) -> Q .next (sw s h' tk)) :
  wpAny (model prog w) A (exec (.Assign [.Subscript eo ek sp] (.List [] lp) pos) env) Q E s := by
 refine wpAny_Assign_Subscript ?_
 refine Rows.List_ (zO prog w A env h₀ L s m ko led news _ E lp rfl Si S fun vs h0 tk0 led0 news0 S0 i0 r0 => ?_)
 obtain rfl : _ = [] := r0
 refine newList_K (vs := []) S0.F S0.N (fun l h1 F1 N1 lt => ?_) (Nat.zero_le _)
 have S1 := S0.addKo F1 N1 fun p hp => Nat.ne_of_lt (lt p hp)
 have hlk : l ∉ keyL ko := fun hq => by
  obtain ⟨p, hp, e⟩ := List.mem_map.mp hq
  exact Nat.lt_irrefl _ (e ▸ lt p (S0.kon p hp))
 refine ho (sw s h1 tk0) _ led0 _ _ E S1 i0 fun u h2 tk2 led2 news2 S2 i2 e => ?_
 subst e
 refine hk (sw s h2 tk2) _ led2 news2 _ E S2 (Inc.trans i0 i2) fun v h3 tk3 led3 news3 S3 i3 rk => ?_
 have hm3 : (d, od) ∈ ko ++ [(l, listOf ([] : List Value).toArray 0)] := List.mem_append_left _ hm
 obtain ⟨g, U, hg⟩ := zCi S3.nd (S3.kon _ hm3)
 refine O.set (Si.u0 _ rfl) S3.F S3.N S3.sub U (O.up (Inc.trans i0 (Inc.trans i2 i3)) hT) rk hnone hz fun h4 od' tk4 F4 N4 T4 => ?_
 have S4 := S3.setKo hl hm3 (fun v e => by obtain ⟨_, es, ep, c⟩ := O.exact' hT; rw [c] at e; cases e) (fun p hp => by
  cases ko with
  | nil => cases hhd
  | cons q r => cases hhd; cases hp; exact hne) U hg F4 N4
 refine Kx h4 tk4 led3 _ _ l od' S4 (Inc.trans i0 (Inc.trans i2 i3)) (fun p => ?_) hlk ?_ T4
 ·rw [mem_setK]
  have hkd : d ∈ keyL (ko ++ [(l, listOf ([] : List Value).toArray 0)]) := zC hm3
  have hdl : l ≠ d := fun e => hlk (e ▸ zC hm)
  constructor
  ·rintro (⟨e, _⟩ | ⟨h1, h2⟩)
   ·exact .inr (.inl e)
   ·rcases List.mem_append.mp h1 with h1 | h1
    ·exact .inl ⟨h1, h2⟩
    ·exact .inr (.inr (List.mem_singleton.mp h1))
  ·rintro (⟨h1, h2⟩ | e | e)
   ·exact .inr ⟨List.mem_append_left _ h1, h2⟩
   ·exact .inl ⟨e, hkd⟩
   ·subst e; exact .inr ⟨List.mem_append_right _ (.head _), hdl⟩
 ·cases ko with
  | nil => cases hhd
  | cons q r =>
   cases hhd
   show some (if Nat.beq hd.1 d = true then (d, od') else hd) = _
   rw [if_neg (fun q => hne (Nat.eq_of_beq_eq_true q))]
theorem k_app {E env h₀ L s m ρ ko led news} {n : Nat} {d l a od} {its : Array Value} {c : Nat} {xs : List (K × Addr)} {kk : K} {ek eo e sp apos cpos att pos Q hd}
  (O : TOps prog w T kd) (hl : env.locals = L) (Si : Sit w A env h₀ L (n + 1)) (S : St env h₀ L s.heap m ρ ko led news) (hk : EvF prog w A env h₀ L m ρ led ek fun l v => kd l kk v) (ho : EvF prog w A env h₀ L m ρ led eo fun _ v => v = .ref d) (he : EvF prog w A env h₀ L m ρ led e fun _ v => v = .ref a)
  (hns : notSlice ek = true) (ha : isNm att "append" = true) (hst : zP e = true) (hline : (apos.endLine == cpos.line) = true) (hm : (d, od) ∈ ko) (hT : T led od xs) (hsome : look xs kk = some l) (hml : (l, listOf its c) ∈ ko) (hz : its.size ≤ 100000) (hhd : ko.head? = some hd) (hne : hd.1 ≠ l)
  (Kx : ∀ h' tk led' news' ko', St env h₀ L h' m ρ ko' led' news' -> Inc led led' -> (∀ p, p ∈ ko' ↔ (p ∈ ko ∧ p.1 ≠ l) ∨ p = (l, listOf (its.push (.ref a)) (c + 1))) -> ko'.head? = some hd -> Q .next (sw s h' tk)) :
  wpAny (model prog w) A (exec (.Expr (.Call (.Attribute (.Subscript eo ek sp) att apos) [e] [] cpos) pos) env) Q E s := by
 obtain rfl := zW.mp ha
 refine wpAny_Expr ?_ (inter_false Si.kd) rfl
 refine MethodCall_ ?_ (meth_eq (methOK1 rfl hst hline))
 refine Rows.Subscript_ ?_
 refine ho s ko led news _ E S (fun _ h => h) fun u h2 tk2 led2 news2 S2 i2 e => ?_
 subst e
 refine hk (sw s h2 tk2) _ led2 news2 _ E S2 i2 fun v h3 tk3 led3 news3 S3 i3 rk => ?_
 refine O.item (Si.u0 _ rfl) S3.N S3.sub (S3.kon _ hm) (O.up (Inc.trans i2 i3) hT) rk hns hsome fun tk4 => ?_
 refine getMethod_append_N S3.N (S3.kon _ hml) ?_
 refine callWith_method1 ?_ (zB hst) rfl
 refine args_cons (he (sw s h3 tk4) _ led3 news3 _ E S3 (Inc.trans i2 i3) fun v5 h5 tk5 led5 news5 S5 i5 e5 => args_nil ?_) (zB hst)
 subst e5
 obtain ⟨g, U, hg⟩ := zCi S5.nd (S5.kon _ hml)
 refine append_K S5.F S5.N (zCh U) (fun h6 F6 N6 => ?_) (by have : sizeLine = 2 ^ 24 := rfl; lia)
 have S6 := S5.setKo hl hml (fun v e => by cases e) (fun p hp => by
  cases ko with
  | nil => cases hhd
  | cons q r => cases hhd; cases hp; exact hne) U hg F6 N6
 refine Kx h6 _ led5 _ _ S6 (Inc.trans i2 (Inc.trans i3 i5)) (fun p => ?_) ?_
 ·rw [mem_setK]
  constructor
  ·rintro (⟨e, _⟩ | h)
   ·exact .inr e
   ·exact .inl h
  ·rintro (h | e)
   ·exact .inr h
   ·exact .inl ⟨e, zC hml⟩
 ·cases ko with
  | nil => cases hhd
  | cons q r =>
   cases hhd
   show some (if Nat.beq hd.1 l = true then (l, _) else hd) = _
   rw [if_neg (fun q => hne (Nat.eq_of_beq_eq_true q))]
end
noncomputable def setF (x : Str) (d : D) : List Str -> List D -> List D
 | n :: ns, e :: es => if eqS x n then d :: es else e :: setF x d ns es
 | _, es => es
theorem putL_old {x} {hsh : Int} {key v} : ∀ {es ns}, zAe es ns -> ns.any (eqS x) = true ->
  zAe (putL x hsh key v es) ns ∧ (getL x es).isSome = true ∧ (putL x hsh key v es).length = es.length ∧ ∀ led ds d, Rs led ds (es.map (·.val)) -> R led d v -> Rs led (setF x d ns ds) ((putL x hsh key v es).map (·.val))
 | [], ns, k, h => by
  obtain rfl : ns = [] := k
  cases h
 | e :: es, ns, k, h => by
  obtain ⟨n, t, rfl, ⟨u, hk⟩, k'⟩ := k
  by_cases hq : eqS x n = true
  ·obtain rfl := zW.mp hq
   have e1 : putL x hsh key v (e :: es) = ⟨e.hash, e.key, v⟩ :: es := if_pos (str_hit hk)
   rw [e1, getL_hit hk]
   refine ⟨⟨x, t, rfl, ⟨u, hk⟩, k'⟩, rfl, rfl, fun led ds d r rv => ?_⟩
   cases ds with
   | nil => exact nomatch r
   | cons d0 ds =>
    obtain ⟨v0, r0, e0, a, b⟩ := r
    obtain ⟨rfl, rfl⟩ := List.cons.inj e0
    rw [show setF x d (x :: t) (d0 :: ds) = d :: ds from if_pos (zI x)]
    exact Rs.cons rv b
  ·have h2 : t.any (eqS x) = true := ((Bool.or_eq_true _ _).mp (show (eqS x n || t.any (eqS x)) = true from h)).resolve_left hq
   obtain ⟨a, b, c, dd⟩ := putL_old (hsh := hsh) (key := key) (v := v) k' h2
   have e1 : putL x hsh key v (e :: es) = e :: putL x hsh key v es := if_neg fun q => tfE (q.symm.trans (str_miss hk hq))
   rw [e1, getL_miss hk hq]
   refine ⟨⟨n, t, rfl, ⟨u, hk⟩, a⟩, b, congrArg (· + 1) c, fun led ds d r rv => ?_⟩
   cases ds with
   | nil => exact nomatch r
   | cons d0 ds =>
    obtain ⟨v0, r0, e0, a0, b0⟩ := r
    obtain ⟨rfl, rfl⟩ := List.cons.inj e0
    rw [show setF x d (n :: t) (d0 :: ds) = d0 :: setF x d t ds from if_neg hq]
    exact Rs.cons a0 (dd led ds d b0 rv)
section
variable {prog : Program} {w : World} {A : Around}
theorem k_attr {E env h₀ L s m ρ ko led news} {n : Nat} {x xpos att apos e pos} {C : Nat} {a dx es} {k : Nat} {ns ds d Q hd}
  (hl : env.locals = L) (Si : Sit w A env h₀ L n) (S : St env h₀ L s.heap m ρ ko led news) (he : EvF prog w A env h₀ L m ρ led e fun l v => R l d v) (ex : fnd x ρ = some (.val (.at a))) (hdb : zM x = true) (hn : zBx e = true)
  (ha : isAt C att = true) (hin : ns.any (eqS att) = true) (hlen : ns.length ≤ 100) (hma : (a, instObj C dx) ∈ led) (hmd : (dx, dictOf es k) ∈ ko) (ke : zAe es ns) (r : Rs led ds (es.map (·.val))) (hhd : ko.head? = some hd) (hne : hd.1 ≠ dx)
  (Kx : ∀ h' tk led' news' ko' es' k', St env h₀ L h' m ρ ko' led' news' -> Inc led led' -> (∀ p, p ∈ ko' ↔ p ∈ ko ∧ p.1 ≠ dx) -> ko'.head? = some hd -> (dx, dictOf es' k') ∈ led' -> zAe es' ns -> Rs led' (setF att d ns ds) (es'.map (·.val)) -> Q .next (sw s h' tk)) :
  wpAny (model prog w) A (exec (.Assign [.Attribute (.Name x xpos) att apos] e pos) env) Q E s := by
 refine plainObj_wpAny_Assign_Attribute (he s ko led news _ E S (fun _ h => h) fun v h' tk led' news' S' i rv => ?_) (noSwap hn _ _ _)
 obtain ⟨mm, X⟩ := S'.loc
 obtain ⟨u, V, O, kk⟩ := X.at' x _ ex
 have O : R led' (.at a) u := O
 obtain rfl : _ = Value.ref _ := O
 refine load_vw Si.kd S' X.lc V hdb ?_
 obtain ⟨g, U, hg⟩ := zCi S'.nd (S'.kon _ hmd)
 obtain ⟨c1, c2⟩ := chk_of (P := w.params) ha
 have c1 := chk_c c1
 have c2 := chk_a c2
 have hkl := ke.len
 have P := fun hsh key => putL_old (hsh := hsh) (key := key) (v := v) ke hin
 refine set_dict (s := (sw s h' tk)) (n' := putN att es k) S'.F Si.X S'.N (W.InstAt.of_news S'.N (S'.sub _ (i _ hma)) (S'.kon _ hmd)) rfl c1.1.1.2 c1.1.2 c2.2 c1.1.1.1 (P 0 .none).2.1 rfl (zCh U) (by rw [(P _ _).2.2.1]; lia) fun h2' F2 N2 => ?_
 have S2 := S'.setKo hl hmd (fun v e => by cases e) (fun p hp => by rw [hhd] at hp; cases hp; exact hne) U hg F2 N2
 have hm2 := (mem_setK (a := dx) (o' := dictOf (putL att (PyData.keyHash w.params att) (.str att (tk + 1)) v es) (putN att es k)) (p := (dx, dictOf (putL att (PyData.keyHash w.params att) (.str att (tk + 1)) v es) (putN att es k))) (l := ko)).mpr (.inl ⟨rfl, zC hmd⟩)
 have hhd2 : ((setK dx (dictOf (putL att (PyData.keyHash w.params att) (.str att (tk + 1)) v es) (putN att es k)) ko).filter fun p => decide (p.1 ≠ dx)).head? = some hd ∧ (setK dx (dictOf (putL att (PyData.keyHash w.params att) (.str att (tk + 1)) v es) (putN att es k)) ko).head? = some hd := by
  cases ko with
  | nil => cases hhd
  | cons q t =>
   cases hhd
   have hb : Nat.beq hd.1 dx = false := by
    cases hq : Nat.beq hd.1 dx with
    | true => exact absurd (Nat.eq_of_beq_eq_true hq) hne
    | false => rfl
   unfold setK
   rw [hb]
   simp [hne]
 refine Kx h2' _ _ _ _ _ _ (S2.koLed hl hm2 (fun v e => by cases e) (by intro h; cases h) (fun p => by rw [List.mem_filter]; simp) (hhd2.1.trans hhd2.2.symm)) (fun p hp => .tail _ (i p hp)) (fun p => ?_) hhd2.1 (.head _) (P _ _).1 ((P _ _).2.2.2 _ _ _ (Rs.mono (fun p hp => .tail _ (i p hp)) r) (R.mono (fun p hp => .tail _ hp) rv))
 rw [List.mem_filter, mem_setK]
 constructor
 ·rintro ⟨⟨e, _⟩ | h, h2⟩
  ·subst e; simp at h2
  ·exact h
 ·intro h
  exact ⟨.inr h, by simpa using h.2⟩
end
noncomputable def formNs : List Str := [S' "name", S' "kinds", S' "opcode", S' "escape", S' "digit", S' "size", S' "must", S' "is_wide", S' "number", S' "places"]
noncomputable def formFs (r : Row) (num : Int) : List D := [strD "deed", .tup [strD r.k1, strD r.k2], .int r.op, .int r.esc, .int r.dig, .int 32, .int 0, .bool false, .int num, .tup [strD (slotS r.k1), strD (slotS r.k2)]]
noncomputable def deed : Str := Str.ofString "deed"
noncomputable def codesK (r : Row) : List (List Int) := if r.k1 == "o32" then (List.range 8).map fun (i : Nat) => [0, r.esc, r.op + (i : Int)] else [[0, r.esc, r.op]]
theorem codesD_eq (r : Row) : codesD r = (codesK r).map fun ks => .tup (ks.map D.int) := by
 unfold codesD codesK
 cases r.k1 == "o32" <;> simp
theorem codesK_len (r : Row) : (codesK r).length ≤ 8 := by
 unfold codesK
 cases r.k1 == "o32" <;> simp
theorem notIt_list {its : Array Value} {c : Nat} : ¬ IsIt (listOf its c) := fun h => h.1 _ _ rfl
theorem notIt_dict {o} (h : o.ExactDict) : ¬ IsIt o := fun q => q.2.1 h
theorem zBn {es} {c : Nat} : (dictOf es c).ExactDict := ⟨rfl, rfl, rfl⟩
noncomputable abbrev refs (as : List Addr) : List Value := as.map Value.ref
structure GT (prog : Program) (w : World) (kk : Led) (ats : List Addr) (bn bc : Addr) (nl B : Nat) (ko led : Led) (o : Obj) (xs : List (Str × Addr)) (o' : Obj) (ys : List (List Int × Addr)) : Prop where
 hb : (bn, o) ∈ ko
 tb : TS prog w led o xs
 hc : (bc, o') ∈ ko
 tc : TT prog w led o' ys
 lc : ys.length ≤ B
 vc : ∀ y ∈ ys, ∃ its c, (y.2, listOf its c) ∈ ko ∧ its.size ≤ B
 nm : (nl = 0 ∧ xs = []) ∨ ∃ ln c, xs = [(deed, ln)] ∧ (ln, listOf (refs (ats.take nl)).toArray c) ∈ ko ∧ ln ∉ ys.map (·.2)
 kp : ∀ p ∈ kk, p ∈ ko ∧ p.1 ≠ bn ∧ p.1 ≠ bc ∧ p.1 ∉ ys.map (·.2) ∧ p.1 ∉ xs.map (·.2)
structure GD (rs : List Row) (ats dds : List Addr) (i : Nat) (ko led : Led) : Prop where
 done : ∀ j r a, j < i -> rs[j]? = some r -> ats[j]? = some a -> R led (zV r j) (.ref a)
 todo : ∀ j r a dx, i ≤ j -> rs[j]? = some r -> ats[j]? = some a -> dds[j]? = some dx -> (a, instObj 257 dx) ∈ led ∧ ∃ es c, (dx, dictOf es c) ∈ ko ∧ zAe es formNs ∧ Rs led (formFs r (-1)) (es.map (·.val))
section
variable {prog : Program} {w : World} {kk : Led} {rs : List Row} {ats dds : List Addr} {bn bc : Addr} {i nl B : Nat} {ko ko' led led' : Led} {o o' : Obj} {xs : List (Str × Addr)} {ys : List (List Int × Addr)}
theorem GT.up (g : GT prog w kk ats bn bc nl B ko led o xs o' ys) (i : Inc led led') : GT prog w kk ats bn bc nl B ko led' o xs o' ys :=
 ⟨g.hb, g.tb, g.hc, zBi.up i g.tc, g.lc, g.vc, g.nm, g.kp⟩
theorem GT.re (g : GT prog w kk ats bn bc nl B ko led o xs o' ys) (h : ∀ p ∈ ko, ¬ IsIt p.2 -> p ∈ ko') (hk : Inc kk ko') : GT prog w kk ats bn bc nl B ko' led o xs o' ys :=
 ⟨h _ g.hb (notIt_dict (tops_str.exact' g.tb).1), g.tb, h _ g.hc (notIt_dict (zBi.exact' g.tc).1), g.tc, g.lc, fun y hy => let ⟨its, c, a, b⟩ := g.vc y hy; ⟨its, c, h _ a notIt_list, b⟩,
  g.nm.imp id fun ⟨ln, c, a, b, d⟩ => ⟨ln, c, a, h _ b notIt_list, d⟩, fun p hp => ⟨hk p hp, (g.kp p hp).2⟩⟩
theorem GT.wide {B' : Nat} (g : GT prog w kk ats bn bc nl B ko led o xs o' ys) (h : B ≤ B') : GT prog w kk ats bn bc nl B' ko led o xs o' ys :=
 ⟨g.hb, g.tb, g.hc, g.tc, Nat.le_trans g.lc h, fun y hy => let ⟨its, c, a, b⟩ := g.vc y hy; ⟨its, c, a, Nat.le_trans b h⟩, g.nm, g.kp⟩
theorem GD.up (g : GD rs ats dds i ko led) (h : Inc led led') : GD rs ats dds i ko led' :=
 ⟨fun j r a x y z => R.mono h (g.done j r a x y z), fun j r a dx x y z q => let ⟨a1, es, c, b1, b2, b3⟩ := g.todo j r a dx x y z q; ⟨h _ a1, es, c, b1, b2, Rs.mono h b3⟩⟩
theorem GD.re (g : GD rs ats dds i ko led) (h : ∀ p ∈ ko, ¬ IsIt p.2 -> p ∈ ko') : GD rs ats dds i ko' led :=
 ⟨g.done, fun j r a dx x y z q => let ⟨a1, es, c, b1, b2, b3⟩ := g.todo j r a dx x y z q; ⟨a1, es, c, h _ b1 (notIt_dict zBn), b2, b3⟩⟩
noncomputable abbrev Uq (ko : Led) : Prop := ∀ a o o', (a, o) ∈ ko -> (a, o') ∈ ko -> o = o'
theorem St.uq {env h₀ L h m ρ ko led news} (S : St env h₀ L h m ρ ko led news) : Uq ko := fun _ _ _ h h' => zAm S.nd (S.kon _ h) (S.kon _ h')
theorem zBf {its : Array Value} {c : Nat} {o} (h : o.ExactDict) : listOf its c ≠ o := fun e => by
 have := h.1
 rw [← e] at this
 injection this with h2
 exact absurd h2 (by decide)
theorem GT.attr {dx es} {c : Nat} (g : GT prog w kk ats bn bc nl B ko led o xs o' ys) (U : Uq ko) (hx : (dx, dictOf es c) ∈ ko) (hbn : bn ≠ dx) (hbc : bc ≠ dx) (hkd : ∀ p ∈ kk, p.1 ≠ dx) (h : ∀ p, p ∈ ko' ↔ p ∈ ko ∧ p.1 ≠ dx) (i : Inc led led') : GT prog w kk ats bn bc nl B ko' led' o xs o' ys := by
 have hl : ∀ l its k, (l, listOf its k) ∈ ko -> l ≠ dx := fun l its k hm e => zBf zBn (U _ _ _ (e ▸ hm) hx)
 exact GT.up ⟨(h _).mpr ⟨g.hb, hbn⟩, g.tb, (h _).mpr ⟨g.hc, hbc⟩, g.tc, g.lc, fun y hy => let ⟨its, c, a, b⟩ := g.vc y hy; ⟨its, c, (h _).mpr ⟨a, hl _ _ _ a⟩, b⟩,
  g.nm.imp id fun ⟨ln, c, a, b, d⟩ => ⟨ln, c, a, (h _).mpr ⟨b, hl _ _ _ b⟩, d⟩, fun p hp => ⟨(h p).mpr ⟨(g.kp p hp).1, hkd p hp⟩, (g.kp p hp).2⟩⟩ i
theorem GD.attr {r a dx es'} {c' : Nat} (g : GD rs ats dds i ko led) (nd : dds.Nodup) (hr : rs[i]? = some r) (ha : ats[i]? = some a) (hd : dds[i]? = some dx) (h : ∀ p, p ∈ ko' ↔ p ∈ ko ∧ p.1 ≠ dx) (u : Inc led led')
  (hm : (dx, dictOf es' c') ∈ led') (ke : zAe es' formNs) (rr : Rs led' (formFs r i) (es'.map (·.val))) : GD rs ats dds (i + 1) ko' led' := by
 have g' := g.up u
 refine ⟨fun j r1 a1 x y z => ?_, fun j r1 a1 dx1 x y z q => ?_⟩
 ·rcases Nat.lt_or_ge j i with hj | hj
  ·exact g'.done j r1 a1 hj y z
  ·obtain rfl : j = i := by lia
   rw [hr] at y; rw [ha] at z
   obtain rfl := Option.some.inj y; obtain rfl := Option.some.inj z
   show R led' (.inst 257 formNs (formFs r j)) _
   exact R_inst (g'.todo j r a dx hj hr ha hd).1 hm ke rr
 ·obtain ⟨a1', es, c, b1, b2, b3⟩ := g'.todo j r1 a1 dx1 (by lia) y z q
  refine ⟨a1', es, c, (h _).mpr ⟨b1, fun (e : dx1 = dx) => ?_⟩, b2, b3⟩
  subst e
  have := (List.getElem?_inj (List.getElem?_eq_some_iff.mp q).1 nd).mp (q.trans hd.symm)
  lia
theorem GT.setN {l o2} (g : GT prog w kk ats bn bc nl B ko led o xs o' ys) (U : Uq ko) (hnl : nl = 0) (hbb : bn ≠ bc) (h : ∀ p, p ∈ ko' ↔ (p ∈ ko ∧ p.1 ≠ bn) ∨ p = (bn, o2) ∨ p = (l, listOf #[] 0)) (hlk : l ∉ keyL ko) (hT : TS prog w led' o2 (xs ++ [(deed, l)])) (hx : xs = []) (i : Inc led led') :
  GT prog w kk ats bn bc nl B ko' led' o2 [(deed, l)] o' ys := by
 have hl : ∀ l its k, (l, listOf its k) ∈ ko -> l ≠ bn := fun l its k hm e => zBf (tops_str.exact' g.tb).1 (U _ _ _ (e ▸ hm) g.hb)
 subst hx
 refine ⟨(h _).mpr (.inr (.inl rfl)), hT, (h _).mpr (.inl ⟨g.hc, fun e => hbb e.symm⟩), zBi.up i g.tc, g.lc, fun y hy => let ⟨its, c, a, b⟩ := g.vc y hy; ⟨its, c, (h _).mpr (.inl ⟨a, hl _ _ _ a⟩), b⟩, .inr ⟨l, 0, rfl, ?_, fun hm => ?_⟩, fun p hp => ?_⟩
 ·subst hnl
  exact (h _).mpr (.inr (.inr rfl))
 ·obtain ⟨y, hy, e⟩ := List.mem_map.mp hm
  obtain ⟨its, c, a, _⟩ := g.vc y hy
  exact hlk (e ▸ zC a)
 ·obtain ⟨k1, k2, k3, k4, k5⟩ := g.kp p hp
  refine ⟨(h _).mpr (.inl ⟨k1, k2⟩), k2, k3, k4, fun hm => hlk ?_⟩
  rw [← show p.1 = l by simpa using hm]
  exact zC (o := p.2) k1
theorem GD.setN {l d o2} (g : GD rs ats dds i ko led) (hd : d ∉ dds) (h : ∀ p, p ∈ ko' ↔ (p ∈ ko ∧ p.1 ≠ d) ∨ p = (d, o2) ∨ p = (l, listOf #[] 0)) (u : Inc led led') : GD rs ats dds i ko' led' :=
 have g' := g.up u
 ⟨g'.done, fun j r a dx x y z q => let ⟨a1, es, c, b1, b2, b3⟩ := g'.todo j r a dx x y z q; ⟨a1, es, c, (h _).mpr (.inl ⟨b1, fun (e : dx = d) => hd (e ▸ List.mem_of_getElem? q)⟩), b2, b3⟩⟩
theorem GD.app {l} {its : Array Value} {c0 : Nat} {o2} (g : GD rs ats dds i ko led) (U : Uq ko) (hl : (l, listOf its c0) ∈ ko) (h : ∀ p, p ∈ ko' ↔ (p ∈ ko ∧ p.1 ≠ l) ∨ p = (l, o2)) (u : Inc led led') : GD rs ats dds i ko' led' :=
 have g' := g.up u
 ⟨g'.done, fun j r a dx x y z q => let ⟨a1, es, c, b1, b2, b3⟩ := g'.todo j r a dx x y z q; ⟨a1, es, c, (h _).mpr (.inl ⟨b1, fun (e : dx = l) => zBf zBn (U _ _ _ hl (e ▸ b1))⟩), b2, b3⟩⟩
theorem GT.appN {ln a} {c : Nat} (g : GT prog w kk ats bn bc nl B ko led o [(deed, ln)] o' ys) (U : Uq ko) (hm : (ln, listOf (refs (ats.take nl)).toArray c) ∈ ko) (hln : ln ∉ ys.map (·.2)) (ha : ats[nl]? = some a)
  (h : ∀ p, p ∈ ko' ↔ (p ∈ ko ∧ p.1 ≠ ln) ∨ p = (ln, listOf ((refs (ats.take nl)).toArray.push (.ref a)) (c + 1))) (i : Inc led led') : GT prog w kk ats bn bc (nl + 1) B ko' led' o [(deed, ln)] o' ys := by
 have hd : ∀ d o, (d, o) ∈ ko -> o.ExactDict -> d ≠ ln := fun d o hm2 hx e => zBf hx (U _ _ _ hm (e ▸ hm2))
 refine ⟨(h _).mpr (.inl ⟨g.hb, hd _ _ g.hb (tops_str.exact' g.tb).1⟩), g.tb, (h _).mpr (.inl ⟨g.hc, hd _ _ g.hc (zBi.exact' g.tc).1⟩), zBi.up i g.tc, g.lc, fun y hy => ?_, .inr ⟨ln, c + 1, rfl, ?_, hln⟩, fun p hp => ?_⟩
 ·obtain ⟨its, c, a, b⟩ := g.vc y hy
  exact ⟨its, c, (h _).mpr (.inl ⟨a, fun (e : y.2 = ln) => hln (e ▸ List.mem_map.mpr ⟨y, hy, rfl⟩)⟩), b⟩
 ·refine (h _).mpr (.inr ?_)
  rw [List.push_toArray, refs, refs, List.take_add_one, ha, List.map_append]
  rfl
 ·obtain ⟨k1, k2, k3, k4, k5⟩ := g.kp p hp
  exact ⟨(h _).mpr (.inl ⟨k1, by simpa using k5⟩), k2, k3, k4, k5⟩
theorem GT.setC {l o2} {ks : List Int} (g : GT prog w kk ats bn bc nl B ko led o xs o' ys) (U : Uq ko) (hbb : bn ≠ bc) (h : ∀ p, p ∈ ko' ↔ (p ∈ ko ∧ p.1 ≠ bc) ∨ p = (bc, o2) ∨ p = (l, listOf #[] 0)) (hlk : l ∉ keyL ko) (hT : TT prog w led' o2 (ys ++ [(ks, l)])) (i : Inc led led') :
  GT prog w kk ats bn bc nl (B + 1) ko' led' o xs o2 (ys ++ [(ks, l)]) := by
 have hl : ∀ l its k, (l, listOf its k) ∈ ko -> l ≠ bc := fun l its k hm e => zBf (zBi.exact' g.tc).1 (U _ _ _ (e ▸ hm) g.hc)
 refine ⟨(h _).mpr (.inl ⟨g.hb, hbb⟩), g.tb, (h _).mpr (.inr (.inl rfl)), hT, by simp; exact g.lc, fun y hy => ?_, g.nm.imp id fun ⟨ln, c, a, b, d⟩ => ⟨ln, c, a, (h _).mpr (.inl ⟨b, hl _ _ _ b⟩), fun hm => ?_⟩, fun p hp => ?_⟩
 ·rcases List.mem_append.mp hy with hy | hy
  ·obtain ⟨its, c, a, b⟩ := g.vc y hy
   exact ⟨its, c, (h _).mpr (.inl ⟨a, hl _ _ _ a⟩), Nat.le_succ_of_le b⟩
  ·rw [List.mem_singleton.mp hy]
   exact ⟨#[], 0, (h _).mpr (.inr (.inr rfl)), Nat.zero_le _⟩
 ·obtain ⟨k1, k2, k3, k4, k5⟩ := g.kp p hp
  refine ⟨(h _).mpr (.inl ⟨k1, k3⟩), k2, k3, fun hm => ?_, k5⟩
  rw [List.map_append] at hm
  rcases List.mem_append.mp hm with hm | hm
  ·exact k4 hm
  ·apply hlk
   rw [← show p.1 = l by simpa using hm]
   exact zC (o := p.2) k1
 ·rw [List.map_append] at hm
  rcases List.mem_append.mp hm with hm | hm
  ·exact d hm
  ·have : ln = l := by simpa using hm
   exact hlk (this ▸ zC b)
theorem GT.appC {l} {its : Array Value} {c : Nat} {v} (g : GT prog w kk ats bn bc nl B ko led o xs o' ys) (U : Uq ko) (hl : l ∈ ys.map (·.2)) (hm : (l, listOf its c) ∈ ko) (hz : its.size ≤ B)
  (h : ∀ p, p ∈ ko' ↔ (p ∈ ko ∧ p.1 ≠ l) ∨ p = (l, listOf (its.push v) (c + 1))) (i : Inc led led') : GT prog w kk ats bn bc nl (B + 1) ko' led' o xs o' ys := by
 have hd : ∀ d o, (d, o) ∈ ko -> o.ExactDict -> d ≠ l := fun d o hm2 hx e => zBf hx (U _ _ _ hm (e ▸ hm2))
 refine ⟨(h _).mpr (.inl ⟨g.hb, hd _ _ g.hb (tops_str.exact' g.tb).1⟩), g.tb, (h _).mpr (.inl ⟨g.hc, hd _ _ g.hc (zBi.exact' g.tc).1⟩), zBi.up i g.tc, Nat.le_succ_of_le g.lc, fun y hy => ?_, g.nm.imp id fun ⟨ln, c, a, b, d⟩ => ⟨ln, c, a, (h _).mpr (.inl ⟨b, fun (e : ln = l) => d (e ▸ hl)⟩), d⟩, fun p hp => ?_⟩
 rotate_left
 ·obtain ⟨k1, k2, k3, k4, k5⟩ := g.kp p hp
  exact ⟨(h _).mpr (.inl ⟨k1, fun e => k4 (e ▸ hl)⟩), k2, k3, k4, k5⟩
 obtain ⟨its2, c2, a, b⟩ := g.vc y hy
 by_cases e : y.2 = l
 ·exact ⟨_, _, e ▸ (h _).mpr (.inr rfl), by rw [Array.size_push]; lia⟩
 ·exact ⟨its2, c2, (h _).mpr (.inl ⟨a, e⟩), Nat.le_succ_of_le b⟩
end
noncomputable abbrev selfLV (ats : List Addr) (bn bc : Addr) : LV := .obj 1045 [S' "forms", S' "by_name", S' "by_code"] [.lst (ats.map D.at), .at bn, .at bc]
noncomputable def isOutB : List Stmt := stB1 (stAt r988 3)
noncomputable def isInB : List Stmt := stB1 (isOutB.getD 4 noSt)
section
variable {prog : Program} {w : World} {A : Around}
theorem EvF.at' {sc ρ n e d env h₀ L m led} (h : EvE sc ρ n e (.at d)) (hs : env.scope.names = sc) (Si : Sit w A env h₀ L n) : EvF prog w A env h₀ L m ρ led e fun _ v => v = .ref d :=
 EvF.of h hs Si fun l v r => by
  have r : R l (.at d) v := r
  exact r
theorem is_inner {E sc env h₀ L s m ρ ko led news} {n : Nat} {Q hd dx}
  {kk rs ats dds bn bc a} {i nl B : Nat} {o o' xs} {ys : List (List Int × Addr)} {ks : List Int}
  (hs : env.scope.names = sc) (hl : env.locals = L) (Si : Sit w A env h₀ L (n + 1)) (S : St env h₀ L s.heap m ρ ko led news) (hself : fnd (S' "self") ρ = some (selfLV ats bn bc)) (hform : fnd (S' "form") ρ = some (.val (.at a))) (hcode : fnd (S' "code") ρ = some (.val (.tup (ks.map D.int))))
  (g1 : GD rs ats dds i ko led) (g2 : GT prog w kk ats bn bc nl B ko led o xs o' ys) (hB : B ≤ 900) (hbb : bn ≠ bc) (hbc : bc ∉ dds) (hsys : (bc == sysModules) = false) (hhd : ko.head? = some hd) (hdc : hd.2 = instObj 1045 dx)
  (K : ∀ h' tk led' news' ko' o' ys', St env h₀ L h' m ρ ko' led' news' -> Inc led led' -> GD rs ats dds i ko' led' -> GT prog w kk ats bn bc nl (B + 2) ko' led' o xs o' ys' -> (∀ p ∈ ko, IsIt p.2 -> p ∈ ko') -> ko'.head? = some hd -> Q .next (sw s h' tk)) :
  wpAny (model prog w) A (execs isInB env) Q E s := by
 have hdm : hd ∈ ko := zAw hhd
 have hkey : ∀ led p, EvF prog w A env h₀ L m ρ led (.Name (S' "code") p) fun l v => kdT prog w l ks v := fun led p => EvF.of (zJ hcode (by rfl')) hs Si fun l v r => kdT_of r
 have hobj : ∀ led p p2, EvF prog w A env h₀ L m ρ led (.Attribute (.Name (S' "self") p) (S' "by_code") p2) fun _ v => v = .ref bc := fun led p p2 => EvF.at' (zCa hself (by rfl') (by rfl') (by rfl')) hs Si
 have hfrm : ∀ led p, EvF prog w A env h₀ L m ρ led (.Name (S' "form") p) fun _ v => v = .ref a := fun led p => EvF.at' (zJ hform (by rfl')) hs Si
 have nex : ∀ {ko2 p}, Uq ko2 -> hd ∈ ko2 -> p ∈ ko2 -> (p.2 = instObj 1045 dx -> False) -> hd.1 ≠ p.1 := fun {ko2 p} U h1 h2 h3 e => h3 (by
  have h1 : (p.1, hd.2) ∈ ko2 := e ▸ h1
  rw [← hdc]
  exact U _ _ _ h2 h1)
 have dne : ∀ {o}, o.ExactDict -> o = instObj 1045 dx -> False := fun h e => by have := h.1; rw [e] at this; cases this
 have fin : ∀ (h' : Heap) (tk : Nat) (led' news' ko' : Led) (o2 : Obj) (ys2 : List (List Int × Addr)) (l : Addr), St env h₀ L h' m ρ ko' led' news' -> Inc led led' -> GD rs ats dds i ko' led' -> GT prog w kk ats bn bc nl (B + 1) ko' led' o xs o2 ys2 -> (∀ p ∈ ko, IsIt p.2 -> p ∈ ko') -> ko'.head? = some hd -> look ys2 ks = some l -> ∀ {sp apos cpos pos q1 q2 q3 q4} {Q2}, (∀ s, Q .next s -> Q2 .next s) -> (Pos.endLine apos == Pos.line cpos) = true ->
   wpAny (model prog w) A (exec (.Expr (.Call (.Attribute (.Subscript (.Attribute (.Name (S' "self") q1) (S' "by_code") q2) (.Name (S' "code") q3) sp) (Str.ofString "append") apos) [.Name (S' "form") q4] [] cpos) pos) env) Q2 E (sw s h' tk) := by
  intro h' tk led' news' ko' o2 ys2 l S2 i2 d2 t2 it2 hh2 hlk sp apos cpos pos q1 q2 q3 q4 Q2 hQ hline
  have hlm := look_mem hlk
  obtain ⟨its, c, hml, hz⟩ := t2.vc _ hlm
  refine k_app zBi hl Si (s := (sw s h' tk)) S2 (hkey _ _) (hobj _ _ _) (hfrm _ _) rfl (zI _) rfl hline t2.hc t2.tc hlk hml (by lia) hh2 (nex S2.uq (zAw hh2) hml (fun e => by cases e)) fun h3 tk3 led3 news3 ko3 S3 i3 ch3 hh3 => ?_
  refine hQ _ (K h3 tk3 led3 news3 ko3 o2 ys2 S3 (Inc.trans i2 i3) (d2.app S2.uq hml ch3 i3) (t2.appC S2.uq (List.mem_map.mpr ⟨_, hlm, rfl⟩) hml hz ch3 i3) (fun p hp hi => ?_) hh3)
  refine (ch3 p).mpr (.inl ⟨it2 p hp hi, fun e => ?_⟩)
  have hp2 : (l, p.2) ∈ ko' := e ▸ it2 p hp hi
  exact notIt_list (S2.uq _ _ _ hp2 hml ▸ hi)
 refine wpAny_execs_cons (k_ifnot zBi Si S (hkey _ _) (hobj _ _ _) rfl g2.hc g2.tc hsys (fun h1 tk1 led1 news1 S1 i1 hnone => ?_) (fun h1 tk1 led1 news1 S1 i1 hsome => ?_))
 ·refine wpAny_execs_cons (k_set zBi hl Si (s := (sw s h1 tk1)) S1 (hkey _ _) (hobj _ _ _) g2.hc (zBi.up i1 g2.tc) (by have := g2.lc; lia) hnone hhd (nex S.uq hdm g2.hc (dne (zBi.exact' g2.tc).1)) fun h2 tk2 led2 news2 ko2 l od2 S2 i2 ch2 hlk hh2 T2 => ?_)
  refine wpAny_execs_nil ?_
  refine wpAny_execs_cons (fin h2 tk2 led2 news2 ko2 od2 _ l S2 (Inc.trans i1 i2) ((g1.up i1).setN hbc ch2 i2) ((g2.up i1).setC S1.uq hbb ch2 hlk T2 i2) (fun p hp hi => ?_) hh2 (look_snoc hnone) (fun _ h => wpAny_execs_nil h) rfl)
  refine (ch2 p).mpr (.inl ⟨hp, fun e => ?_⟩)
  have hp2 : (bc, p.2) ∈ ko := e ▸ hp
  exact notIt_dict (zBi.exact' g2.tc).1 (S.uq _ _ _ hp2 g2.hc ▸ hi)
 ·obtain ⟨l, hlk⟩ := Option.isSome_iff_exists.mp hsome
  exact wpAny_execs_cons (fin h1 tk1 led1 news1 ko o' ys l S1 i1 (g1.up i1) ((g2.up i1).wide (Nat.le_succ _)) (fun p hp _ => hp) hhd hlk (fun _ h => wpAny_execs_nil h) rfl)
end
theorem turnG_of {env h₀ L s1 hd I oI ledi G h' tk m' ρ' ko' led' news'} (S : St env h₀ L h' m' ρ' ko' led' news') (hI : (I, oI) ∈ ko') (hII : IsIt oI) (hhd : ko'.head? = some hd) (hne : hd.1 ≠ I) (i : Inc ledi led')
  (g : ∀ koj, (∀ p ∈ ko', ¬ IsIt p.2 -> p ∈ koj) -> (∀ p ∈ ko', p.1 ≠ I -> p ∈ koj) -> G ρ' koj led') : TurnG env h₀ L s1 hd I oI ledi G .next (sw s1 h' tk) := by
 have hf : ∀ p, p ∈ ko'.filter (fun p => decide (p.1 ≠ I)) ↔ p ∈ ko' ∧ p.1 ≠ I := fun p => by rw [List.mem_filter]; simp
 refine ⟨rfl, h', tk, m', ρ', ko', ko'.filter (fun p => decide (p.1 ≠ I)), led', news', rfl, S, fun p => ?_, hhd, ?_, fun hm => ?_, g _ (fun p hp hn => (hf p).mpr ⟨hp, fun e => ?_⟩) (fun p hp hn => (hf p).mpr ⟨hp, hn⟩), i⟩
 ·rw [hf]
  constructor
  ·intro hp
   by_cases e : p.1 = I
   ·refine .inr (Prod.ext e ?_)
    have hp2 : (I, p.2) ∈ ko' := e ▸ hp
    exact S.uq _ _ _ hp2 hI
   ·exact .inl ⟨hp, e⟩
  ·rintro (h | e)
   ·exact h.1
   ·rw [e]; exact hI
 ·cases ko' with
  | nil => cases hhd
  | cons q t => cases hhd; simp [hne]
 ·obtain ⟨p, hp, e⟩ := List.mem_map.mp hm
  exact ((hf p).mp hp).2 e
 ·have hp2 : (I, p.2) ∈ ko' := e ▸ hp
  exact hn (S.uq _ _ _ hp2 hI ▸ hII)
theorem St.locAt {env h₀ L h m ρ ko led news} {x a} (S : St env h₀ L h m ρ ko led news) (hl : env.locals = L) (hk : env.kindOf x = some .local) (e : fnd x ρ = some (.val (.at a))) : m x = some (.ref a) := by
 obtain ⟨mm, X⟩ := S.loc
 obtain rfl := S.fn hl X
 obtain ⟨u, V, O, _⟩ := X.at' x _ e
 have O : R led (.at a) u := O
 obtain rfl : _ = Value.ref _ := O
 exact V.local hk
noncomputable abbrev sc988 : zT := (zD r988.st).names
section
variable {prog : Program} {w : World} {A : Around}
theorem is_tail {env h₀ L s m ρ ko led news} {n : Nat} {Q hd dx}
  {kk rs ats dds bn bc a ln} {i B : Nat} {o o'} {ys : List (List Int × Addr)} {r Io oIo}
  (hcodes : zF (n + 1) 974 [zV r i] (.lst (codesD r))) (hs : env.scope.names = sc988) (hl : env.locals = L) (Si : Sit w A env h₀ L (n + 1)) (S : St env h₀ L s.heap m ρ ko led news) (hself : fnd (S' "self") ρ = some (selfLV ats bn bc)) (hform : fnd (S' "form") ρ = some (.val (.at a)))
  (hm : m (S' "form") = some (.ref a)) (hr : rs[i]? = some r) (ha : ats[i]? = some a)
  (g1 : GD rs ats dds (i + 1) ko led) (g2 : GT prog w kk ats bn bc i B ko led o [(deed, ln)] o' ys) (hB : B ≤ 800) (hbb : bn ≠ bc) (hbc : bc ∉ dds) (hsys : (bc == sysModules) = false) (hhd : ko.head? = some hd) (hdc : hd.2 = instObj 1045 dx) (hIo : (Io, oIo) ∈ ko) (hIIo : IsIt oIo) (hi : i ≤ 1000)
  (K : ∀ h' tk m' led' news' ko' ρ' o' ys', St env h₀ L h' m' ρ' ko' led' news' -> Inc led led' -> fnd (S' "self") ρ' = some (selfLV ats bn bc) -> GD rs ats dds (i + 1) ko' led' -> GT prog w kk ats bn bc (i + 1) (B + 16) ko' led' o [(deed, ln)] o' ys' -> (Io, oIo) ∈ ko' -> ko'.head? = some hd -> Q .next (sw s h' tk)) :
  wpAny (model prog w) A (execs (isOutB.drop 3) env) Q (fun _ _ => False) s := by
 have hkl : env.kindOf (S' "form") = some .local := zL hs (by rfl')
 have rform := g1.done i r a (Nat.lt_succ_self i) hr ha
 have nex : ∀ {ko2 p}, Uq ko2 -> hd ∈ ko2 -> p ∈ ko2 -> (p.2 = instObj 1045 dx -> False) -> hd.1 ≠ p.1 := fun {ko2 p} U h1 h2 h3 e => h3 (by
  have h1 : (p.1, hd.2) ∈ ko2 := e ▸ h1
  rw [← hdc]
  exact U _ _ _ h2 h1)
 have r0 : ∀ l, R l (.at a) (.ref a) := fun l => R_at
 obtain ⟨c, hln, hly⟩ : ∃ c, (ln, listOf (refs (ats.take i)).toArray c) ∈ ko ∧ ln ∉ ys.map (·.2) := by
  rcases g2.nm with ⟨_, e⟩ | ⟨ln', c, e, h1, h2⟩
  ·cases e
  ·cases e; exact ⟨c, h1, h2⟩
 refine wpAny_execs_cons (k_app tops_str hl Si S (kk := deed) (EvF.view hl hkl hm hform r0 rform (d := .str deed) (ev_attr rfl (zJ (by rw [zN, zI]; rfl) (by rfl')) (by rfl') (by rfl')) hs Si fun l v r => kdS_of r) (EvF.at' (zCa hself (by rfl') (by rfl') (by rfl')) hs Si) (EvF.at' (zJ hform (by rfl')) hs Si) rfl (zI _) rfl rfl
  g2.hb g2.tb (by simp [look]) hln (by simp [refs]; lia) hhd (nex S.uq (zAw hhd) hln (fun e => by cases e)) fun h1 tk1 led1 news1 ko1 S1 i1 ch1 hh1 => ?_)
 have g1' := g1.app S.uq hln ch1 i1
 have g2' := g2.appN S.uq hln hly ha ch1 i1
 have hIo1 : (Io, oIo) ∈ ko1 := (ch1 _).mpr (.inl ⟨hIo, fun e => notIt_list (S.uq _ _ _ hln ((show Io = ln from e) ▸ hIo) ▸ hIIo)⟩)
 have rform1 := R.mono i1 rform
 refine wpAny_execs_cons (forG_list (s := (sw s h1 tk1)) (ds := codesD r) (hd := hd) (G := fun t ρ ko led => fnd (S' "self") ρ = some (selfLV ats bn bc) ∧ fnd (S' "form") ρ = some (.val (.at a)) ∧ (Io, oIo) ∈ ko ∧ ∃ o' ys, GD rs ats dds (i + 1) ko led ∧ GT prog w kk ats bn bc (i + 1) (B + 2 * t) ko led o [(deed, ln)] o' ys)
  hs hl Si (by rfl') rfl S1 hh1 (EvF.view hl hkl hm hform r0 rform1 (ev_call (by rfl') (by rfl') (by rfl') (fun P => zAv P mem_fn974 rfl) rfl (zH rfl (zJ (by rw [zN, zI]; rfl) (by rfl')) zO) hcodes) hs Si fun l v r => r)
  (fun led' i' => ⟨hself, hform, hIo1, o', ys, g1'.up i', g2'.up i'⟩) (fun t d hd' I oI m₁ ρi koi ledi newsi s1 hs1 gg il hIk hhi hII S2 => ?_) fun h3 tk3 m3 ρ3 ko3 led3 news3 S3 gg i3 hh3 => ?_)
 ·obtain ⟨q1, q2, q3, o2, ys2, q4, q5⟩ := gg
  rw [codesD_eq, List.getElem?_map] at hd'
  cases hks : (codesK r)[t]? with
  | none => rw [hks] at hd'; cases hd'
  | some ks =>
   rw [hks] at hd'
   injection hd' with hd'
   subst hd'
   have ht : t < 8 := Nat.lt_of_lt_of_le (List.getElem?_eq_some_iff.mp hks).1 (codesK_len r)
   have up : ∀ p ∈ koi, ¬ IsIt p.2 -> p ∈ koi ++ [(I, oI)] := fun p hp _ => List.mem_append_left _ hp
   have hhd2 : (koi ++ [(I, oI)]).head? = some hd := by
    cases koi with
    | nil => cases hhi
    | cons q t => cases hhi; rfl
   refine is_inner hs hl Si S2 (by rw [zN]; exact q1) (by rw [zN]; exact q2) (by rw [zN, zI]; rfl) (q4.re up) (q5.re up fun p hp => List.mem_append_left _ (q5.kp p hp).1) (by lia) hbb hbc hsys hhd2 hdc fun h4 tk4 led4 news4 ko4 o4 ys4 S4 i4 d4 t4 it4 hh4 => ?_
   have hI4 : (I, oI) ∈ ko4 := it4 _ (List.mem_append_right _ (.head _)) hII
   have hne : hd.1 ≠ I := fun e => hIk (e ▸ zC (o := hd.2) (zAw hhi))
   refine turnG_of S4 hI4 hII hh4 hne i4 fun koj j1 j2 => ⟨by rw [zN]; exact q1, by rw [zN]; exact q2, j2 _ (it4 _ (List.mem_append_left _ q3) hIIo) (fun (e : Io = I) => hIk (e ▸ zC q3)), o4, ys4, d4.re j1, ?_⟩
   exact (t4.re j1 fun p hp => j2 p (t4.kp p hp).1 fun e => hIk (e ▸ zC (o := p.2) (q5.kp p hp).1)).wide (by lia)
 ·obtain ⟨q1, q2, q3, o2, ys2, q4, q5⟩ := gg
  refine wpAny_execs_nil (K h3 tk3 m3 led3 news3 ko3 ρ3 o2 ys2 S3 (Inc.trans i1 i3) q1 q4 (q5.wide ?_) q3 hh3)
  have : (codesD r).length ≤ 8 := by rw [codesD_eq, List.length_map]; exact codesK_len r
  lia
end
section
variable {prog : Program} {w : World} {A : Around}
theorem is_outer {env h₀ L s m ρ ko led news} {n : Nat} {Q hd dx}
  {kk rs ats dds bn bc a d0} {i B : Nat} {o o' xs} {ys : List (List Int × Addr)} {r Io oIo}
  (hcodes : zF (n + 1) 974 [zV r i] (.lst (codesD r))) (hs : env.scope.names = sc988) (hl : env.locals = L) (Si : Sit w A env h₀ L (n + 1)) (S : St env h₀ L s.heap m ρ ko led news) (hself : fnd (S' "self") ρ = some (selfLV ats bn bc)) (hnum : fnd (S' "number") ρ = some (.val (.int i)))
  (hr : rs[i]? = some r) (ha : ats[i]? = some a) (hd0 : dds[i]? = some d0) (nd : dds.Nodup) (hkd : ∀ p ∈ kk, p.1 ∉ dds)
  (g1 : GD rs ats dds i ko led) (g2 : GT prog w kk ats bn bc i B ko led o xs o' ys) (hB : B ≤ 800) (hbb : bn ≠ bc) (hbn : bn ∉ dds) (hbc : bc ∉ dds) (hsysn : (bn == sysModules) = false) (hsys : (bc == sysModules) = false) (hhd : ko.head? = some hd) (hdc : hd.2 = instObj 1045 dx) (hIo : (Io, oIo) ∈ ko) (hIIo : IsIt oIo) (hi : i ≤ 1000)
  (K : ∀ h' tk m' led' news' ko' ρ' o xs o' ys', St env h₀ L h' m' ρ' ko' led' news' -> Inc led led' -> fnd (S' "self") ρ' = some (selfLV ats bn bc) -> GD rs ats dds (i + 1) ko' led' -> GT prog w kk ats bn bc (i + 1) (B + 16) ko' led' o xs o' ys' -> (Io, oIo) ∈ ko' -> ko'.head? = some hd -> Q .next (sw s h' tk)) :
  wpAny (model prog w) A (execs isOutB env) Q (fun _ _ => False) s := by
 have hkl : env.kindOf (S' "form") = some .local := zL hs (by rfl')
 have hitem : itemAt (.lst (ats.map D.at)) (i : Nat) = some (.at a) := by
  rw [item_nat (by lia), List.getElem?_map, ha]
  rfl
 refine wpAny_execs_cons (zBc (d := .at a) (by rfl') rfl (ev_idx rfl (zCa hself (by rfl') (by rfl') (by rfl')) (zJ hnum (by rfl')) hitem) prog w A env h₀ L s m ko led news _ hs hl Si S fun f h1 tk1 m1 led1 news1 S1 i1 hf => ?_)
 have : f = .next := hf
 subst this
 have hform : fnd (S' "form") (put (S' "form") (.val (.at a)) ρ) = some (.val (.at a)) := by rw [zN, zI]; rfl
 have hself1 : fnd (S' "self") (put (S' "form") (.val (.at a)) ρ) = some (selfLV ats bn bc) := by rw [zN]; exact hself
 have hnum1 : fnd (S' "number") (put (S' "form") (.val (.at a)) ρ) = some (.val (.int i)) := by rw [zN]; exact hnum
 generalize put (S' "form") (.val (.at a)) ρ = ρ1 at S1 hform hself1 hnum1
 have hm1 := S1.locAt hl hkl hform
 have g11 := g1.up i1
 have g21 := g2.up i1
 obtain ⟨hma, es, c, hmd, ke, rr⟩ := g11.todo i r a d0 (Nat.le_refl _) hr ha hd0
 have nex : ∀ {ko2 p}, Uq ko2 -> hd ∈ ko2 -> p ∈ ko2 -> (p.2 = instObj 1045 dx -> False) -> hd.1 ≠ p.1 := fun {ko2 p} U h1 h2 h3 e => h3 (by
  have h1 : (p.1, hd.2) ∈ ko2 := e ▸ h1
  rw [← hdc]
  exact U _ _ _ h2 h1)
 have dne : ∀ {o}, o.ExactDict -> o = instObj 1045 dx -> False := fun h e => by have := h.1; rw [e] at this; cases this
 have hdd : d0 ∈ dds := List.mem_of_getElem? hd0
 refine wpAny_execs_cons (k_attr (C := 257) (ns := formNs) (d := .int i) hl Si (s := (sw s h1 tk1)) S1 (EvF.of (zJ hnum1 (by rfl')) hs Si fun l v r => r) hform (by rfl') rfl (by rfl') (by rfl') (by decide) hma hmd ke rr hhd (nex S1.uq (zAw hhd) hmd (dne zBn)) fun h2 tk2 led2 news2 ko2 es' k' S2 i2 ch2 hh2 hd2 ke2 rr2 => ?_)
 have g12 := g11.attr nd hr ha hd0 ch2 i2 hd2 ke2 rr2
 have g22 := g21.attr S1.uq hmd (fun e => hbn (e ▸ hdd)) (fun e => hbc (e ▸ hdd)) (fun p hp e => hkd p hp (e ▸ hdd)) ch2 i2
 have hIo2 : (Io, oIo) ∈ ko2 := (ch2 _).mpr ⟨hIo, fun e => notIt_dict zBn (S1.uq _ _ _ hmd ((show Io = d0 from e) ▸ hIo) ▸ hIIo)⟩
 have rform := g12.done i r a (Nat.lt_succ_self i) hr ha
 have r0 : ∀ l, R l (.at a) (.ref a) := fun l => R_at
 have hkey : ∀ led, R led (zV r i) (.ref a) -> ∀ p p2, EvF prog w A env h₀ L m1 ρ1 led (.Attribute (.Name (S' "form") p) (S' "name") p2) fun l v => kdS l deed v := fun led rf p p2 =>
  EvF.view hl hkl hm1 hform r0 rf (d := .str deed) (ev_attr rfl (zJ (by rw [zN, zI]; rfl) (by rfl')) (by rfl') (by rfl')) hs Si fun l v r => kdS_of r
 have hobj : ∀ led p p2, EvF prog w A env h₀ L m1 ρ1 led (.Attribute (.Name (S' "self") p) (S' "by_name") p2) fun _ v => v = .ref bn := fun led p p2 => EvF.at' (zCa hself1 (by rfl') (by rfl') (by rfl')) hs Si
 refine wpAny_execs_cons (k_ifnot tops_str Si (s := (sw s h2 tk2)) S2 (hkey _ rform _ _) (hobj _ _ _) rfl g22.hb g22.tb hsysn (fun h3 tk3 led3 news3 S3 i3 hnone => ?_) (fun h3 tk3 led3 news3 S3 i3 hsome => ?_))
 ·have hx : i = 0 ∧ xs = [] := by
   rcases g22.nm with h | ⟨ln, c, e, _⟩
   ·exact h
   ·subst e; simp [look] at hnone
  refine wpAny_execs_cons (k_set tops_str hl Si (s := (sw s h3 tk3)) S3 (hkey _ (R.mono i3 rform) _ _) (hobj _ _ _) g22.hb g22.tb (by rw [hx.2]; simp) hnone hh2 (nex S3.uq (zAw hh2) g22.hb (dne (tops_str.exact' g22.tb).1)) fun h4 tk4 led4 news4 ko4 l od4 S4 i4 ch4 hlk hh4 T4 => ?_)
  refine wpAny_execs_nil ?_
  refine is_tail hcodes hs hl Si (s := (sw s h4 tk4)) S4 hself1 hform hm1 hr ha ((g12.up i3).setN hbn ch4 i4) ((g22.up i3).setN S3.uq hx.1 hbb ch4 hlk T4 hx.2 i4) hB hbb hbc hsys hh4 hdc ((ch4 _).mpr (.inl ⟨hIo2, fun e => notIt_dict (tops_str.exact' g22.tb).1 (S3.uq _ _ _ g22.hb ((show Io = bn from e) ▸ hIo2) ▸ hIIo)⟩)) hIIo hi
   fun h5 tk5 m5 led5 news5 ko5 ρ5 o5 ys5 S5 i5 q1 q2 q3 q4 q5 => K h5 tk5 m5 led5 news5 ko5 ρ5 _ _ o5 ys5 S5 (fun p hp => i5 p (i4 p (i3 p (i2 p (i1 p hp))))) q1 q2 q3 q4 q5
 ·rcases g22.nm with ⟨_, e⟩ | ⟨ln, c, e, hln, hly⟩
  ·subst e; simp [look] at hsome
  ·subst e
   refine is_tail hcodes hs hl Si (s := (sw s h3 tk3)) S3 hself1 hform hm1 hr ha (g12.up i3) (g22.up i3) hB hbb hbc hsys hh2 hdc hIo2 hIIo hi
    fun h5 tk5 m5 led5 news5 ko5 ρ5 o5 ys5 S5 i5 q1 q2 q3 q4 q5 => K h5 tk5 m5 led5 news5 ko5 ρ5 _ _ o5 ys5 S5 (fun p hp => i5 p (i3 p (i2 p (i1 p hp)))) q1 q2 q3 q4 q5
end
noncomputable abbrev emptyD : Obj := { cls := .type "dict", data := .dict #[] }
theorem TS_nil {prog w led} : TS prog w led emptyD [] := ⟨#[], 0, ⟨rfl, rfl, rfl⟩, rfl, (by intro e he; simp at he), .nil, List.nodup_nil⟩
theorem TT_nil {prog w led} : TT prog w led emptyD [] := ⟨#[], 0, [], ⟨rfl, rfl, rfl⟩, rfl, rfl, List.nodup_nil, (by intro y hy; cases hy), rfl⟩
section
variable {prog : Program} {w : World} {A : Around}
theorem is_init {env h₀ L s m ko led news} {n : Nat} {Q hd dx kk rs ats dds}
  (hcodes : ∀ (i : Nat) r, rs[i]? = some r -> zF (n + 1) 974 [zV r i] (.lst (codesD r))) (hs : env.scope.names = sc988) (hl : env.locals = L) (Si : Sit w A env h₀ L (n + 1))
  (S : St env h₀ L s.heap m [(S' "self", .obj 1045 [] []), (S' "forms", .val (.lst (ats.map D.at)))] ko led news) (hlen : ats.length ≤ 40) (hrl : rs.length = ats.length) (hdl : dds.length = ats.length) (nd : dds.Nodup) (hkk : ∀ p ∈ kk, p ∈ ko ∧ p.1 ∉ dds)
  (g : GD rs ats dds 0 ko led) (hhd : ko.head? = some hd) (hdc : hd.2 = instObj 1045 dx)
  (K : ∀ h' tk m' ρ' ko' led' news' o xs o' ys bn bc, St env h₀ L h' m' ρ' ko' led' news' -> Inc led led' -> fnd (S' "self") ρ' = some (selfLV ats bn bc) -> GD rs ats dds ats.length ko' led' -> GT prog w kk ats bn bc ats.length 900 ko' led' o xs o' ys -> ko'.head? = some hd -> (bn == sysModules) = false -> Q .next (sw s h' tk)) :
  wpAny (model prog w) A (execs (zG r988.st) env) Q (fun _ _ => False) s := by
 obtain ⟨mean, mg, mb, T⟩ := Si.T
 have hbig := modules_low T.nolimit
 refine wpAny_execs_cons (ex1_setattr (d := .lst (ats.map D.at)) (C := 1045) (ns := []) (ds := []) (by rfl') (by rfl') (by rfl') (by rfl') (by rfl') rfl
  (ev_own (evo_list_of (d := .lst (ats.map D.at)) (by rfl') (by rfl') (by rfl') rfl (zJ (by rfl') (by rfl')) rfl (Nat.ble_eq_true_of_le (by simp; lia)))) prog w A env h₀ L s m ko led news _ hs hl Si S fun f h1 tk1 m1 led1 news1 S1 i1 hf => ?_)
 have : f = .next := hf
 subst this
 have S1 : St env h₀ L h1 m1 [(S' "self", .obj 1045 [S' "forms"] [.lst (ats.map D.at)]), (S' "forms", .val (.lst (ats.map D.at)))] ko led1 news1 := S1
 refine wpAny_execs_cons (setattr_cps (s := (sw s h1 tk1)) (C := 1045) (ns := [S' "forms"]) (ds := [.lst (ats.map D.at)]) (sc := sc988) (ρ := [(S' "self", .obj 1045 [S' "forms"] [.lst (ats.map D.at)]), (S' "forms", .val (.lst (ats.map D.at)))]) (h₀ := h₀) (m := m1) (n := n + 1) hs hl Si (by rfl') (by rfl') (by rfl') (by rfl') (by rfl') rfl ?_)
 refine wpAny_Dict_empty ?_
 have lt1 : ∀ p ∈ news1, p.1 < h1.objs.size := fun p hp => Heap.lt_size (S1.N p hp).1
 have S2 := S1.addKo (a := h1.objs.size) (o := emptyD) (S1.F.push _) (S1.N.push S1.F _) fun p hp => Nat.ne_of_lt (lt1 p hp)
 refine ⟨_, _, .at h1.objs.size, _, _, _, rfl, S2, R_at, fun h3 tk3 news3 S3 => ?_⟩
 have S3 : St env h₀ L h3 m1 [(S' "self", .obj 1045 [S' "forms", S' "by_name"] [.lst (ats.map D.at), .at h1.objs.size]), (S' "forms", .val (.lst (ats.map D.at)))] (ko ++ [(h1.objs.size, emptyD)]) led1 news3 := S3
 have y1 : (h1.objs.size == sysModules) = false := S1.F.notModules hbig
 have kn1 : h1.objs.size ∉ keyL ko := fun hq => by
  obtain ⟨p, hp, e⟩ := List.mem_map.mp hq
  exact Nat.lt_irrefl _ (e ▸ lt1 p (S1.kon p hp))
 generalize (h1.objs.size : Addr) = bn at S3 y1 kn1
 refine wpAny_execs_cons (setattr_cps (s := (sw s h3 tk3)) (C := 1045) (ns := [S' "forms", S' "by_name"]) (ds := [.lst (ats.map D.at), .at bn]) (sc := sc988) (ρ := [(S' "self", .obj 1045 [S' "forms", S' "by_name"] [.lst (ats.map D.at), .at bn]), (S' "forms", .val (.lst (ats.map D.at)))]) (h₀ := h₀) (m := m1) (n := n + 1) hs hl Si (by rfl') (by rfl') (by rfl') (by rfl') (by rfl') rfl ?_)
 refine wpAny_Dict_empty ?_
 have lt3 : ∀ p ∈ news3, p.1 < h3.objs.size := fun p hp => Heap.lt_size (S3.N p hp).1
 have S4 := S3.addKo (a := h3.objs.size) (o := emptyD) (S3.F.push _) (S3.N.push S3.F _) fun p hp => Nat.ne_of_lt (lt3 p hp)
 refine ⟨_, _, .at h3.objs.size, _, _, _, rfl, S4, R_at, fun h5 tk5 news5 S5 => ?_⟩
 have S5 : St env h₀ L h5 m1 [(S' "self", selfLV ats bn h3.objs.size), (S' "forms", .val (.lst (ats.map D.at)))] ((ko ++ [(bn, emptyD)]) ++ [(h3.objs.size, emptyD)]) led1 news5 := S5
 have y2 : (h3.objs.size == sysModules) = false := S3.F.notModules hbig
 have kn2 : h3.objs.size ∉ keyL (ko ++ [(bn, emptyD)]) := fun hq => by
  obtain ⟨p, hp, e⟩ := List.mem_map.mp hq
  exact Nat.lt_irrefl _ (e ▸ lt3 p (S3.kon p hp))
 generalize (h3.objs.size : Addr) = bc at S5 y2 kn2
 have hbb : bn ≠ bc := fun e => kn2 (e ▸ zC (List.mem_append_right _ (.head _)))
 have hdds : ∀ d ∈ dds, d ∈ keyL ko := fun d hd => by
  obtain ⟨j, hj⟩ := List.mem_iff_getElem?.mp hd
  have hjl := (List.getElem?_eq_some_iff.mp hj).1
  obtain ⟨_, es, c, h2, _⟩ := g.todo j (rs[j]'(by lia)) (ats[j]'(by lia)) d (Nat.zero_le _) (List.getElem?_eq_getElem _) (List.getElem?_eq_getElem _) hj
  exact zC h2
 have hbn : bn ∉ dds := fun h => kn1 (hdds _ h)
 have hbc : bc ∉ dds := fun h => by
  have := hdds _ h
  obtain ⟨p, hp, e⟩ := List.mem_map.mp this
  exact kn2 (List.mem_map.mpr ⟨p, List.mem_append_left _ hp, e⟩)
 have hhd5 : ((ko ++ [(bn, emptyD)]) ++ [(bc, emptyD)]).head? = some hd := by
  cases ko with
  | nil => cases hhd
  | cons q t => cases hhd; rfl
 have hself0 : fnd (S' "self") [(S' "self", selfLV ats bn bc), (S' "forms", LV.val (.lst (ats.map D.at)))] = some (selfLV ats bn bc) := by rfl'
 have hlen2 : lenD (.lst (ats.map D.at)) = some ats.length := by simp [lenD]
 refine wpAny_execs_cons (forG_range (s := (sw s h5 tk5)) (k := ats.length) (hd := hd) (G := fun i ρ ko led => fnd (S' "self") ρ = some (selfLV ats bn bc) ∧ ∃ o xs o' ys, GD rs ats dds i ko led ∧ GT prog w kk ats bn bc i (16 * i) ko led o xs o' ys)
  hs hl Si (by rfl') (by rfl') (by rfl') (by rfl') rfl S5 hhd5 (zAx (by rfl') (by rfl') (by rfl') rfl rfl (zH rfl (zCa hself0 (by rfl') (by rfl') (by rfl')) zO) (blt_len hlen2 (Nat.ble_eq_true_of_le (by lia)))) (Nat.ble_eq_true_of_le (by lia))
  (fun led' i' => ⟨hself0, emptyD, [], emptyD, [], ((g.up i1).up i').re fun p hp _ => List.mem_append_left _ (List.mem_append_left _ hp), ⟨List.mem_append_left _ (List.mem_append_right _ (.head _)), TS_nil, List.mem_append_right _ (.head _), TT_nil, Nat.le_refl _, (by intro y hy; cases hy), .inl ⟨rfl, rfl⟩, fun p hp => ⟨List.mem_append_left _ (List.mem_append_left _ (hkk p hp).1), (fun e => kn1 (e ▸ zC (o := p.2) (hkk p hp).1)), (fun e => kn2 (e ▸ zC (o := p.2) (List.mem_append_left _ (hkk p hp).1))), (by simp), (by simp)⟩⟩⟩)
  (fun i hi I oI m₁ ρi koi ledi newsi s1 hs1 gg il hIk hhi hII S6 => ?_) fun h7 tk7 m7 ρ7 ko7 led7 news7 S7 gg i7 hh7 => ?_)
 ·obtain ⟨q1, o, xs, o', ys, q4, q5⟩ := gg
  have up : ∀ p ∈ koi, ¬ IsIt p.2 -> p ∈ koi ++ [(I, oI)] := fun p hp _ => List.mem_append_left _ hp
  have hhd2 : (koi ++ [(I, oI)]).head? = some hd := by
   cases koi with
   | nil => cases hhi
   | cons q t => cases hhi; rfl
  have hr : rs[i]? = some (rs[i]'(by lia)) := List.getElem?_eq_getElem _
  refine is_outer (hcodes i _ hr) hs hl Si S6 (by rw [zN]; exact q1) (by rw [zN, zI]; rfl) hr (List.getElem?_eq_getElem hi) (List.getElem?_eq_getElem (by lia)) nd (fun p hp => (hkk p hp).2) (q4.re up) (q5.re up fun p hp => List.mem_append_left _ (q5.kp p hp).1) (by lia) hbb hbn hbc y1 y2 hhd2 hdc (List.mem_append_right _ (.head _)) hII (by lia)
   fun h8 tk8 m8 led8 news8 ko8 ρ8 o8 xs8 o8' ys8 S8 i8 p1 p2 p3 p4 p5 => ?_
  have hne : hd.1 ≠ I := fun e => hIk (e ▸ zC (o := hd.2) (zAw hhi))
  exact turnG_of S8 p4 hII p5 hne i8 fun koj j1 j2 => ⟨p1, o8, xs8, o8', ys8, p2.re j1, (p3.re j1 fun p hp => j2 p (p3.kp p hp).1 fun e => hIk (e ▸ zC (o := p.2) (q5.kp p hp).1)).wide (by lia)⟩
 ·obtain ⟨q1, o, xs, o', ys, q4, q5⟩ := gg
  exact wpAny_execs_nil (K h7 tk7 m7 ρ7 ko7 led7 news7 o xs o' ys bn bc S7 (Inc.trans i1 i7) q1 q4 (q5.wide (by lia)) hh7 y1)
end
noncomputable def fsD (i : Nat) : List Row -> List D
 | [] => []
 | r :: rs => zV r i :: fsD (i + 1) rs
theorem rs_fsD {led} : ∀ {rs ats} {i : Nat}, rs.length = ats.length -> (∀ j r a, rs[j]? = some r -> ats[j]? = some a -> R led (zV r ((i + j : Nat) : Int)) (.ref a)) -> Rs led (fsD i rs) (refs ats)
 | [], [], _, _, _ => Rs.nil
 | [], _ :: _, _, h, _ => by cases h
 | _ :: _, [], _, h, _ => by cases h
 | r :: rs, a :: ats, i, hl, h => by
  refine Rs.cons ?_ (rs_fsD (by simpa using hl) fun j r' a' h1 h2 => ?_)
  ·exact h 0 r a rfl rfl
  ·have := h (j + 1) r' a' (by simpa using h1) (by simpa using h2)
   rw [show i + 1 + j = i + (j + 1) by lia]
   exact this
theorem rs_at {led} : ∀ {ats vs}, Rs led (ats.map D.at) vs -> vs = refs ats
 | [], vs, h => h
 | a :: ats, vs, h => by
  obtain ⟨v, r, rfl, h1, h2⟩ := h
  have h1 : R led (.at a) v := h1
  rw [show _ = Value.ref _ from h1, rs_at h2]
  rfl
theorem TS_one {prog w led o x l} (h : TS prog w led o [(x, l)]) : ∃ t ep, o = dictOf [⟨hashStr w x, .str x t, .ref l⟩] ep := by
 obtain ⟨es, ep, ⟨h1, h2, h3⟩, h4, h5, h6, _⟩ := h
 have h6 : Pairs (strKind prog w) es.toList [(x, .ref l)] := h6
 cases hes : es.toList with
 | nil => rw [hes] at h6; cases h6
 | cons e r =>
  rw [hes] at h6
  cases h6 with
  | cons a b c =>
   cases c
   obtain ⟨k, k1, k2⟩ := h5 e (Array.mem_toList_iff.mp (by rw [hes]; exact .head _))
   obtain ⟨t, ht⟩ := Value.isStrOf_shape (show Value.isStrOf x e.key = true from a)
   obtain rfl := (strKind prog w).inj e.key k x k1 a
   have b : e.val = .ref l := b
   have k2 : e.hash = hashStr w k := k2
   refine ⟨t, ep, ?_⟩
   obtain ⟨oc, od, odt, os⟩ := o
   obtain ⟨eh, ek, ev⟩ := e
   simp only at h1 h2 h3 h4 ht b k2
   subst h1 h2 h3 h4 ht b k2
   have : es = #[⟨hashStr w k, .str k t, .ref l⟩] := by
    have h9 := congrArg List.toArray hes
    rw [Array.toArray_toList] at h9
    exact h9
   rw [this]
noncomputable def isetD (rs : List Row) : D := .inst 1045 [S' "forms", S' "by_name", S' "by_code"] [.lst (fsD 0 rs), .dict [deed] [.lst (fsD 0 rs)], .any]
theorem rs_ats {led} : ∀ ats : List Addr, Rs led (ats.map D.at) (refs ats)
 | [] => Rs.nil
 | a :: r => Rs.cons R_at (rs_ats r)
theorem init_call {prog : Program} {w : World} {A : Around} {env : Env} {h₀ : Heap} {L : Addr} {s : Shared} {m : Str -> Option Value} {ρ : Loc} {ko led news : Led} {n : Nat} {rs : List Row} {ats dds : List Addr} {fl x dx : Addr} {c : Nat} {Rr : Result -> Shared -> Prop}
  (hcodes : ∀ (i : Nat) r, rs[i]? = some r -> zF (n + 1) 974 [zV r i] (.lst (codesD r))) (Si : Sit w A env h₀ L (n + 2)) (S : St env h₀ L s.heap m ρ ko led news) (hfl : (fl, listOf (refs ats).toArray c) ∈ led) (hxm : (x, instObj 1045 dx) ∈ news) (hdm : (dx, dictOf [] 0) ∈ news) (hxl : x ∉ keyL led) (hdl : dx ∉ keyL led)
  (hlen : ats.length ≤ 40) (hpos : 0 < ats.length) (hrl : rs.length = ats.length) (hdn : dds.length = ats.length) (nd : dds.Nodup) (hxd : x ∉ dds) (hdd : dx ∉ dds)
  (g : ∀ (j : Nat) (r : Row) (a d : Addr), rs[j]? = some r -> ats[j]? = some a -> dds[j]? = some d -> (a, instObj 257 d) ∈ led ∧ ∃ es c, (d, dictOf es c) ∈ news ∧ d ∉ keyL led ∧ zAe es formNs ∧ Rs led (formFs r (-1)) (es.map (·.val)))
  (K : ∀ h' tk led' news' es' k', Fr h₀ L h' m -> News h₀ L h' news' -> (keyL news').Nodup -> TabOK led' news' -> (∀ p ∈ koOf led news, p.1 ≠ dx -> p.1 ∉ dds -> p ∈ news' ∧ p.1 ∉ keyL led') -> (Inc led' news') -> Inc led led' -> (x, instObj 1045 dx) ∈ news' -> (dx, dictOf es' k') ∈ news' -> x ∉ keyL led' -> dx ∉ keyL led' ->
   zAe es' [S' "forms", S' "by_name", S' "by_code"] -> Rs led' [.lst (fsD 0 rs), .dict [deed] [.lst (fsD 0 rs)], .any] (es'.map (·.val)) -> Rr (.ok (.ret .none)) (sw s h' tk)) :
  codeAny (model prog w) A (.call (.ref 988) ⟨[.ref x, .ref fl], []⟩) Rr s := by
 obtain ⟨A₀, base, outer, fenv, B, hA, hfr, hke⟩ := Si.fr
 obtain ⟨mean, mg, mb, T⟩ := Si.T
 have hsc : plainSc (zD r988.st) = true := by rfl'
 obtain ⟨h1, h2, h3, h4⟩ := plainSc_of hsc
 obtain ⟨e1, e2⟩ := fn_ok w.params r988 mem_fn988
 rw [fnO_eq] at e1
 obtain ⟨es, re, hbind⟩ := b988 w s [.ref x, .ref fl] (Si.X.keeps S.F.keep) rfl
 have hes : es = [] := List.eq_nil_of_length_eq_zero (by rw [← Rs.length re]; rfl)
 subst hes
 refine code_def B S.F Si.X S.N T hA hfr hke e1 e2 Si.d0 hbind ?_ (fun g' L' h₁ FG F' N' B' X' T' => ?_) h1 h2 h3 h4
 ·intro y hy
  have : y = (S' "self", .ref x) ∨ y = (S' "forms", .ref fl) := by simpa using hy
  rcases this with rfl | rfl
  ·show (zD r988.st).names.lookup (S' "self") = _
   rw [zAc]
   rfl'
  ·show (zD r988.st).names.lookup (S' "forms") = _
   rw [zAc]
   rfl'
 ·refine wpAny_noRaise ?_
  have hats : Rs led [.lst (ats.map D.at)] [.ref fl] := Rs.one (by
   exact R_lst hfl (rs_ats ats))
  have S' : St (fE r988 L') g' L' h₁ (fun y => ([S' "self", S' "forms"].zip ([.ref x, .ref fl] ++ [])).reverse.lookup y) [(S' "self", .obj 1045 [] []), (S' "forms", .val (.lst (ats.map D.at)))] (koI x 1045 dx led news) led news :=
   S.enterI (r := r988) (names := [Mine.S' "forms"]) (us := [.ref fl]) F' N' (by rfl') rfl (by rfl') hats hxm hdm hxl hdl rfl Rs.nil
  have Si' : Sit w (A.deeper (fE r988 L')) (fE r988 L') g' L' (n + 1) := Si.deep hA B' X' ⟨mean, mg, mb, T'⟩ rfl h3 rfl rfl
  have g0 : GD rs ats dds 0 (koI x 1045 dx led news) led := ⟨fun j _ _ h => absurd h (Nat.not_lt_zero j), fun j r a d _ x1 x2 x3 => by
   obtain ⟨a1, es, c2, a2, a3, a4, a5⟩ := g j r a d x1 x2 x3
   refine ⟨a1, es, c2, .tail _ (List.mem_filter.mpr ⟨own_koOf S.nd S.tab a2 a3 (by intro h; cases h), ?_⟩), a4, a5⟩
   have : d ≠ dx := fun e => hdd (e ▸ List.mem_of_getElem? x3)
   simpa using this⟩
  refine is_init (kk := (koOf led news).filter fun p => decide (p.1 ≠ dx ∧ p.1 ∉ dds)) hcodes rfl rfl Si' (s := (sw s h₁ _)) S' hlen hrl hdn nd (fun p hp => ?_) g0 (hd := (x, instObj 1045 dx)) rfl rfl ?_
  ·obtain ⟨p1, p2⟩ := List.mem_filter.mp hp
   have p2 : p.1 ≠ dx ∧ p.1 ∉ dds := of_decide_eq_true p2
   exact ⟨.tail _ (List.mem_filter.mpr ⟨p1, by simpa using p2.1⟩), p2.2⟩
  intro h' tk m' ρ' ko' led' news' o xs o' ys bn bc Sx ix hself gd gt hhd hsys
  obtain ⟨ln, cl, rfl, hln, hly⟩ : ∃ ln c, xs = [(deed, ln)] ∧ (ln, listOf (refs ats).toArray c) ∈ ko' ∧ ln ∉ ys.map (·.2) := by
   rcases gt.nm with ⟨e, _⟩ | ⟨ln, c, e, h, h2⟩
   ·lia
   ·rw [List.take_length] at h
    exact ⟨ln, c, e, h, h2⟩
  obtain ⟨t, ep, rfl⟩ := TS_one gt.tb
  have mf : ∀ (k : Led) (a : Addr) p, p ∈ k.filter (fun p => decide (p.1 ≠ a)) ↔ p ∈ k ∧ p.1 ≠ a := fun k a p => by rw [List.mem_filter]; simp
  have hf : ∀ (k : Led) (a : Addr) (q : Addr × Obj), k.head? = some q -> q.1 ≠ a -> (k.filter (fun p => decide (p.1 ≠ a))).head? = k.head? := fun k a q h hn => by
   cases k with
   | nil => cases h
   | cons z t => cases h; simp [hn]
  have hx' := zAw hhd
  have hxln : x ≠ ln := fun e => by
   have := congrArg Obj.cls (Sx.uq _ _ _ (e ▸ hx') hln)
   cases this
  have hxbn : x ≠ bn := fun e => by
   have := congrArg Obj.cls (Sx.uq _ _ _ (e ▸ hx') gt.hb)
   cases this
  have hbl : bn ≠ ln := fun e => by
   have := congrArg Obj.cls (Sx.uq _ _ _ (e ▸ gt.hb) hln)
   injection this with h2
   exact absurd h2 (by decide)
  have Sy := Sx.koLed (ko' := ko'.filter fun p => decide (p.1 ≠ ln)) rfl hln (fun v e => by cases e) (by intro h; cases h) (mf _ _) (hf _ _ _ hhd hxln)
  have hbn' := (mf ko' ln _).mpr ⟨gt.hb, hbl⟩
  have hhdy := (hf ko' ln _ hhd hxln).trans hhd
  have Sz := Sy.koLed (ko' := (ko'.filter fun p => decide (p.1 ≠ ln)).filter fun p => decide (p.1 ≠ bn)) rfl hbn' (fun v e => by cases e) (by intro h; cases h) (mf _ _) (hf _ _ _ hhdy hxbn)
  have hhdz := (hf _ bn _ hhdy hxbn).trans hhdy
  refine leaveK_ Sz.F Sz.N fun F2 N2 => ?_
  obtain ⟨mm, X⟩ := Sz.loc
  obtain ⟨v, V, ⟨a, dx', es', k', vs', rfl, hhd', hdm', ke', rfl, rfs, n1, n2⟩, _⟩ := X.at' _ _ hself
  rw [hhdz] at hhd'
  cases hhd'
  have kmem : ∀ p ∈ koOf led news, p.1 ≠ dx -> p.1 ∉ dds -> p ∈ (ko'.filter fun p => decide (p.1 ≠ ln)).filter fun p => decide (p.1 ≠ bn) := fun p hp q1 q2 => by
   obtain ⟨k1, k2, k3, k4, k5⟩ := gt.kp p (List.mem_filter.mpr ⟨hp, by simpa using ⟨q1, q2⟩⟩)
   exact (mf _ _ _).mpr ⟨(mf _ _ _).mpr ⟨k1, by simpa using k5⟩, k2⟩
  have hxz := zAw hhdz
  have rfs2 : Rs _ (fsD 0 rs) (refs ats) := rs_fsD (i := 0) hrl fun j r a y1 y2 => by
   rw [Nat.zero_add]
   exact gd.done j r a (List.getElem?_eq_some_iff.mp y2).1 y1 y2
  have up : ∀ p ∈ led', p ∈ (bn, dictOf [⟨hashStr w deed, .str deed t, .ref ln⟩] ep) :: (ln, listOf (refs ats).toArray cl) :: led' := fun p hp => .tail _ (.tail _ hp)
  have rfs3 := Rs.mono up rfs2
  obtain ⟨v1, r1, ev1, q1, rfs⟩ := rfs
  obtain ⟨v2, r2, rfl, q2, rfs⟩ := rfs
  obtain ⟨v3, r3, rfl, q3, rfs⟩ := rfs
  have q1 : R _ (.lst (ats.map D.at)) v1 := q1
  have q2 : v2 = .ref bn := q2
  have q3 : v3 = .ref bc := q3
  obtain ⟨lf, wsf, cf, rfl, hlf, rlf⟩ := q1
  obtain rfl := rs_at rlf
  subst q2 q3
  refine K h' _ _ news' es' k' F2 N2 Sz.nd Sz.tab (fun p hp p1 p2 => ⟨Sz.kon p (kmem p hp p1 p2), (Sz.dis p.1 (zC (o := p.2) (kmem p hp p1 p2))).1⟩) Sz.sub (fun p hp => up p (ix p hp)) (Sz.kon _ hxz) hdm' (Sz.dis x (zC hxz)).1 n1 ke' ?_
  rw [ev1]
  refine Rs.cons ?_ (Rs.cons ?_ (Rs.cons ?_ rfs))
  ·exact R_lst hlf rfs3
  ·refine R_dict ⟨bn, [⟨hashStr w deed, .str deed t, .ref ln⟩], ep, [.ref ln], rfl, .head _, ⟨⟨deed, [], rfl, ⟨t, rfl⟩, rfl⟩, fun e he y t' hy => ?_, hsys⟩, rfl, Rs.one ?_⟩
   ·rw [List.mem_singleton.mp he] at hy ⊢
    cases hy
    exact (Si.hs deed).symm
   ·exact R_lst (.tail _ (.head _)) rfs3
  ·exact show handedIn _ = true from rfl
mutual
noncomputable def noD : D -> Bool
 | .inst .. => false
 | .dict .. => false
 | .tup ds => noDs ds
 | .lst ds => noDs ds
 | _ => true
noncomputable def noDs : List D -> Bool
 | [] => true
 | d :: ds => noD d && noDs ds
end
section
variable {led led0 : Led} {dds : List Addr}
mutual
theorem R.less (h1 : ∀ p ∈ led, p.1 ∉ dds -> p ∈ led0) (h2 : ∀ d ∈ dds, ∃ es c, (d, dictOf es c) ∈ led) (U : Uq led) : ∀ {d v}, noD d = true -> R led d v -> R led0 d v
 | .none, _, _, x => x
 | .any, _, _, x => x
 | .at a, _, _, x => x
 | .bool b, _, _, x => x
 | .int i, _, _, x => x
 | .str i, _, _, x => x
 | .bytes i, _, _, x => x
 | .tup ds, _, hn, x => by
  obtain ⟨a, vs, e, m, r⟩ := x
  refine e ▸ R_tup (h1 _ m fun ha => ?_) (Rs.less h1 h2 U hn r)
  obtain ⟨es, c, hd⟩ := h2 a ha
  have := congrArg Obj.cls (U _ _ _ m hd)
  injection this with h
  exact absurd h (by decide)
 | .lst ds, _, hn, x => by
  obtain ⟨a, vs, c, e, m, r⟩ := x
  refine e ▸ R_lst (h1 _ m fun ha => ?_) (Rs.less h1 h2 U hn r)
  obtain ⟨es, c, hd⟩ := h2 a ha
  have := congrArg Obj.cls (U _ _ _ m hd)
  injection this with h
  exact absurd h (by decide)
 | .inst .., _, hn, _ => by cases hn
 | .dict .., _, hn, _ => by cases hn
theorem Rs.less (h1 : ∀ p ∈ led, p.1 ∉ dds -> p ∈ led0) (h2 : ∀ d ∈ dds, ∃ es c, (d, dictOf es c) ∈ led) (U : Uq led) : ∀ {ds vs}, noDs ds = true -> Rs led ds vs -> Rs led0 ds vs
 | [], _, _, x => x
 | d :: ds, _, hn, x => by
  have hn := Bool.and_eq_true_iff.mp hn
  obtain ⟨v, r, e, a, b⟩ := x
  exact e ▸ Rs.cons (R.less h1 h2 U hn.1 a) (Rs.less h1 h2 U hn.2 b)
end
end
noncomputable def okRho (ρ : Loc) : Bool := ρ.all fun p => match p.2 with
 | .val d => noD d
 | _ => false
theorem okRho_of {ρ x} {lv : LV} (h : okRho ρ = true) (e : fnd x ρ = some lv) : ∃ d, lv = .val d ∧ noD d = true := by
 have := List.all_eq_true.mp h _ (fnd_mem e)
 simp only at this
 cases lv with
 | val d => exact ⟨d, rfl, this⟩
 | own ds => cases this
 | obj C ns ds => cases this
theorem St.unshare {env h₀ L h m ρ ko led led0 news} {dds : List Addr} (S : St env h₀ L h m ρ ko led news) (i0 : Inc led0 led) (h1 : ∀ p ∈ led, p.1 ∉ dds -> p ∈ led0) (h2 : ∀ d ∈ dds, ∃ es c, (d, dictOf es c) ∈ led) (hρ : okRho ρ = true) : St env h₀ L h m ρ ko led0 news where
 F := S.F
 N := S.N
 nd := S.nd
 kon := S.kon
 sub := fun p hp => S.sub p (i0 p hp)
 dis := fun a ha => ⟨fun hq => (S.dis a ha).1 (keyL_sub i0 hq), (S.dis a ha).2⟩
 tab := fun P hP => by
  obtain ⟨a, ps, b, c⟩ := S.tab P hP
  refine ⟨fun hq => a (keyL_sub i0 hq), ps, b, ?_⟩
  rcases c with c | ⟨c', oc, vs, t, e1, e2, e3, e4⟩
  ·exact .inl c
  ·refine .inr ⟨c', oc, vs, t, e1, h1 _ e2 fun hd => ?_, e3, e4⟩
   obtain ⟨es, c, hd⟩ := h2 c' hd
   rw [zAm S.nd (S.sub _ e2) (S.sub _ hd)] at e3
   cases e3
 loc := by
  obtain ⟨mm, X⟩ := S.loc
  refine ⟨mm, X.lc, fun x lv e => ?_, X.inj⟩
  obtain ⟨v, V, O, k⟩ := X.at' x lv e
  obtain ⟨d, rfl, hd⟩ := okRho_of hρ e
  exact ⟨v, V, R.less h1 h2 (fun _ _ _ a b => zAm S.nd (S.sub _ a) (S.sub _ b)) hd O, k⟩
theorem St.over2 {env h₀ L h h' m ρ ko led news led' news'} (S : St env h₀ L h m ρ ko led news) (F : Fr h₀ L h' m) (N : News h₀ L h' news') (nd : (keyL news').Nodup) (tab : TabOK led' news') (hk : ∀ p ∈ ko, p ∈ news' ∧ p.1 ∉ keyL led')
  (hs : Inc led' news') (i : Inc led led') (hρ : okRho ρ = true) : St env h₀ L h' m ρ ko led' news' where
 F := F
 N := N
 nd := nd
 kon := fun p hp => (hk p hp).1
 sub := hs
 dis := fun a ha => by
  obtain ⟨p, hp, rfl⟩ := List.mem_map.mp ha
  exact ⟨(hk p hp).2, (S.dis p.1 ha).2⟩
 tab := tab
 loc := by
  obtain ⟨mm, X⟩ := S.loc
  refine ⟨mm, X.lc, fun x lv e => ?_, X.inj⟩
  obtain ⟨v, V, O, k⟩ := X.at' x lv e
  obtain ⟨d, rfl, hd⟩ := okRho_of hρ e
  exact ⟨v, V, R.mono i O, k⟩
theorem forms_out {led : Led} : ∀ {rs : List Row} {vs : List Value}, Rs led (rs.map fun r => zV r (-1)) vs -> ∃ ats dds : List Addr, vs = refs ats ∧ ats.length = rs.length ∧ dds.length = rs.length ∧
  ∀ (j : Nat) (r : Row) (a d : Addr), rs[j]? = some r -> ats[j]? = some a -> dds[j]? = some d -> (a, instObj 257 d) ∈ led ∧ ∃ es c, (d, dictOf es c) ∈ led ∧ zAe es formNs ∧ Rs led (formFs r (-1)) (es.map (·.val))
 | [], vs, h => by
  exact ⟨[], [], h, rfl, rfl, fun j r a d e => by simp at e⟩
 | r :: rs, vs, h => by
  obtain ⟨v, t, rfl, h1, h2⟩ := h
  have h1 : R led (.inst 257 formNs (formFs r (-1))) v := h1
  obtain ⟨a, dx, es, n, ws, rfl, m1, m2, ke, rfl, rr⟩ := h1
  obtain ⟨ats, dds, rfl, l1, l2, hh⟩ := forms_out h2
  refine ⟨a :: ats, dx :: dds, rfl, by simp [l1], by simp [l2], fun j r' a' d' e1 e2 e3 => ?_⟩
  cases j with
  | zero =>
   simp only [List.getElem?_cons_zero, Option.some.injEq] at e1 e2 e3
   subst e1 e2 e3
   exact ⟨m1, es, n, m2, ke, rr⟩
  | succ j => exact hh j r' a' d' (by simpa using e1) (by simpa using e2) (by simpa using e3)
theorem dds_nodup {led : Led} {rs : List Row} {ats dds : List Addr} (U : Uq led) (hop : (rs.map (·.op)).Nodup) (l1 : ats.length = rs.length) (l2 : dds.length = rs.length)
  (g : ∀ (j : Nat) (r : Row) (a d : Addr), rs[j]? = some r -> ats[j]? = some a -> dds[j]? = some d -> (a, instObj 257 d) ∈ led ∧ ∃ es c, (d, dictOf es c) ∈ led ∧ zAe es formNs ∧ Rs led (formFs r (-1)) (es.map (·.val))) : dds.Nodup := by
 refine List.pairwise_iff_getElem.mpr fun i j hi hj hij heq => ?_
 have a1 : i < rs.length := l2 ▸ hi
 have b1 : j < rs.length := l2 ▸ hj
 obtain ⟨_, es, c, m1, _, r1⟩ := g i rs[i] (ats[i]'(l1.symm ▸ a1)) dds[i] (List.getElem?_eq_getElem _) (List.getElem?_eq_getElem _) (List.getElem?_eq_getElem _)
 obtain ⟨_, es', c', m2, _, r2⟩ := g j rs[j] (ats[j]'(l1.symm ▸ b1)) dds[j] (List.getElem?_eq_getElem _) (List.getElem?_eq_getElem _) (List.getElem?_eq_getElem _)
 have e := U _ _ _ m1 (heq ▸ m2)
 have e : es = es' := by
  have := congrArg Obj.data e
  injection this with e1 e2
  simpa using e1
 subst e
 obtain ⟨v1, k1, k2⟩ := Rs.get (i := 2) r1 rfl
 obtain ⟨v2, k3, k4⟩ := Rs.get (i := 2) r2 rfl
 rw [k1] at k3
 cases k3
 have k2 : R led (.int rs[i].op) v2 := k2
 have k4 : R led (.int rs[j].op) v2 := k4
 obtain ⟨t, rfl⟩ := k2
 obtain ⟨t', k4⟩ := k4
 injection k4 with k5
 exact Nat.ne_of_lt hij ((List.getElem_inj (xs := rs.map (·.op)) (h₀ := (List.length_map _).symm ▸ a1) (h₁ := (List.length_map _).symm ▸ b1) hop).mp (by rw [List.getElem_map, List.getElem_map]; first | exact k5 | exact k5.symm))
theorem exec_iset {prog : Program} {w : World} {A : Around} {sc : zT} {env : Env} {h₀ : Heap} {L : Addr} {s : Shared} {m : Str -> Option Value} {ρ : Loc} {ko led news : Led} {n : Nat} {x c : Str} {px cp : Pos} {e : Expr} {pos apos : Pos} {rs : List Row} {Q : Flow -> Shared -> Prop} {E : Value -> Shared -> Prop}
  (hs : env.scope.names = sc) (hl : env.locals = L) (Si : Sit w A env h₀ L (n + 3)) (S : St env h₀ L s.heap m ρ ko led news) (hx : zAu sc x = true) (hc : zZ sc c = true) (hd : zM c = true) (ec : fnd c gTab = some (.ref 1045)) (hst : zP e = true)
  (he : ∀ (s : Shared) (led news : Led) (Q E : Value -> Shared -> Prop), St env h₀ L s.heap m ρ ko led news -> Kept env h₀ L m ρ ko led s (fun l v => R l (.lst (rs.map fun r => zV r (-1))) v) Q -> wpAny (model prog w) A (eval e env) Q E s) (hρ : okRho ρ = true) (hop : (rs.map (·.op)).Nodup) (hlen : rs.length ≤ 40) (hpos : 0 < rs.length)
  (hcodes : ∀ (i : Nat) r, rs[i]? = some r -> zF (n + 1) 974 [zV r i] (.lst (codesD r)))
  (K : ∀ h' tk m' led' news', St env h₀ L h' m' (put x (.val (isetD rs)) ρ) ko led' news' -> (∀ p ∈ led, (∀ es c, p.2 ≠ dictOf es c) -> p ∈ led') -> Q .next (sw s h' tk)) :
  wpAny (model prog w) A (exec (.Assign [.Name x px] (.Call (.Name c cp) [e] [] pos) apos) env) Q E s := by
 refine wpAny_Assign_Name ?_ (noSwap rfl _ _ _)
 have e1 := List.all_eq_true.mp (in_ok w.params) _ (inOf_mem (C := 1045) (f := 988) (by rfl'))
 have e1 := and4p e1
 refine Rows.Call_ (zBl hs Si S hc hd ec ?_)
 refine callWith_K (h₀ := h₀) Si.X e1.1.2 ?_ (zB hst) (by rw [zAr]; exact zAa rfl)
 refine args_cons (he s led news _ E S fun v h' tk led' news' S' i rv => args_nil ?_) (zB hst)
 refine ⟨Si.X.keeps S'.F.keep, ?_⟩
 have rv : R led' (.lst (rs.map fun r => zV r (-1))) v := rv
 obtain ⟨fl, vs, cf, rfl, hfl, rr⟩ := rv
 obtain ⟨ats, dds, rfl, l1, l2, gg⟩ := forms_out rr
 have U : Uq led' := fun _ _ _ a b => zAm S'.nd (S'.sub _ a) (S'.sub _ b)
 have nd := dds_nodup U hop l1 l2 gg
 have h2 : ∀ d ∈ dds, ∃ es c, (d, dictOf es c) ∈ led' := fun d hd => by
  obtain ⟨j, hj⟩ := List.mem_iff_getElem?.mp hd
  have hjl := (List.getElem?_eq_some_iff.mp hj).1
  obtain ⟨_, es, c, m1, _⟩ := gg j (rs[j]'(l2 ▸ hjl)) (ats[j]'(l1.symm ▸ l2 ▸ hjl)) d (List.getElem?_eq_getElem _) (List.getElem?_eq_getElem _) hj
  exact ⟨es, c, m1⟩
 have nod : ∀ p ∈ led', (∀ es c, p.2 ≠ dictOf es c) -> p.1 ∉ dds := fun p hp hn hd => by
  obtain ⟨es, c, m1⟩ := h2 _ hd
  exact hn es c (U p.1 p.2 _ hp m1)
 have mf : ∀ p, p ∈ led'.filter (fun p => decide (p.1 ∉ dds)) ↔ p ∈ led' ∧ p.1 ∉ dds := fun p => by rw [List.mem_filter]; simp
 have S0 := S'.unshare (led0 := led'.filter fun p => decide (p.1 ∉ dds)) (dds := dds) (fun p hp => ((mf p).mp hp).1) (fun p hp hq => (mf p).mpr ⟨hp, hq⟩) h2 hρ
 have ddn : ∀ d ∈ dds, d ∉ keyL (led'.filter fun p => decide (p.1 ∉ dds)) := fun d hd hq => by
  obtain ⟨p, hp, rfl⟩ := List.mem_map.mp hq
  exact ((mf p).mp hp).2 hd
 refine call_cls (s := (sw s h' tk)) (kw := []) S'.F Si.X S'.N e1.2 (beq_iff_eq.mp e1.1.1.1) e1.1.1.2 fun y dx h2' F2 N2 lt ltx => ?_
 have nd2 : (keyL ((y, instObj 1045 dx) :: (dx, dictOf [] 0) :: news')).Nodup := by
  have h1 := zQ (o := dictOf [] 0) S'.nd lt
  exact zQ (a := y) (o := instObj 1045 dx) h1 fun p hp => by
   rcases List.mem_cons.mp hp with rfl | hp
   ·exact ltx
   ·exact Nat.lt_trans (lt p hp) ltx
 have S2 := S0.apart (new := [(y, instObj 1045 dx), (dx, dictOf [] 0)]) F2 N2 nd2
 have hdlt : ∀ d ∈ dds, d < dx := fun d hd => by
  obtain ⟨es, c, m1⟩ := h2 d hd
  exact lt _ (S'.sub _ m1)
 have hdl : dx ∉ keyL (led'.filter fun p => decide (p.1 ∉ dds)) := zBh fun p hp => lt p (S0.sub p hp)
 have hxl : y ∉ keyL (led'.filter fun p => decide (p.1 ∉ dds)) := zBh fun p hp => Nat.lt_trans (lt p (S0.sub p hp)) ltx
 have inst_dict : ∀ {C d : Nat} {es : List DictEntry} {c : Nat}, instObj C d ≠ dictOf es c := fun {C d es c} e => by have := congrArg Obj.cls e; cases this
 have list_dict : ∀ {its : Array Value} {k : Nat} {es : List DictEntry} {c : Nat}, listOf its k ≠ dictOf es c := fun {its k es c} => zBf zBn
 have str_noD : ∀ r : Row, noDs (formFs r (-1)) = true := fun r => rfl
 refine init_call (n := n) (rs := rs) (ats := ats) (dds := dds) (c := cf) hcodes (Si.make 1045 [.ref fl]) (s := (sw s h2' tk)) S2 ((mf _).mpr ⟨hfl, nod _ hfl fun es c => list_dict⟩) (.head _) (.tail _ (.head _)) hxl hdl (by lia) (by lia) l1.symm (by lia) nd
  (fun hq => Nat.lt_irrefl _ (Nat.lt_trans (hdlt _ hq) ltx)) (fun hq => Nat.lt_irrefl _ (hdlt _ hq)) (fun j r a d x1 x2 x3 => ?_) ?_
 ·obtain ⟨m1, es, c, m2, ke, r1⟩ := gg j r a d x1 x2 x3
  refine ⟨(mf _).mpr ⟨m1, nod _ m1 fun es c => inst_dict⟩, es, c, .tail _ (.tail _ (S'.sub _ m2)), ddn _ (List.mem_of_getElem? x3), ke, Rs.less (fun p hp hq => (mf p).mpr ⟨hp, hq⟩) h2 U (str_noD r) r1⟩
 intro h3 tk3 led3 news3 es3 k3 F3 N3 nd3 tab3 hkeep hsub3 i3 hx3 hd3 nx3 ndx3 ke3 rf3
 refine ⟨rfl, ?_⟩
 have up : ∀ p ∈ led3, p ∈ (y, instObj 1045 dx) :: (dx, dictOf es3 k3) :: led3 := fun p hp => .tail _ (.tail _ hp)
 have hs3 : ∀ p ∈ (y, instObj 1045 dx) :: (dx, dictOf es3 k3) :: led3, p ∈ news3 := fun p hp => by
  rcases List.mem_cons.mp hp with rfl | hp
  ·exact hx3
  ·rcases List.mem_cons.mp hp with rfl | hp
   ·exact hd3
   ·exact hsub3 p hp
 have hko : ∀ p ∈ ko, p ∈ news3 ∧ p.1 ∉ keyL ((y, instObj 1045 dx) :: (dx, dictOf es3 k3) :: led3) := fun p hp => by
  have d1 := S'.dis p.1 (zC (o := p.2) hp)
  have hlt := lt p (S'.kon p hp)
  have hpd : p.1 ∉ dds := fun hd => by
   obtain ⟨es, c, m1⟩ := h2 _ hd
   exact d1.1 (zC m1)
  have h1 := hkeep p (zAd.mpr ⟨.tail _ (.tail _ (S'.kon p hp)), (S0.dis p.1 (zC (o := p.2) hp)).1, d1.2⟩) (Nat.ne_of_lt hlt) hpd
  exact ⟨h1.1, zU (zU h1.2 (Nat.ne_of_lt hlt)) (Nat.ne_of_lt (Nat.lt_trans hlt ltx))⟩
 have S3 := S0.over2 F3 N3 nd3 ((tab3.add nd3 hd3 (by intro h; cases h)).add nd3 hx3 (by intro h; simp [X.tableObj] at h)) hko hs3 (fun p hp => up p (i3 p hp)) hρ
 refine store_ Si.kd hl (zL hs hx) S3.F S3.N fun h4 F4 N4 => ?_
 refine K h4 _ _ _ news3 (S3.putVal hl (zL hs hx) F4 N4 (v := .ref y) (d := isetD rs) ?_) fun p hp hn => up p (i3 p ((mf p).mpr ⟨i p hp, nod p (i p hp) hn⟩))
 exact R_inst (.head _) (.tail _ (.head _)) ke3 (Rs.mono up rf3)
theorem exs_then {o} {ft : Nat -> Option FnE} {n : Nat} (ho : OrcOK o) (hk : OrcKeep o) (hf : ∀ f e, ft f = some e -> e.ok) {sc fl ρ'} {m : Nat} {ss rest ρ ρ1} (hm : m ≤ n) (h : evS o ft m sc ρ ss = some (.next, ρ1)) (hr : ExS sc ρ1 n rest fl ρ') : ExS sc ρ n (ss ++ rest) fl ρ' :=
 evS_ind (p := (.next, ρ1)) (M := fun ss ρ => ExS sc ρ n ss fl ρ') ho hk hf (fun _ => hr) zK (fun q => (ftE q).elim) hm h
noncomputable def afterF (o : Orc) (n : Nat) (r : FnR) (k : Nat) (ρ : Loc) : Option Loc := nextO (evS o ft n (zD r.st).names ρ ((zG r.st).take k))
theorem exs_after {o} {n k : Nat} {r ρ ρ1 ρ' fl} (ho : OrcOK o) (hk : OrcKeep o) (h : afterF o n r k ρ = some ρ1) (hr : ExS (zD r.st).names ρ1 n ((zG r.st).drop k) fl ρ') : ExS (zD r.st).names ρ n (zG r.st) fl ρ' := by
 have := exs_then ho hk ft_ok (Nat.le_refl n) (nextO_ok _ h) hr
 rw [List.take_append_drop] at this
 exact this
noncomputable def leI : Nat -> Int -> List Int
 | 0, _ => []
 | k + 1, x => Builtin.bitAnd x 255 :: leI k (x.fdiv (2 ^ 8))
theorem leI_ok : ∀ {k : Nat} {x : Int}, (leI k x).all okByte = true
 | 0, _ => rfl
 | k + 1, x => by
  simp only [leI, List.all_cons, leI_ok, Bool.and_true]
  rw [bitAnd_m8]
  simp only [okByte, Bool.and_eq_true, decide_eq_true_eq]
  lia
theorem leI_len : ∀ {k : Nat} {x : Int}, (leI k x).length = k
 | 0, _ => rfl
 | k + 1, x => by simp [leI, leI_len]
noncomputable def msk : Nat -> Int
 | 1 => 255
 | _ => 4294967295
noncomputable def leB (k : Nat) (a : Int) : List UInt8 := (leI k (Builtin.bitAnd a (msk k))).map zAt
theorem ints_of : ∀ {ns : List Int}, intsOf (ns.map D.int) = some ns
 | [] => rfl
 | a :: t => by
  show (intsOf (t.map D.int)).map (a :: ·) = _
  rw [ints_of]
  rfl
theorem exs_retB {ρ} {n : Nat} {ns : List Int} (hx : fnd (S' "octets") ρ = some (.own (ns.map D.int))) (hok : ns.all okByte = true) (hl : ns.length ≤ 100) : ∃ ρ', ExS (zD r122.st).names ρ (n + 1) ((zG r122.st).drop 3) (.ret (.bytes (ns.map zAt))) ρ' :=
 ⟨_, zAj rfl (zCd hx (zBy (zAx (by rfl') (by rfl') (bv := .type "bytes") (by rfl') rfl rfl (zH rfl (zJ (d := .lst (ns.map D.int)) (by rw [zN, zI]; rfl) (by rfl')) zO) (blt_bytes ints_of hok (Nat.ble_eq_true_of_le (by simp; lia))))))⟩
theorem call_little {k : Nat} (hk : k = 1 ∨ k = 4) (a : Int) : zF 41 122 [.int a, .int k] (.bytes (leB k a)) := by
 have key : ∀ (ρ1 : Loc) (ns : List Int), afterF noO 40 r122 3 [(S' "worth", .val (.int a)), (S' "width", .val (.int k))] = some ρ1 -> fnd (S' "octets") ρ1 = some (.own (ns.map D.int)) -> ns.all okByte = true -> ns.length ≤ 100 -> zF 41 122 [.int a, .int k] (.bytes (ns.map zAt)) := fun ρ1 ns h1 h2 h3 h4 => by
  obtain ⟨ρ', hx⟩ := exs_retB (n := 39) h2 h3 h4
  exact zR (n := 40) (ds := [.int a, .int k]) g122 rfl (exs_after zBq zAi h1 hx) rfl
 rcases hk with rfl | rfl
 ·exact key [(S' "worth", .val (.int a)), (S' "width", .val (.int 1)), (S' "rest", .val (.int ((Builtin.bitAnd a 255).fdiv (2 ^ 8)))), (S' "octets", .own ((leI 1 (Builtin.bitAnd a 255)).map D.int)), (S' "spot", .val (.int 0))] _ (by rfl') rfl leI_ok (by rw [leI_len]; decide)
 ·exact key [(S' "worth", .val (.int a)), (S' "width", .val (.int 4)), (S' "rest", .val (.int (((((Builtin.bitAnd a 4294967295).fdiv (2 ^ 8)).fdiv (2 ^ 8)).fdiv (2 ^ 8)).fdiv (2 ^ 8)))), (S' "octets", .own ((leI 4 (Builtin.bitAnd a 4294967295)).map D.int)), (S' "spot", .val (.int 3))] _ (by rfl') rfl leI_ok (by rw [leI_len]; decide)
noncomputable def litO : Orc := fun f ds => gd (Nat.beq f 122) (on012 none (fun _ => none) (i2 fun a b => cond (b == 1) (some (41, .bytes (leB 1 a))) (gd (b == 4) (some (41, .bytes (leB 4 a))))) ds)
noncomputable def LitP (f : Nat) (ds : List D) (p : Nat × D) : Prop := f = 122 ∧ zF p.1 122 ds p.2
theorem litO_sat {f : Nat} {ds} : Sat (LitP f ds) (litO f ds) :=
 .gd fun hf => Sat.on012 (P := LitP f) .none (fun _ => .none) (fun a b => Sat.onIx (P := fun a => LitP f [a, b]) (fun a =>
  Sat.onIx (P := fun b => LitP f [.int a, b]) (fun b => .cond (fun h => .some (by
   rw [beq_iff_eq.mp h]
   exact ⟨Nat.eq_of_beq_eq_true hf, call_little (.inl rfl) a⟩)) fun _ => .gd fun h => .some (by
   rw [beq_iff_eq.mp h]
   exact ⟨Nat.eq_of_beq_eq_true hf, call_little (.inr rfl) a⟩)) b) a) ds
theorem litO_ok : OrcOK litO := fun f ds n d h => let ⟨e, c⟩ := litO_sat (n, d) h; e ▸ c
theorem litO_keep : OrcKeep litO := fun f ds p h P => zAv P mem_fn122 (litO_sat p h).1.symm
theorem call_oL {f : Nat} {ds d} {n : Nat} (h : callF litO ft n f ds = some d) : zF n f ds d := ((zBr litO_ok litO_keep ft_ok n).c _ _ _ h).1
noncomputable def keysRun (o : Orc) (n : Nat) (sc : zT) (x : Str) (body : Expr) : List D -> Option (List D)
 | [] => some []
 | d :: ds => (evE o ft n sc [(x, .val d)] body).bind fun k => (keysRun o n sc x body ds).map (k :: ·)
theorem keysRun_ok {o} {n : Nat} {sc x body} (ho : OrcOK o) (hk : OrcKeep o) : ∀ {ds ks}, keysRun o n sc x body ds = some ks -> KeysE sc n x body ds ks
 | [], ks, h => by cases h; exact .nil
 | d :: ds, ks, h => by
  obtain ⟨k, e1, h⟩ := Option.bind_eq_some_iff.mp h
  obtain ⟨ks', e2, rfl⟩ := Option.map_eq_some_iff.mp h
  exact .cons ((zBr ho hk ft_ok n).e _ _ _ _ e1) (keysRun_ok ho hk e2)
theorem closure_none {scope env} (h : scope.names.all (fun p => p.2 != .free) = true) : closureFor scope env = pure [] := by
 unfold closureFor
 have : ∀ (l : List (Str × NameKind)) (cs : List (Str × Addr)), l.all (fun p => p.2 != .free) = true -> (forIn l cs fun (x : Str × NameKind) (r : List (Str × Addr)) => do
   if x.2 == NameKind.free then do let a ← cellOf env x.1; pure (ForInStep.yield ((x.1, a) :: r)) else pure (ForInStep.yield r)) = (pure cs : Sem (List (Str × Addr))) := by
  intro l
  induction l with
  | nil => intro cs _; rfl
  | cons p r ih =>
   intro cs hl
   simp only [List.all_cons, Bool.and_eq_true, bne_iff_ne] at hl
   rw [List.forIn_cons, if_neg (by simpa using hl.1)]
   exact ih cs hl.2
 exact (congrArg (· >>= fun cs => pure cs) (this scope.names [] h)).trans rfl
theorem exsq_then {Pe : World -> Around -> Env -> Heap -> Addr -> Prop} {o} {ft : Nat -> Option FnE} {n : Nat} (ho : OrcOK o) (hk : OrcKeep o) (hf : ∀ f e, ft f = some e -> e.ok) {sc fl ρ'} {m : Nat} {ss rest ρ ρ1} (hm : m ≤ n) (h : evS o ft m sc ρ ss = some (.next, ρ1)) (hr : ExSq Pe sc ρ1 n rest fl ρ') : ExSq Pe sc ρ n (ss ++ rest) fl ρ' :=
 evS_ind (p := (.next, ρ1)) (M := fun ss ρ => ExSq Pe sc ρ n ss fl ρ') ho hk hf (fun _ => hr) exsq_next (fun q => (ftE q).elim) hm h
noncomputable abbrev sc681 : zT := (zD r681.st).names
noncomputable def lamS : Expr -> Expr × zT
 | .Lambda _ b s _ => (b, s.names)
 | _ => (noE, [])
noncomputable def srtE (l : List Stmt) : Expr × Expr × zT := match fv (stE (hdS l)) with
 | .call _ es ks _ => (hdE es, lamS (match ks with
  | k :: _ => k.value
  | [] => noE))
 | _ => (noE, noE, [])
noncomputable abbrev msE := srtE ((zG r681.st).drop 4)
noncomputable def memRun (m : D) : Option (List D) := (afterF noO 71 r681 4 [(S' "mem", .val m)]).bind fun ρ => (evE noO ft 71 sc681 ρ msE.1).bind (onLT (fun ds => (keysRun noO 70 msE.2.2 (S' "shape") msE.2.1 ds).bind fun ks =>
 gd (Nat.blt ds.length 60) (cond (Nat.blt ds.length 2) (some ds) ((orderOf ks).map fun p => p.map fun i => ds.getD i .none))) fun _ => none)
theorem mem_sort {ρ ds ks outs} (e1 : evE noO ft 71 sc681 ρ msE.1 = some (.lst ds)) (e2 : keysRun noO 70 msE.2.2 (S' "shape") msE.2.1 ds = some ks) (hl : ds.length < 60) (h : SortOK ks ds outs ∨ (ds.length < 2 ∧ outs = ds)) : ExSq (FrameOf r681) sc681 ρ 71 ((zG r681.st).drop 4) (.ret (.lst outs)) ρ :=
 exsq_stop rfl (ex1q_ret (evq_sorted (n := 70) (P := 676) (x := S' "shape") (by rfl') (by rfl') (by rfl') rfl (by rfl') ((zBr zBq zAi ft_ok 71).e _ _ _ _ e1) (by simp [tabs]) rfl (by rfl') (fun P => hd_680 P) (fun env => rfl) (fun env => closure_none (by rfl')) (fun pm cdv ct v => by rfl') (by rfl') (by rfl') (keysRun_ok zBq zAi e2) h hl))
theorem memRun_sat {m} : Sat (fun outs => zF 72 681 [m] (.lst outs)) (memRun m) :=
 .bind nextO_ok fun ρ e2 => .bind .is fun d e3 => Sat.onLT (P := Is (evE noO ft 71 sc681 ρ msE.1)) (fun ds e3 => .bind .is fun ks e4 => .gd fun hl outs h => by
  have hlen := (keysRun_ok zBq zAi e4).len
  have h2 := mem_sort e3 e4 (Nat.le_of_ble_eq_true hl) (outs := outs) (by
   cases h2 : Nat.blt ds.length 2 with
   | true =>
    rw [h2] at h
    exact .inr ⟨Nat.le_of_ble_eq_true h2, (Option.some.inj h).symm⟩
   | false =>
    rw [h2] at h
    obtain ⟨p, e3, rfl⟩ := Option.map_eq_some_iff.mp h
    exact .inl (order_ok e3 hlen.symm))
  have h3 := exsq_then zBq zAi ft_ok (Nat.le_refl 71) e2 h2
  rw [List.take_append_drop] at h3
  exact call_of_bodyq (n := 71) (ds := [m]) g681 rfl h3 rfl) (fun _ _ => .none) d e3
theorem memRun_ok {m outs} (h : memRun m = some outs) : zF 72 681 [m] (.lst outs) := memRun_sat outs h
end
end Mine
end
section
open PySem PySem.W PyProof.Rows PySem.Calls PyProof PySem.SeqAt
set_option Elab.async false
set_option maxRecDepth 100000
set_option linter.all false
namespace Mine
noncomputable section
noncomputable def shpNs : List Str := [S' "mod", S' "rm", S' "sib", S' "disp_width", S' "x", S' "b"]
noncomputable def shpD (m r s d x b : Int) : D := .inst 614 shpNs [.int m, .int r, .int s, .int d, .int x, .int b]
noncomputable def hi (n : Nat) : Int := if Nat.blt 7 n then 1 else 0
noncomputable def lo (n : Nat) : Int := ((n % 8 : Nat) : Int)
noncomputable def zBk : List Int := [0, 8, -128, 128, -129, 127]
noncomputable def zY (n : Nat) (d : Int) : List (Int × Int × Int × Int) :=
 let a0 := decide (d = 0) && !(Nat.beq (n % 8) 5)
 let a1 := decide (-128 ≤ d) && decide (d < 128)
 let ns := !(Nat.beq (n % 8) 4)
 (if a0 && ns then [(0, lo n, -1, 0)] else []) ++ (if a1 && ns then [(1, lo n, -1, 1)] else []) ++ (if a0 then [(0, 4, 32 + lo n, 0)] else []) ++ (if a1 then [(1, 4, 32 + lo n, 1)] else []) ++ (if ns then [(2, lo n, -1, 4)] else []) ++ [(2, 4, 32 + lo n, 4)]
noncomputable def shapesM (n : Nat) (d : Int) : List D := (zY n d).map fun q => shpD q.1 q.2.1 q.2.2.1 q.2.2.2 0 (hi n)
theorem mem_all : (List.range 16).map (fun n => zBk.map fun d => memRun (memOp n d)) = (List.range 16).map fun n => zBk.map fun d => some (shapesM n d) := by rfl'
theorem call_mem [HashFn] {n : Nat} {d : Int} (hn : n < 16) (hd : d ∈ zBk) : zF 72 681 [memOp n d] (.lst (shapesM n d)) :=
 memRun_ok (List.map_inj_left.mp (List.map_inj_left.mp mem_all n (List.mem_range.mpr hn)) d hd)
noncomputable def shpR (n : Nat) : D := shpD 3 (lo n) (-1) 0 0 (hi n)
noncomputable def tailB (k : String) (w : Int) : List UInt8 := if k == "one" then [] else if k == "imm32" then leB 4 w else leB 1 w
noncomputable def zBp (r : Row) (n : Nat) (w : Int) : List UInt8 :=
 (if Nat.blt 7 n then [65] else []) ++ (if r.esc == 1 then [15] else []) ++ leB 1 (r.op + (if r.k1 == "o32" then lo n else 0)) ++ (if r.k1 == "rm32" then [zAt (192 + r.dig * 8 + lo n)] else []) ++ tailB r.k2 w
noncomputable def encNs : List Str := [S' "octets", S' "fixups", S' "form", S' "shape"]
noncomputable def encD (oct : List UInt8) (form shape : D) : D := .inst 837 encNs [.bytes oct, .lst [], form, shape]
noncomputable def regShape (r : Row) (n : Nat) : D := if r.k1 == "rm32" then shpR n else .none
noncomputable def encR (r : Row) (num : Int) (n : Nat) (w : Int) : D := encD (zBp r n w) (zV r num) (regShape r n)
noncomputable def runK (o : Orc) (n : Nat) (r : FnR) (k : Nat) (ρ : Loc) : Option D := (afterF o n r k ρ).bind fun ρ1 => (evS o ft n (zD r.st).names ρ1 ((zG r.st).drop k)).bind fun p => retOf p.1
noncomputable def encL (a b c : D) : Loc := [(S' "form", .val a), (S' "instruction", .val b), (S' "shape", .val c)]
theorem enc_none (num w : Int) : ([0, 1, 2, 3, 5, 6, 7, 8] : List Nat).map (fun k => (List.range 16).map fun n => runK litO 69 r924 5 (encL (zV (zA k) num) (zAn (regOp (reg32 n)) (immOp w)) .none)) = ([0, 1, 2, 3, 5, 6, 7, 8] : List Nat).map fun k => (List.range 16).map fun n => some (encR (zA k) num n w) := by rfl'
theorem enc_eax (num w : Int) : runK litO 69 r924 5 (encL (zV (zA 4) num) (zAn (regOp (reg32 0)) (immOp w)) .none) = some (encR (zA 4) num 0 w) := by rfl'
theorem enc_some (num w : Int) : ([1, 2, 3, 6, 7, 8] : List Nat).map (fun k => (List.range 16).map fun n => runK litO 69 r924 5 (encL (zV (zA k) num) (zAn (regOp (reg32 n)) (immOp w)) (shpR n))) = ([1, 2, 3, 6, 7, 8] : List Nat).map fun k => (List.range 16).map fun n => some (encR (zA k) num n w) := by rfl'
end
end Mine
end
section
open PySem PySem.W PyProof.Rows PySem.Calls PyProof PySem.SeqAt
set_option Elab.async false
set_option maxRecDepth 100000
set_option linter.all false
namespace Mine
variable [hF : HashFn]
noncomputable section
theorem runK_ok {o} {n k : Nat} {r ρ d} (ho : OrcOK o) (hk : OrcKeep o) (h : runK o n r k ρ = some d) : ∃ fl ρ', ExS (zD r.st).names ρ n (zG r.st) fl ρ' ∧ retOf fl = some d := by
 obtain ⟨ρ1, e1, h⟩ := Option.bind_eq_some_iff.mp h
 obtain ⟨p, e2, h⟩ := Option.bind_eq_some_iff.mp h
 exact ⟨p.1, p.2, exs_after ho hk e1 ((zBr ho hk ft_ok n).s _ _ _ _ e2), h⟩
section
variable {n : Nat} {sc : zT} {ρ : Loc}
theorem e_of {e d} (h : evE noO ft n sc ρ e = some d) : EvE sc ρ n e d := (zBr zBq zAi ft_ok n).e _ _ _ _ h
theorem t_of {e} {b : Bool} (h : evT noO ft n sc ρ e = some b) : EvT sc ρ n e b := (zBr zBq zAi ft_ok n).t _ _ _ _ h
theorem s1_of {ρ' st fl} (h : ev1 noO ft n sc ρ st = some (fl, ρ')) : Ex1 sc ρ n st fl ρ' := (zBr zBq zAi ft_ok n).s1 _ _ _ _ h
theorem l_of {es ds} (h : evL noO ft n sc ρ es = some ds) : EvL sc ρ n es ds := ((zBr zBq zAi ft_ok n).l _ _ _ _ h).1
theorem zAp {x xp pos e es ds d} {a : Nat} {r} (hr : r ∈ zAk) (hf : r.f = a) (c1 : zZ sc x = true) (c2 : zM x = true) (hg : fnd x gTab = some (.ref a)) (c4 : (e :: es).all zP = true) (h : evL noO ft n sc ρ (e :: es) = some ds) (hc : zF n a ds d) : EvE sc ρ n (.Call (.Name x xp) (e :: es) [] pos) d :=
 ev_call c1 c2 hg (fun P => zAv P hr hf) c4 (l_of h) hc
noncomputable def idxE (e : Expr) : Expr := hdE (kx e)
noncomputable abbrev sc924 : zT := (zD r924.st).names
noncomputable abbrev s5 : Stmt := stAt r924 4
noncomputable def s5as (n : Nat) (ρ : Loc) : Option (Bool × List D) := (evT noO ft n sc924 ρ (stE s5)).bind fun c => cond c ((evL noO ft n sc924 ρ (kx (stE (hdS (stB1 s5))))).map (true, ·))
 ((evT noO ft n sc924 ρ (stE (hdS ((sb s5).getD 1 [])))).bind fun c => gd c ((evL noO ft n sc924 ρ (kx (idxE (stE (hdS (stB1 (hdS ((sb s5).getD 1 [])))))))).map (false, ·)))
theorem s5_of {g : Bool} {ds} (h : s5as n ρ = some (g, ds)) : (g = true ∧ evT noO ft n sc924 ρ (stE s5) = some true ∧ evL noO ft n sc924 ρ (kx (stE (hdS (stB1 s5)))) = some ds) ∨ (g = false ∧ evT noO ft n sc924 ρ (stE s5) = some false ∧ evT noO ft n sc924 ρ (stE (hdS ((sb s5).getD 1 []))) = some true ∧ evL noO ft n sc924 ρ (kx (idxE (stE (hdS (stB1 (hdS ((sb s5).getD 1 []))))))) = some ds) := by
 obtain ⟨c, e1, h⟩ := Option.bind_eq_some_iff.mp h
 cases c with
 | true =>
  obtain ⟨ds', e2, e3⟩ := Option.map_eq_some_iff.mp h
  cases e3
  exact .inl ⟨rfl, e1, e2⟩
 | false =>
  obtain ⟨c, e4, h⟩ := Option.bind_eq_some_iff.mp h
  cases c with
  | true =>
   obtain ⟨ds', e2, e3⟩ := Option.map_eq_some_iff.mp h
   cases e3
   exact .inr ⟨rfl, e1, e4, e2⟩
  | false => cases h
theorem s5_true {ds d} (h : s5as n ρ = some (true, ds)) (hc : zF n 909 ds d) : Ex1 sc924 ρ n s5 .next ρ := by
 rcases s5_of h with ⟨_, e1, e2⟩ | ⟨e, _⟩
 ·exact ex1_if (c := true) (t_of e1) (zK (ex1_expr rfl (zAp mem_fn909 rfl (by rfl') (by rfl') (by rfl') rfl e2 hc)) zAh)
 ·cases e
theorem s5_false {ds rest d0} (h : s5as n ρ = some (false, ds)) (hc : zF n 855 ds (.lst (d0 :: rest))) : Ex1 sc924 ρ n s5 .next (put (S' "shape") (.val d0) ρ) := by
 rcases s5_of h with ⟨e, _⟩ | ⟨_, e1, e4, e2⟩
 ·cases e
 ·exact ex1_if (c := false) (t_of e1) (zK (ex1_if (c := true) (t_of e4) (zK (zBc (by rfl') rfl (ev_idx rfl (zAp mem_fn855 rfl (by rfl') (by rfl') (by rfl') rfl e2 hc) (zAb (d := .int 0) rfl) rfl)) zAh)) zAh)
noncomputable abbrev s12 : Stmt := stAt r924 11
noncomputable def s12el : List Expr := kx ((sx (hdS (stB1 s12))).getD 1 noE)
noncomputable def s12run (n : Nat) (ρ : Loc) (es : List D) : Option (List D × Loc) := (evT noO ft n sc924 ρ (stE s12)).bind fun c => gd c ((evL noO ft n sc924 ρ (kx (stE (hdS (stB1 s12))))).bind fun ds => (zBw sc924 s12el es ρ).bind fun ρ1 =>
 (nextO (ev1 noO ft n sc924 ρ1 ((stB1 s12).getD 1 noSt))).map fun ρ2 => (ds, ρ2))
theorem s12_ok {ds es ρ2} (h : s12run n ρ es = some (ds, ρ2)) (hc : zF n 904 ds (.tup es)) : Ex1 sc924 ρ n s12 .next ρ2 := by
 obtain ⟨c, e1, h⟩ := Option.bind_eq_some_iff.mp h
 cases c with
 | false => cases h
 | true =>
  obtain ⟨ds', e2, h⟩ := Option.bind_eq_some_iff.mp h
  obtain ⟨ρ1, e3, h⟩ := Option.bind_eq_some_iff.mp h
  obtain ⟨ρ3, e4, h⟩ := Option.map_eq_some_iff.mp h
  cases h
  exact ex1_if (c := true) (t_of e1) (zK (ex1_assign_tup rfl (fun env _ _ => noSwapT (by rfl) _ _ _ env) (zAp mem_fn904 rfl (by rfl') (by rfl') (by rfl') rfl e2 hc) e3) (zK ((zBr zBq zAi ft_ok n).s1 _ _ _ _ (nextO_ok _ e4)) zAh))
end
end
end Mine
end
section
open PySem PySem.W PyProof.Rows PySem.Calls PyProof PySem.SeqAt
set_option Elab.async false
set_option maxRecDepth 100000
set_option linter.all false
namespace Mine
noncomputable section
noncomputable def memX (B : D) (d : Int) : D := .inst 442 [S' "kind", S' "base", S' "index", S' "scale", S' "worth", S' "size", S' "segment", S' "name"] [strD "mem", B, .none, .int 1, .int d, .int 32, strD "", strD ""]
noncomputable def memOct (r : Row) (b : Int) (w : Int) (L : List UInt8) : List UInt8 :=
 let h := (if decide (b = 1) then [65] else []) ++ (if r.esc == 1 then [15] else []) ++ leB 1 (r.op + 0) ++ L
 if r.k2 == "one" then h else h ++ (if r.k2 == "imm32" then leB 4 w else leB 1 w)
noncomputable def encM (r : Row) (num b w : Int) (L : List UInt8) (sh : D) : D := encD (memOct r b w L) (zV r num) sh
noncomputable def putIf (g : Bool) (d : D) (ρ : Loc) : Loc := if g then ρ else put (S' "shape") (.val d) ρ
noncomputable def memEnc (n : Nat) (ρ : Loc) (d0 : D) (L : List UInt8) : Option (Bool × List D × List D × D) := (afterF litO n r924 4 ρ).bind fun ρ4 => (s5as n ρ4).bind fun p => (nextO (evS litO ft n sc924 (putIf p.1 d0 ρ4) (((zG r924.st).drop 5).take 6))).bind fun ρ11 =>
 (s12run n ρ11 [.bytes L, .lst []]).bind fun q => (retO (evS litO ft n sc924 q.2 ((zG r924.st).drop 12))).map fun d => (p.1, p.2, q.1, d)
theorem drop5 : (zG r924.st).drop 4 = s5 :: (((zG r924.st).drop 5).take 6 ++ s12 :: (zG r924.st).drop 12) := by rfl'
theorem memEnc_ok [HashFn] {n : Nat} {a b c d0 d} {L : List UInt8} {g : Bool} {ds5 ds12} (h : memEnc n (encL a b c) d0 L = some (g, ds5, ds12, d)) (h5 : if g then zF n 909 ds5 .none else ∃ rest, zF n 855 ds5 (.lst (d0 :: rest))) (h12 : zF n 904 ds12 (.tup [.bytes L, .lst []])) :
  zF (n + 1) 924 [a, b, c] d := by
 obtain ⟨ρ4, e4, h⟩ := Option.bind_eq_some_iff.mp h
 obtain ⟨p, e6, h⟩ := Option.bind_eq_some_iff.mp h
 obtain ⟨ρ11, e7, h⟩ := Option.bind_eq_some_iff.mp h
 obtain ⟨q, e9, h⟩ := Option.bind_eq_some_iff.mp h
 obtain ⟨d', e10, h⟩ := Option.map_eq_some_iff.mp h
 cases h
 obtain ⟨ρ', e10⟩ := retO_ok _ e10
 have h14 : ExS sc924 (putIf p.1 d0 ρ4) n (((zG r924.st).drop 5).take 6 ++ s12 :: (zG r924.st).drop 12) (.ret d) ρ' := exs_then litO_ok litO_keep ft_ok (Nat.le_refl n) (nextO_ok _ e7) (zK (s12_ok e9 h12) ((zBr litO_ok litO_keep ft_ok n).s _ _ _ _ e10))
 have h15 : ExS sc924 ρ4 n ((zG r924.st).drop 4) (.ret d) ρ' := by
  rw [drop5]
  obtain ⟨g, ds5⟩ := p
  cases g with
  | true => exact zK (s5_true e6 h5) @h14
  | false =>
   obtain ⟨rest, h5⟩ := h5
   exact zK (s5_false e6 h5) @h14
 exact zR (n := n) (ds := [a, b, c]) g924 rfl (exs_after litO_ok litO_keep e4 @h15) rfl
noncomputable def zBt : List Nat := [1, 2, 3, 6, 7, 8]
noncomputable def bs6 (x0 x1 x2 x3 x4 x5 : UInt8) : Nat -> List UInt8
 | 1 => [x0] | 2 => [x0, x1] | 3 => [x0, x1, x2] | 5 => [x0, x1, x2, x3, x4] | _ => [x0, x1, x2, x3, x4, x5]
noncomputable def lens : List Nat := [1, 2, 3, 5, 6]
theorem encM_none (B : D) (num w d m r s dw : Int) (x0 x1 x2 x3 x4 x5 : UInt8) : ([0, 1] : List Int).map (fun b => zBt.map fun k => lens.map fun l => memEnc 95 (encL (zV (zA k) num) (zAn (memX B d) (immOp w)) .none) (shpD m r s dw 0 b) (bs6 x0 x1 x2 x3 x4 x5 l)) =
  ([0, 1] : List Int).map fun b => zBt.map fun k => lens.map fun l => some (false, [memX B d], [zV (zA k) num, .none, memX B d, shpD m r s dw 0 b, .int (b + (zA k).esc + 1)], encM (zA k) num b w (bs6 x0 x1 x2 x3 x4 x5 l) (shpD m r s dw 0 b)) := by rfl'
theorem encM_some (B : D) (num w d m r s dw : Int) (x0 x1 x2 x3 x4 x5 : UInt8) : ([0, 1] : List Int).map (fun b => zBt.map fun k => lens.map fun l => memEnc 95 (encL (zV (zA k) num) (zAn (memX B d) (immOp w)) (shpD m r s dw 0 b)) .none (bs6 x0 x1 x2 x3 x4 x5 l)) =
  ([0, 1] : List Int).map fun b => zBt.map fun k => lens.map fun l => some (true, [memX B d, shpD m r s dw 0 b], [zV (zA k) num, .none, memX B d, shpD m r s dw 0 b, .int (b + (zA k).esc + 1)], encM (zA k) num b w (bs6 x0 x1 x2 x3 x4 x5 l) (shpD m r s dw 0 b)) := by rfl'
noncomputable abbrev Quad := Int × Int × Int × Int
noncomputable def quadD (q : Quad) (b : Int) : D := shpD q.1 q.2.1 q.2.2.1 q.2.2.2 0 b
noncomputable def layB (q : Quad) (g d : Int) : List UInt8 := [zAt (q.1 * 64 + g * 8 + q.2.1)] ++ (if decide (0 ≤ q.2.2.1) then [zAt q.2.2.1] else []) ++ (if q.2.2.2 == 0 then [] else if q.2.2.2 == 1 then leB 1 d else leB 4 d)
noncomputable def digs : List Int := [3, 5, 7, 0, 2, 6]
theorem lay_all (b : Int) : (List.range 8).map (fun n => zBk.map fun d => (zY n d).map fun q => digs.map fun g => callF litO ft 60 688 [quadD q b, .int g, .int d]) = (List.range 8).map fun n => zBk.map fun d => (zY n d).map fun q => digs.map fun g => some (.bytes (layB q g d)) := by rfl'
end
end Mine
end
section
open PySem PySem.W PyProof.Rows PySem.Calls PyProof PySem.SeqAt
set_option Elab.async false
set_option maxRecDepth 100000
set_option linter.all false
namespace Mine
variable [hF : HashFn]
noncomputable section
noncomputable def eqNs (a b : List Str) : Bool := a.map keyS == b.map keyS
theorem keyS_inj {a b} (h : keyS a = keyS b) : a = b := zW.mp (by
 unfold eqS
 rw [h]
 exact Nat.beq_refl _)
theorem eqNs_eq {a b} (h : eqNs a b = true) : a = b := (List.map_inj_right fun _ _ => keyS_inj).mp (beq_iff_eq.mp h)
noncomputable def sameL (f : D -> D -> Option Unit) : List D -> List D -> Option Unit
 | [], t => onNil (some ()) t
 | a :: r, t => on0s none (fun b t => (f a b).bind fun _ => sameL f r t) t
noncomputable def sameF : Nat -> D -> D -> Option Unit
 | 0, _, _ => none
 | n + 1, a, b => orO (onN (onN (some ()) b) a) (orO (onI (fun x => onI (fun y => gd (x == y) (some ())) b) a)
  (onSO (fun x => onSO (fun y => gd (eqS x y) (some ())) noO3 b) (fun C ns x => onSO noV (fun C' ns' y => gd (Nat.beq C C' && eqNs ns ns') (sameL (sameF n) x y)) b) a))
noncomputable def SameP {α : Type} (a b : α) (_ : Unit) : Prop := a = b
theorem sameL_ok {f : D -> D -> Option Unit} (h : ∀ a b, Sat (SameP a b) (f a b)) : ∀ {x y}, Sat (SameP x y) (sameL f x y)
 | [], y => Sat.onNil (P := fun y => SameP [] y) (.some rfl) y
 | a :: r, y => Sat.on0s (P := fun y => SameP (a :: r) y) .none (fun b t => .bind (h a b) fun _ e u q => by
   have e : a = b := e
   have q : r = t := sameL_ok h u q
   rw [e, q]
   rfl) y
theorem sameF_ok : ∀ (n : Nat) (a b : D), Sat (SameP a b) (sameF n a b)
 | 0, _, _ => .none
 | n + 1, a, b => .orO (Sat.onN (P := fun x => a = x) (Q := SameP a b) (fun ha => Sat.onN (P := fun y => b = y) (Q := SameP a b) (fun hb => .some (ha.trans hb.symm)) b rfl) a rfl)
  (.orO (Sat.onI (P := fun x => a = x) (Q := SameP a b) (fun x ha => Sat.onI (P := fun y => b = y) (Q := SameP a b) (fun y hb => .gd fun q => .some (by rw [ha, hb, beq_iff_eq.mp q]; rfl)) b rfl) a rfl)
   (Sat.onSO (P := fun x => a = x) (Q := SameP a b) (fun x ha => Sat.onSO (P := fun y => b = y) (Q := SameP a b) (fun y hb => .gd fun q => .some (by rw [ha, hb, zW.mp q]; rfl)) (fun _ _ _ _ => .none) b rfl)
    (fun C ns x ha => Sat.onSO (P := fun y => b = y) (Q := SameP a b) (fun _ _ => .none) (fun C' ns' y hb => .gd2 fun q1 q2 u q => by
     have q : x = y := sameL_ok (sameF_ok n) u q
     rw [ha, hb, Nat.eq_of_beq_eq_true q1, eqNs_eq q2, q]
     rfl) b rfl) a rfl))
noncomputable def oneO (f : Nat) (ds : List D) (k : Nat) (d : D) : Orc := fun g es => gd (Nat.beq g f) ((sameL (sameF 9) es ds).map fun _ => (k, d))
theorem oneO_sat {f : Nat} {ds} {k : Nat} {d} {g : Nat} {es} : Sat (fun p => g = f ∧ es = ds ∧ p = (k, d)) (oneO f ds k d g es) := .gd fun hf => .map (sameL_ok (sameF_ok 9)) fun _ e => ⟨Nat.eq_of_beq_eq_true hf, e, rfl⟩
theorem oneO_ok {f : Nat} {ds} {k : Nat} {d} (h : zF k f ds d) : OrcOK (oneO f ds k d) := fun g es n e q => by
 obtain ⟨rfl, rfl, q2⟩ := oneO_sat _ q
 obtain rfl := congrArg Prod.fst q2
 obtain rfl := congrArg Prod.snd q2
 exact h
theorem oneO_keep {f : Nat} {ds} {k : Nat} {d r} (hr : r ∈ zAk) (hf : r.f = f) : OrcKeep (oneO f ds k d) := fun g es p q P => (oneO_sat _ q).1.symm ▸ zAv P hr hf
noncomputable def memO (n : Nat) (d : Int) : Orc := oneO 681 [memOp n d] 72 (.lst (shapesM n d))
theorem call_memO {n : Nat} {d : Int} (hn : n < 16) (hd : d ∈ zBk) {k f : Nat} {ds e} (h : callF (memO n d) ft k f ds = some e) : zF k f ds e :=
 ((zBr (oneO_ok (call_mem hn hd)) (oneO_keep mem_fn681 rfl) ft_ok k).c _ _ _ h).1
theorem need_all : (List.range 16).map (fun n => zBk.map fun d => (zY n d).map fun q => callF (memO n d) ft 90 909 [memOp n d, quadD q (hi n)]) = (List.range 16).map fun n => zBk.map fun d => (zY n d).map fun q => some .none := by rfl'
theorem sof_all : (List.range 16).map (fun n => zBk.map fun d => callF (memO n d) ft 90 855 [memOp n d]) = (List.range 16).map fun n => zBk.map fun d => some (.lst (shapesM n d)) := by rfl'
noncomputable abbrev sc904 : zT := (zD r904.st).names
noncomputable def tupE (i : Nat) (e : Expr) : Expr := (kx e).getD i noE
noncomputable def modRun (n : Nat) (ρ : Loc) : Option (List D) := (afterF noO n r904 2 ρ).bind fun ρ2 => (evT noO ft n sc904 ρ2 (stE (stAt r904 2))).bind fun c => gd c (evL noO ft n sc904 ρ2 (kx (tupE 0 (stE (hdS (stB1 (stAt r904 2)))))))
theorem modRun_ok {n : Nat} {a b c d e ds} {L : List UInt8} (h : modRun n [(S' "form", .val a), (S' "reg", .val b), (S' "rm", .val c), (S' "shape", .val d), (S' "begin", .val e)] = some ds) (hc : zF n 688 ds (.bytes L)) : zF (n + 1) 904 [a, b, c, d, e] (.tup [.bytes L, .lst []]) := by
 obtain ⟨ρ2, e2, h⟩ := Option.bind_eq_some_iff.mp h
 obtain ⟨c, e1, h⟩ := Option.bind_eq_some_iff.mp h
 cases c with
 | false => cases h
 | true =>
  have h3 : ExS sc904 ρ2 n ((zG r904.st).drop 2) (.ret (.tup [.bytes L, .lst []])) ρ2 := zAj rfl (ex1_if (c := true) (t_of e1) (zAj rfl (zBy (ev_tuple (zH rfl (zAp mem_fn688 rfl (by rfl') (by rfl') (by rfl') rfl h hc) (zH rfl (ev_own (evo_list zO rfl)) zO)) rfl))))
  exact zR (n := n) (ds := [a, b, c, d, e]) g904 rfl (exs_after zBq zAi e2 @h3) rfl
theorem mod_all (B : D) (num d m r s dw b k0 : Int) : zBt.map (fun k => modRun 69 [(S' "form", .val (zV (zA k) num)), (S' "reg", .val .none), (S' "rm", .val (memX B d)), (S' "shape", .val (shpD m r s dw 0 b)), (S' "begin", .val (.int k0))]) =
  zBt.map fun k => some [shpD m r s dw 0 b, .int (zA k).dig, .int d] := by rfl'
theorem shapesQ_mod (n : Nat) (d : Int) : zY n d = zY (n % 8) d := by
 simp only [zY, lo, Nat.mod_mod]
theorem dig_mem {k : Nat} (hk : k ∈ zBt) : (zA k).dig ∈ digs := by
 simp only [zBt, List.mem_cons, List.not_mem_nil, or_false] at hk
 rcases hk with rfl | rfl | rfl | rfl | rfl | rfl <;> decide
theorem call_lay {n k : Nat} {d b : Int} {q : Quad} (hd : d ∈ zBk) (hq : q ∈ zY n d) (hk : k ∈ zBt) : zF 60 688 [quadD q b, .int (zA k).dig, .int d] (.bytes (layB q (zA k).dig d)) := by
 rw [shapesQ_mod] at hq
 exact call_oL (List.map_inj_left.mp (List.map_inj_left.mp (List.map_inj_left.mp (List.map_inj_left.mp (lay_all b) (n % 8) (List.mem_range.mpr (Nat.mod_lt _ (by decide)))) d hd) q hq) _ (dig_mem hk))
theorem call_mod {n k : Nat} {d b num k0 : Int} {q : Quad} {B} (hd : d ∈ zBk) (hq : q ∈ zY n d) (hk : k ∈ zBt) : zF 70 904 [zV (zA k) num, .none, memX B d, quadD q b, .int k0] (.tup [.bytes (layB q (zA k).dig d), .lst []]) :=
 modRun_ok (List.map_inj_left.mp (mod_all B num d q.1 q.2.1 q.2.2.1 q.2.2.2 b k0) k hk) ((call_lay hd hq hk).up (by decide))
noncomputable def Fb : Nat -> (List UInt8 -> Prop) -> Prop
 | 0, P => P []
 | k + 1, P => ∀ v, Fb k fun vs => P (v :: vs)
theorem len_of : ∀ {k : Nat} {P : List UInt8 -> Prop}, Fb k P -> ∀ L : List UInt8, L.length = k -> P L
 | 0, _, h, L, e => List.length_eq_zero_iff.mp e ▸ h
 | k + 1, P, h, L, e => by
  cases L with
  | nil => cases e
  | cons v L => exact len_of (h v) L (Nat.succ.inj e)
noncomputable def wOK (q : Quad) : Bool := q.2.2.2 == 0 || (q.2.2.2 == 1 || q.2.2.2 == 4)
theorem quad_all {n : Nat} {d : Int} : ∀ q, q ∈ zY n d -> wOK q = true := all_app (all_app (all_app (all_app (all_app (all_ite rfl) (all_ite rfl)) (all_ite rfl)) (all_ite rfl)) (all_ite rfl)) fun q hq => List.mem_singleton.mp hq ▸ rfl
theorem quad_w {n : Nat} {d : Int} {q : Quad} (hq : q ∈ zY n d) : q.2.2.2 = 0 ∨ q.2.2.2 = 1 ∨ q.2.2.2 = 4 :=
 ((Bool.or_eq_true _ _).mp (quad_all q hq)).imp beq_iff_eq.mp fun h => ((Bool.or_eq_true _ _).mp h).imp beq_iff_eq.mp beq_iff_eq.mp
theorem layB_eq {q : Quad} {g d : Int} (h : q.2.2.2 = 0 ∨ q.2.2.2 = 1 ∨ q.2.2.2 = 4) : (layB q g d).length = 1 + (if decide (0 ≤ q.2.2.1) = true then 1 else 0) + q.2.2.2.toNat := by
 obtain ⟨a, b, c, e⟩ := q
 show ([_] ++ (if decide (0 ≤ c) = true then [zAt c] else []) ++ (if (e == 0) = true then [] else if (e == 1) = true then leB 1 d else leB 4 d)).length = 1 + (if decide (0 ≤ c) = true then 1 else 0) + e.toNat
 rw [List.length_append, List.length_append]
 have h1 : (if decide (0 ≤ c) = true then [zAt c] else []).length = if decide (0 ≤ c) = true then 1 else 0 := by cases decide (0 ≤ c) <;> rfl
 rw [h1]
 rcases h with h | h | h
 ·rw [show e = 0 from h]; rfl
 ·rw [show e = 1 from h]; rfl
 ·rw [show e = 4 from h]; rfl
theorem quad_len {n : Nat} {d g : Int} {q : Quad} (hq : q ∈ zY n d) : (layB q g d).length ∈ lens := by
 have h := quad_w hq
 rw [layB_eq h]
 cases decide (0 ≤ q.2.2.1) <;> rcases h with h | h | h <;> rw [h] <;> decide
theorem bs6_of {L : List UInt8} (h : L.length ∈ lens) : ∃ x0 x1 x2 x3 x4 x5 l, l ∈ lens ∧ L = bs6 x0 x1 x2 x3 x4 x5 l := by
 refine ⟨L.getD 0 0, L.getD 1 0, L.getD 2 0, L.getD 3 0, L.getD 4 0, L.getD 5 0, L.length, h, ?_⟩
 have : ∀ l, l ∈ lens -> ∀ L : List UInt8, L.length = l -> L = bs6 (L.getD 0 0) (L.getD 1 0) (L.getD 2 0) (L.getD 3 0) (L.getD 4 0) (L.getD 5 0) l := by
  simp only [lens, List.forall_mem_cons]
  exact ⟨len_of fun _ => rfl, len_of fun _ _ => rfl, len_of fun _ _ _ => rfl, len_of fun _ _ _ _ _ => rfl, len_of fun _ _ _ _ _ _ => rfl, fun _ h => nomatch h⟩
 exact this _ h L rfl
theorem hi_mem (n : Nat) : hi n ∈ ([0, 1] : List Int) := by
 unfold hi
 split
 ·exact .tail _ (.head _)
 ·exact .head _
theorem call_encM {n k : Nat} {d num w : Int} {q : Quad} (hn : n < 16) (hd : d ∈ zBk) (hq : q ∈ zY n d) (hk : k ∈ zBt) :
  zF 96 924 [zV (zA k) num, zAn (memOp n d) (immOp w), quadD q (hi n)] (encM (zA k) num (hi n) w (layB q (zA k).dig d) (quadD q (hi n))) := by
 obtain ⟨x0, x1, x2, x3, x4, x5, l, hl, hL⟩ := bs6_of (quad_len (g := (zA k).dig) hq)
 have h := List.map_inj_left.mp (List.map_inj_left.mp (List.map_inj_left.mp (encM_some (reg64 n) num w d q.1 q.2.1 q.2.2.1 q.2.2.2 x0 x1 x2 x3 x4 x5) _ (hi_mem n)) k hk) l hl
 rw [← hL] at h
 refine memEnc_ok h ?_ ((call_mod hd hq hk).up (by decide))
 exact (call_memO hn hd (List.map_inj_left.mp (List.map_inj_left.mp (List.map_inj_left.mp need_all n (List.mem_range.mpr hn)) d hd) q hq)).up (by decide)
theorem call_encM0 {n k : Nat} {d num w : Int} {q : Quad} {qs : List Quad} (hn : n < 16) (hd : d ∈ zBk) (hq : zY n d = q :: qs) (hk : k ∈ zBt) :
  zF 96 924 [zV (zA k) num, zAn (memOp n d) (immOp w), .none] (encM (zA k) num (hi n) w (layB q (zA k).dig d) (quadD q (hi n))) := by
 have hq' : q ∈ zY n d := by rw [hq]; exact .head _
 obtain ⟨x0, x1, x2, x3, x4, x5, l, hl, hL⟩ := bs6_of (quad_len (g := (zA k).dig) hq')
 have h := List.map_inj_left.mp (List.map_inj_left.mp (List.map_inj_left.mp (encM_none (reg64 n) num w d q.1 q.2.1 q.2.2.1 q.2.2.2 x0 x1 x2 x3 x4 x5) _ (hi_mem n)) k hk) l hl
 rw [← hL] at h
 refine memEnc_ok h ?_ ((call_mod hd hq' hk).up (by decide))
 have h2 := List.map_inj_left.mp (List.map_inj_left.mp sof_all n (List.mem_range.mpr hn)) d hd
 have h3 : shapesM n d = quadD q (hi n) :: qs.map fun q => quadD q (hi n) := by unfold shapesM; rw [hq]; rfl
 rw [h3] at h2
 exact ⟨_, (call_memO hn hd h2).up (by decide)⟩
theorem call_run {n : Nat} {a b c d} (h : runK litO n r924 5 (encL a b c) = some d) : zF (n + 1) 924 [a, b, c] d := by
 obtain ⟨fl, ρ', h1, h2⟩ := runK_ok litO_ok litO_keep h
 exact zR (n := n) (ds := [a, b, c]) g924 rfl h1 h2
noncomputable def okR (k1 : String) (n : Nat) : Bool := !(k1 == "eax") || Nat.beq n 0
theorem encR_run {k n : Nat} {num w : Int} (hk : k < 9) (hn : n < 16) (h : okR (zA k).k1 n = true) : runK litO 69 r924 5 (encL (zV (zA k) num) (zAn (regOp (reg32 n)) (immOp w)) .none) = some (encR (zA k) num n w) := by
 by_cases h4 : k = 4
 ·subst h4
  have hn0 : n = 0 := by
   have h' : (false || Nat.beq n 0) = true := h
   exact Nat.eq_of_beq_eq_true (by simpa using h')
  subst hn0
  exact enc_eax num w
 ·exact List.map_inj_left.mp (List.map_inj_left.mp (enc_none num w) k ((by decide : ∀ k < 9, k ≠ 4 -> k ∈ ([0, 1, 2, 3, 5, 6, 7, 8] : List Nat)) k hk h4)) n (List.mem_range.mpr hn)
theorem call_encR {k n : Nat} {num w : Int} (hk : k < 9) (hn : n < 16) (h : okR (zA k).k1 n = true) : zF 70 924 [zV (zA k) num, zAn (regOp (reg32 n)) (immOp w), .none] (encR (zA k) num n w) := call_run (encR_run hk hn h)
theorem call_encRS {k n : Nat} {num w : Int} (hk : k ∈ zBt) (hn : n < 16) : zF 70 924 [zV (zA k) num, zAn (regOp (reg32 n)) (immOp w), shpR n] (encR (zA k) num n w) :=
 call_run (List.map_inj_left.mp (List.map_inj_left.mp (enc_some num w) k hk) n (List.mem_range.mpr hn))
noncomputable def zAo : List Int := [1, 5, 0, 127, 128, -1, -128, -129, 255, 256, 4294967295, 4294967168, 4294967167, 2147483648, -2147483648, 4294967296, -2147483649]
noncomputable def bearsT (k2 : String) (w : Int) : Option (List UInt8) :=
 if k2 == "one" then (if decide (w = 1) then some [] else none)
 else if k2 == "uimm8" then (if decide (0 ≤ w) && decide (w < 256) then some [zAt w] else none)
 else if !(decide (-2147483648 ≤ w) && decide (w < 4294967296)) then none
 else
  let low := if decide (0 ≤ w) then w else 4294967296 + w
  if k2 == "simm8" then (if decide (low < 128) || decide (4294967168 ≤ low) then some [zAt (Builtin.bitAnd low 255)] else none)
  else some (leB 4 low)
noncomputable def kinds2 : List String := ["one", "uimm8", "simm8", "imm32"]
theorem takes_imm : kinds2.map (fun k => zAo.map fun w => callF noO ft 60 199 [strD k, immOp w, .int 32]) = kinds2.map fun k => zAo.map fun w => some (.bool (bearsT k w).isSome) := by rfl'
theorem tails_eq : kinds2.map (fun k => zAo.map fun w => (bearsT k w).getD (tailB k w)) = kinds2.map fun k => zAo.map fun w => tailB k w := by rfl'
theorem takes_reg : ["o32", "rm32", "eax"].map (fun k => (List.range 16).map fun n => callF noO ft 60 199 [strD k, regOp (reg32 n), .int 32]) = ["o32", "rm32", "eax"].map fun k => (List.range 16).map fun n => some (.bool (okR k n)) := by rfl'
theorem takes_mem (B : D) (d : Int) : ["o32", "rm32", "eax"].map (fun k => callF noO ft 60 199 [strD k, memX B d, .int 32]) = ["o32", "rm32", "eax"].map fun k => some (.bool (k == "rm32")) := by rfl'
noncomputable abbrev sc268 : zT := (zD r268.st).names
theorem body268 : zG r268.st = [stAt r268 0, stAt r268 1, stAt r268 2] := by rfl'
theorem mat_bind {A B r} {num : Int} {b1 b2 : Bool} (h1 : zF 70 199 [strD r.k1, A, .int 32] (.bool b1)) (h2 : zF 70 199 [strD r.k2, B, .int 32] (.bool b2)) : zF 71 268 [zV r num, zAn A B] (.bool (b1 && b2)) := by
 have t : ∀ {k X} {b : Bool}, zF 70 199 [k, X, .int 32] (.bool b) -> ∀ ρ, ρ = [(S' "form", .val (zV r num)), (S' "instruction", .val (zAn A B)), (S' "kind", .val k), (S' "operand", .val X)] -> ∃ fl : Fl, fl = (if b then .next else .ret (.bool false)) ∧ ExS sc268 ρ 70 (stB1 (stAt r268 1)) fl ρ := fun {k X b} h ρ hρ => by
  subst hρ
  refine ⟨_, rfl, ?_⟩
  cases b with
  | true => exact zK (ex1_if (c := false) (evT_not (a := true) (evT_plain rfl (zAp (ds := [k, X, .int 32]) mem_fn199 rfl (by rfl') (by rfl') (by rfl') rfl (by rfl') h))) zAh) zAh
  | false => exact zAj rfl (ex1_if (c := true) (evT_not (a := false) (evT_plain rfl (zAp (ds := [k, X, .int 32]) mem_fn199 rfl (by rfl') (by rfl') (by rfl') rfl (by rfl') h))) (zAj rfl (zBy (zAb rfl))))
 obtain ⟨_, rfl, x1⟩ := t h1 _ rfl
 obtain ⟨_, rfl, x2⟩ := t h2 _ rfl
 have key : ∃ ρ', ExS sc268 [(S' "form", .val (zV r num)), (S' "instruction", .val (zAn A B))] 70 (zG r268.st) (.ret (.bool (b1 && b2))) ρ' := by
  rw [body268]
  have s0 : Ex1 sc268 [(S' "form", .val (zV r num)), (S' "instruction", .val (zAn A B))] 70 (stAt r268 0) .next [(S' "form", .val (zV r num)), (S' "instruction", .val (zAn A B))] := s1_of (by rfl')
  cases b1 with
  | false => exact ⟨_, zK @s0 (zAj rfl (zCe (by rfl') (by rfl') (by rfl') rfl (l_of (ds := [.tup [strD r.k1, strD r.k2], .tup [A, B]]) (by rfl')) rfl (.ret (by rfl') @x1)))⟩
  | true =>
   cases b2 with
   | false => exact ⟨_, zK @s0 (zAj rfl (zCe (by rfl') (by rfl') (by rfl') rfl (l_of (ds := [.tup [strD r.k1, strD r.k2], .tup [A, B]]) (by rfl')) rfl (.next (by rfl') @x1 (.inl rfl) (.ret (by rfl') @x2))))⟩
   | true => exact ⟨_, zK @s0 (zK (zCe (by rfl') (by rfl') (by rfl') rfl (l_of (ds := [.tup [strD r.k1, strD r.k2], .tup [A, B]]) (by rfl')) rfl (.next (by rfl') @x1 (.inl rfl) (.next (by rfl') @x2 (.inl rfl) .nil))) (zAj rfl (zBy (zAb rfl))))⟩
 obtain ⟨ρ', key⟩ := key
 exact zR (n := 70) (ds := [zV r num, zAn A B]) g268 rfl @key rfl
theorem row_k {k : Nat} (hk : k < 9) : (zA k).k1 ∈ ["o32", "rm32", "eax"] ∧ (zA k).k2 ∈ kinds2 := by
 have : ∀ k ∈ List.range 9, (zA k).k1 ∈ ["o32", "rm32", "eax"] ∧ (zA k).k2 ∈ kinds2 := by
  intro k hk
  simp only [List.range, List.range.loop, List.mem_cons, List.not_mem_nil, or_false] at hk
  rcases hk with rfl | rfl | rfl | rfl | rfl | rfl | rfl | rfl | rfl <;> simp [zA, pool, kinds2]
 exact this k (List.mem_range.mpr hk)
noncomputable def fitR (r : Row) (n : Nat) (w : Int) : Bool := okR r.k1 n && (bearsT r.k2 w).isSome
noncomputable def fitM (r : Row) (w : Int) : Bool := r.k1 == "rm32" && (bearsT r.k2 w).isSome
theorem call_takesI {k : Nat} {w : Int} (hk : k < 9) (hw : w ∈ zAo) : zF 60 199 [strD (zA k).k2, immOp w, .int 32] (.bool (bearsT (zA k).k2 w).isSome) :=
 call_of (List.map_inj_left.mp (List.map_inj_left.mp takes_imm _ (row_k hk).2) w hw)
theorem call_matR {k n : Nat} {num w : Int} (hk : k < 9) (hn : n < 16) (hw : w ∈ zAo) : zF 71 268 [zV (zA k) num, zAn (regOp (reg32 n)) (immOp w)] (.bool (fitR (zA k) n w)) :=
 mat_bind ((call_of (List.map_inj_left.mp (List.map_inj_left.mp takes_reg _ (row_k hk).1) n (List.mem_range.mpr hn))).up (by decide)) ((call_takesI hk hw).up (by decide))
theorem call_matM {k n : Nat} {num w d : Int} (hk : k < 9) (hw : w ∈ zAo) : zF 71 268 [zV (zA k) num, zAn (memOp n d) (immOp w)] (.bool (fitM (zA k) w)) :=
 mat_bind ((call_of (List.map_inj_left.mp (takes_mem (reg64 n) d) _ (row_k hk).1)).up (by decide)) ((call_takesI hk hw).up (by decide))
theorem shfArgs_ok {a b d x} (h : evL noO ft 95 (zD r862.st).names [(S' "form", .val a), (S' "instruction", .val b)] (kx (stE (stAt r862 0))) = some [x]) (hc : zF 95 855 [x] d) : zF 96 862 [a, b] d := by
 have hb : zG r862.st = [stAt r862 0] := by rfl'
 have key : ExS (zD r862.st).names [(S' "form", .val a), (S' "instruction", .val b)] 95 (zG r862.st) (.ret d) [(S' "form", .val a), (S' "instruction", .val b)] := by
  rw [hb]
  exact zAj rfl (zBy (zAp mem_fn855 rfl (by rfl') (by rfl') (by rfl') rfl h hc))
 exact zR (n := 95) (ds := [a, b]) g862 rfl @key rfl
theorem shf_all (A B : D) (num : Int) : (List.range 9).map (fun k => evL noO ft 95 (zD r862.st).names [(S' "form", .val (zV (zA k) num)), (S' "instruction", .val (zAn A B))] (kx (stE (stAt r862 0)))) = (List.range 9).map fun k => some [if (zA k).k1 == "rm32" then A else .none] := by rfl'
theorem sof_reg : (List.range 16).map (fun n => callF noO ft 60 855 [regOp (reg32 n)]) = (List.range 16).map fun n => some (.lst [shpR n]) := by rfl'
theorem sof_none : callF noO ft 60 855 [.none] = some (.lst [.none]) := by rfl'
theorem call_shfR {k n : Nat} {num w : Int} (hk : k < 9) (hn : n < 16) : zF 96 862 [zV (zA k) num, zAn (regOp (reg32 n)) (immOp w)] (.lst [regShape (zA k) n]) := by
 have h := List.map_inj_left.mp (shf_all (regOp (reg32 n)) (immOp w) num) k (List.mem_range.mpr hk)
 refine shfArgs_ok h ?_
 unfold regShape
 by_cases q : ((zA k).k1 == "rm32") = true
 ·rw [if_pos q, if_pos q]
  exact (call_of (List.map_inj_left.mp sof_reg n (List.mem_range.mpr hn))).up (by decide)
 ·rw [if_neg q, if_neg q]
  exact (call_of sof_none).up (by decide)
theorem call_shfM {k n : Nat} {num w d : Int} (hk : k < 9) (hk2 : ((zA k).k1 == "rm32") = true) (hn : n < 16) (hd : d ∈ zBk) : zF 96 862 [zV (zA k) num, zAn (memOp n d) (immOp w)] (.lst (shapesM n d)) := by
 have h := List.map_inj_left.mp (shf_all (memOp n d) (immOp w) num) k (List.mem_range.mpr hk)
 rw [if_pos hk2] at h
 exact shfArgs_ok h ((call_memO hn hd (List.map_inj_left.mp (List.map_inj_left.mp sof_all n (List.mem_range.mpr hn)) d hd)).up (by decide))
theorem ex1_try {sc ρ ρ'} {n : Nat} {body orelse} {h : ExceptHandler} {hs : List ExceptHandler} {pos d} (hx : ExS sc ρ n body (.ret d) ρ') : Ex1 sc ρ n (.Try body (h :: hs) orelse [] pos) (.ret d) ρ' := by
 intro prog w A env h₀ L s m ko led news Q hs' hl Si S K
 refine wpAny_Try_except ?_
 refine wpAny_mono (hx prog w A env h₀ L s m ko led news _ hs' hl Si S fun f h' tk m' led' news' S' i hf => ?_) (fun _ _ h => h) (fun _ _ e => e.elim)
 obtain ⟨v, rfl, r⟩ := hf
 exact K (.ret v) h' tk m' led' news' S' i ⟨v, rfl, r⟩
theorem call_tried {a b c d} (h : zF 96 924 [a, b, c] d) : zF 97 943 [a, b, c] d := by
 have hb : zG r943.st = [stAt r943 0] := by rfl'
 have key : ExS (zD r943.st).names (encL a b c) 96 (zG r943.st) (.ret d) (encL a b c) := by
  rw [hb]
  exact zAj rfl (ex1_try (zAj rfl (zBy (zAp (ds := [a, b, c]) mem_fn924 rfl (by rfl') (by rfl') (by rfl') rfl (by rfl') h))))
 exact zR (n := 96) (ds := [a, b, c]) g943 rfl @key rfl
theorem som_reg (fs : List D) (A : D) (w : Int) : callF noO ft 60 931 [.lst fs, zAn (regOp A) (immOp w)] = some (.lst []) := by rfl'
theorem som_mem (fs : List D) (B : D) (w d : Int) : callF noO ft 60 931 [.lst fs, zAn (memX B d) (immOp w)] = some (.lst []) := by rfl'
theorem ev_dget {sc ρ} {n : Nat} {o k e att apos pos x d dd} (ho : EvE sc ρ n o (.dict [x] [d])) (hk : EvE sc ρ n k (.str x)) (he : EvE sc ρ n e dd) (ha : isNm att "get" = true) (hok : zCf o apos pos [k, e] = true) :
  EvE sc ρ n (.Call (.Attribute o att apos) [k, e] [] pos) d := by
 intro prog w A env h₀ L s m ko led news Q E hs Si S K
 obtain rfl := zW.mp ha
 have hst : zP k = true ∧ zP e = true := and2 (methOK_all hok) fun a h => and2 h fun b _ => ⟨a, b⟩
 refine MethodCall_ (ho prog w A env h₀ L s m ko led news _ E hs Si S fun v h' tk led' news' S' i r => ?_) (meth_eq hok)
 have r : R led' (.dict [x] [d]) v := r
 obtain ⟨a, es, c, vs, rfl, hm, ⟨ke, hh, lo⟩, rfl, rr⟩ := r
 cases es with
 | nil => exact absurd (show [x] = [] from ke) (by simp)
 | cons e1 r1 =>
  obtain ⟨n0, r0, e0, ⟨t0, hk0⟩, ke1⟩ := ke
  cases e0
  cases r1 with
  | cons e2 r2 => obtain ⟨_, _, e3, _⟩ := ke1; cases e3
  | nil =>
   obtain ⟨v1, t1, ev1, rd, _⟩ : ∃ v1 t1, [e1.val] = v1 :: t1 ∧ R led' d v1 ∧ Rs led' [] t1 := by
    have rr : Rs led' [d] [e1.val] := rr
    exact rr
   cases ev1
   have his : (strKind prog w).is x e1.key = true := by rw [hk0]; exact kdS_is (prog := prog) (led := led') ⟨t0, rfl⟩
   have hdict : (dictOf [e1] c).IsDictOf (strKind prog w) [(x, e1.val)] := ⟨#[e1], c, ⟨rfl, rfl, rfl⟩, rfl, (fun e he => ⟨x, by
    have : e = e1 := by simpa using he
    subst this
    exact ⟨his, (hh e (.head _) x t0 hk0).trans (Si.hs x)⟩⟩), .cons his rfl .nil, by simp⟩
   refine kdg_method (s := (sw s h' tk)) S'.N (S'.sub _ hm) hdict ?_
   refine callWith_method1 (zH hst.1 hk (zH hst.2 he zO) prog w A env h₀ L _ m ko led' news' _ E pos hs Si S' fun vs h2 tk2 led2 news2 S2 i2 r2 => ?_) (zB hst.1) (by rw [zAr]; exact zAa (by simp [hst.2]))
   obtain ⟨vk, r3, rfl, rk, r2⟩ := r2
   obtain ⟨vd, rfl, _⟩ := Rs.inv1 r2
   obtain ⟨u, rfl⟩ := zAf rk
   exact kdg_get2 (s := (sw s h2 tk2)) S2.N (S2.sub _ (i2 _ hm)) hdict lo (kdS_is (prog := prog) (led := led') ⟨u, rfl⟩) (some e1.val) (by simp [valueAt]) (K _ h2 _ led2 news2 S2 (Inc.trans i i2) (R.mono i2 rd))
theorem body1000 : zG r1000.st = [stAt r1000 0] := by rfl'
theorem call_find {rs} (hl : (fsD 0 rs).length ≤ 100) : zF 2 1000 [isetD rs, strD "deed"] (.lst (fsD 0 rs)) := by
 have key : ExS (zD r1000.st).names [(S' "self", .val (isetD rs)), (S' "name", .val (.str deed))] 1 (zG r1000.st) (.ret (.lst (fsD 0 rs))) [(S' "self", .val (isetD rs)), (S' "name", .val (.str deed))] := by
  rw [body1000]
  exact zAj rfl (zBy (ev_own (evo_list_of (d := .lst (fsD 0 rs)) (by rfl') (by rfl') (by rfl') rfl (ev_dget (x := deed) (dd := .lst []) (ev_attr rfl (zJ (d := isetD rs) (by rfl') (by rfl')) (by rfl') (by rfl')) (zJ (by rfl') (by rfl')) (ev_own (evo_list zO rfl)) (by rfl') (by rfl')) rfl (Nat.ble_eq_true_of_le (by lia)))))
 exact zR (n := 1) (ds := [isetD rs, strD "deed"]) g1000 rfl key rfl
theorem swap_true {sc env x px cpos elt} {gens : List Comprehension} {scope} {l : Nat} (hs : env.scope.names = sc) (hk : env.scope.kind = .function) (hx : zAu sc x = true) (hl : (px.line == cpos.line) = true) (hn : (scope.names.any fun p => p.1 == x && (p.2 == .local || p.2 == .cell)) = false) :
  swapsWith (.ListComp elt gens scope cpos) (some (.Name x px)) l env = pure true := by
 have h1 := zL hs hx
 unfold swapsWith
 simp only [Env.blockKind, hk, h1]
 have : ((Expr.ListComp elt gens scope cpos).pos.line) = cpos.line := rfl
 rw [this, hl, hn]
 rfl
section
variable {n : Nat} {sc : zT} {ρ : Loc}
theorem len_if {v ds lp vp cp zp p q} {k : Nat} {b} (c1 : zZ sc (S' "len") = true) (c4 : zM v = true) (hv : fnd v ρ = some (.val (.lst ds))) (hne : ds ≠ []) (hl : ds.length ≤ 10000) : Ex1 sc ρ (n + 1) (.If (.Compare (.Call (.Name (S' "len") lp) [.Name v vp] [] cp) [.Eq] [.Constant (.int (.ofNat 0)) k zp] p) b [] q) .next ρ := by
 have hlen : lenD (.lst ds) = some ds.length := rfl
 refine ex1_if (c := false) (evT_cmp1 rfl (zAx c1 (by rfl') (by rfl') rfl rfl (zH rfl (zJ hv c4) zO) (blt_len hlen (Nat.ble_eq_true_of_le (by lia)))) (zAb (d := .int 0) rfl) ?_) zAh
 cases ds with
 | nil => exact absurd rfl hne
 | cons a r => exact congrArg some (beq_false_of_ne (by simp only [List.length_cons]; lia))
noncomputable def keepF : List (D × Bool) -> List D
 | [] => []
 | (d, true) :: r => d :: keepF r
 | (_, false) :: r => keepF r
theorem cp_keep {t elt c} {ρ1 : D -> Loc} (h1 : ∀ f, bindT sc t f ρ = some (ρ1 f)) (h3 : ∀ f, EvE sc (ρ1 f) n elt f) : ∀ {l : List (D × Bool)}, (∀ p ∈ l, EvT sc (ρ1 p.1) n c p.2) -> Cp sc n t elt [c] ρ (l.map (·.1)) (keepF l)
 | [], _ => .nil
 | (f, true) :: r, h2 => .keep (h1 f) (fun c' hc' => by rw [List.mem_singleton.mp hc']; exact h2 _ (.head _)) (h3 f) (cp_keep h1 @h3 fun p hp => h2 p (.tail _ hp))
 | (f, false) :: r, h2 => .drop (h1 f) rfl (h2 _ (.head _)) (cp_keep h1 @h3 fun p hp => h2 p (.tail _ hp))
end
noncomputable abbrev sc936 : zT := (zD r936.st).names
noncomputable abbrev rho936 (a b : D) : Loc := [(S' "iset", .val a), (S' "instruction", .val b)]
noncomputable def st936 (i : Nat) : Stmt := (zG r936.st).getD i noSt
theorem body936 : zG r936.st = [st936 0, st936 1, st936 2, st936 3, st936 4, st936 5] := by rfl'
noncomputable abbrev R1 (is I : D) (fs : List D) : Loc := put (S' "rows") (.val (.lst fs)) (rho936 is I)
noncomputable abbrev R3 (is I : D) (fs outs : List D) : Loc := put (S' "forms") (.val (.lst outs)) (R1 is I fs)
theorem ff1 {rs A B d} (h1 : zF 96 1000 [isetD rs, strD "deed"] d) : Ex1 sc936 (rho936 (isetD rs) (zAn A B)) 96 (st936 0) .next (put (S' "rows") (.val d) (rho936 (isetD rs) (zAn A B))) :=
 zBc (by rfl') rfl (ev_meth (C := 1045) (f := 1000) (ds := [strD "deed"]) (e_of (d := isetD rs) (by rfl')) (by rfl') (by rfl') (fun P => zAv P mem_fn1000 rfl) (by rfl') (l_of (by rfl')) (fun h => nomatch h) h1)
theorem ff2 {is I fs} (hne : fs ≠ []) (hl : fs.length ≤ 10000) : Ex1 sc936 (R1 is I fs) 96 (st936 1) .next (R1 is I fs) := len_if (n := 95) (by rfl') (by rfl') (by rfl') hne hl
theorem ff3 {is A B} {l : List (D × Bool)} (hl : l.length ≤ 10000) (hc : ∀ p ∈ l, zF 96 268 [p.1, zAn A B] (.bool p.2)) : Ex1 sc936 (R1 is (zAn A B) (l.map (·.1))) 96 (st936 2) .next (put (S' "forms") (.own (keepF l)) (R1 is (zAn A B) (l.map (·.1)))) :=
 ex1_assign_comp (by rfl') (by rfl') (by rfl') (by rfl') (.list (ds := l.map (·.1)) rfl (zJ (by rfl') (by rfl'))) (Nat.ble_eq_true_of_le (by simpa using hl)) (fun env hs hk => swap_true hs hk (by rfl') rfl (by rfl'))
  (cp_keep (ρ1 := fun f => [(S' "instruction", .val (zAn A B)), (S' "form", .val f)]) (fun f => by rfl') (fun f => zJ (by rfl') (by rfl')) fun p hp => evT_plain rfl (ev_call (ds := [p.1, zAn A B]) (by rfl') (by rfl') (by rfl') (fun P => zAv P mem_fn268 rfl) rfl (l_of (by rfl')) (hc p hp)))
theorem ff4 {is I fs outs} (hne : outs ≠ []) (hl : outs.length ≤ 10000) : Ex1 sc936 (R3 is I fs outs) 96 (st936 3) .next (R3 is I fs outs) := len_if (n := 95) (by rfl') (by rfl') (by rfl') hne hl
theorem ff5 {is A B fs outs} (h : zF 96 931 [.lst outs, zAn A B] (.lst [])) : Ex1 sc936 (R3 is (zAn A B) fs outs) 96 (st936 4) .next (R3 is (zAn A B) fs outs) :=
 ex1_if (c := false) (evT_cmp1 rfl (zAx (by rfl') (by rfl') (by rfl') rfl rfl (zH rfl (ev_call (ds := [.lst outs, zAn A B]) (by rfl') (by rfl') (by rfl') (fun P => zAv P mem_fn931 rfl) rfl (l_of (by rfl')) h) zO) (blt_len (k := 0) rfl rfl)) (zAb (d := .int 1) rfl) rfl) zAh
theorem ff6 {is I fs outs} : ExS sc936 (R3 is I fs outs) 96 [st936 5] (.ret (.lst outs)) (R3 is I fs outs) := zAj rfl (zBy (zJ (by rfl') (by rfl')))
theorem call_ff {rs A B} {l : List (D × Bool)} (hl : l.length ≤ 100) (hne : l ≠ []) (hk : keepF l ≠ []) (hkl : (keepF l).length ≤ 100) (h1 : zF 96 1000 [isetD rs, strD "deed"] (.lst (l.map (·.1)))) (hc : ∀ p ∈ l, zF 96 268 [p.1, zAn A B] (.bool p.2)) (h5 : zF 96 931 [.lst (keepF l), zAn A B] (.lst [])) :
  zF 97 936 [isetD rs, zAn A B] (.lst (keepF l)) := by
 have key : ExS sc936 (rho936 (isetD rs) (zAn A B)) 96 (zG r936.st) (.ret (.lst (keepF l))) (R3 (isetD rs) (zAn A B) (l.map (·.1)) (keepF l)) := by
  rw [body936]
  refine zK (ff1 h1) (zK (ff2 (by simpa using hne) (by simp; lia)) (zK (ff3 (by lia) hc) (zK (zCd (x := S' "forms") (by rw [zN, zI]; rfl) ?_) (zK (ff5 h5) ff6))))
  rw [put_put]
  exact ff4 hk (by lia)
 exact call_of_bodyC (y := S' "instruction") (n := 96) (ds := [isetD rs, zAn A B]) mem_fn936 (by rfl') (by rfl') (by rfl') b936 rfl (by rfl') rfl (fun n => by rfl') (by rfl') (by rfl') key.bodyC rfl
theorem body950 : zG r950.st = [stAt r950 0] := by rfl'
theorem call_need {rows b} (h : rows ≠ []) (hl : rows.length ≤ 10000) : zF 97 950 [.lst rows, b] .none := by
 have key : ExS (zD r950.st).names [(S' "rows", .val (.lst rows)), (S' "refusals", .val b)] 96 (zG r950.st) .next [(S' "rows", .val (.lst rows)), (S' "refusals", .val b)] := by
  rw [body950]
  exact zK (len_if (n := 95) (by rfl') (by rfl') (by rfl') h hl) zAh
 exact zR (n := 96) (ds := [.lst rows, b]) g950 rfl key rfl
noncomputable def lensM (n : Nat) (d : Int) : List Int := (zY n d).map fun q => 1 + (if decide (0 ≤ q.2.2.1) then 1 else 0) + q.2.2.2
theorem lens_all : (List.range 16).map (fun n => zBk.map fun d => callF noO ft 60 1164 [.int (n : Nat), .int d]) = (List.range 16).map fun n => zBk.map fun d => some (.lst ((lensM n d).map D.int)) := by rfl'
noncomputable abbrev sc955 : zT := (zD r955.st).names
noncomputable def encFor : List Stmt := stB1 (stAt r955 1)
noncomputable def encIn : List Stmt := stB1 (encFor.headD noSt)
noncomputable def rowT (oct : List UInt8) (num : Int) (p : Nat) (f sh : D) : D := .tup [.int (oct.length : Nat), .int num, .int (p : Nat), encD oct f sh]
theorem zE {α : Type} {x y} {l : α} {ρ : List (Str × α)} (h : eqS y x = false) : fnd y (put x l ρ) = fnd y ρ := by rw [zN, h]; rfl
theorem enc_body {n : Nat} {ρ r} {num : Int} {I sh} {p : Nat} {oct : List UInt8} {acc} (hf : fnd (S' "form") ρ = some (.val (zV r num))) (hI : fnd (S' "instruction") ρ = some (.val I)) (hp : fnd (S' "place") ρ = some (.val (.int (p : Nat)))) (hsh : fnd (S' "shape") ρ = some (.val sh))
  (hr : fnd (S' "rows") ρ = some (.own acc)) (hl : acc.length ≤ 1000) (ho : oct.length ≤ 1000) (hc : zF (n + 1) 943 [zV r num, I, sh] (encD oct (zV r num) sh)) :
  ExS sc955 ρ (n + 1) encIn .next (put (S' "rows") (.own (acc ++ [rowT oct num p (zV r num) sh])) (put (S' "made") (.val (encD oct (zV r num) sh)) ρ)) := by
 have hm : ∀ ρ : Loc, fnd (S' "made") (put (S' "made") (.val (encD oct (zV r num) sh)) ρ) = some (.val (encD oct (zV r num) sh)) := fun ρ => by rw [zN, zI]; rfl
 have hf' : fnd (S' "form") (put (S' "made") (.val (encD oct (zV r num) sh)) ρ) = some (.val (zV r num)) := (zE (by rfl')).trans hf
 have hp' : fnd (S' "place") (put (S' "made") (.val (encD oct (zV r num) sh)) ρ) = some (.val (.int (p : Nat))) := (zE (by rfl')).trans hp
 have hr' : fnd (S' "rows") (put (S' "made") (.val (encD oct (zV r num) sh)) ρ) = some (.own acc) := (zE (by rfl')).trans hr
 have hlen : lenD (.bytes oct) = some oct.length := rfl
 refine zK (zBc (by rfl') rfl (ev_call (by rfl') (by rfl') (by rfl') (fun P => zAv P mem_fn943 rfl) rfl (zH rfl (zJ hf (by rfl')) (zH rfl (zJ hI (by rfl')) (zH rfl (zJ hsh (by rfl')) zO))) hc)) (zK (ex1_if (c := true) (evT_plain rfl (ev_isinst (C := 837) (by rfl') (by rfl') (by rfl') rfl (zJ (hm ρ) (by rfl')) (by rfl') (by rfl') (by rfl'))) (zK (ex1_append hr' (by rfl') (by rfl') (Nat.ble_eq_true_of_le (by lia)) rfl (by rfl') (ev_tuple (zH rfl (zAx (by rfl') (by rfl') (by rfl') rfl rfl (zH rfl (ev_attr rfl (zJ (hm ρ) (by rfl')) (by rfl') (by rfl')) zO) (blt_len hlen (Nat.ble_eq_true_of_le (by lia)))) (zH rfl (ev_attr rfl (zJ hf' (by rfl')) (by rfl') (by rfl')) (zH rfl (zJ hp' (by rfl')) (zH rfl (zJ (hm ρ) (by rfl')) zO)))) rfl)) zAh)) zAh)
structure InvE (is I : D) (ρ : Loc) (acc : List D) : Prop where
 i : fnd (S' "iset") ρ = some (.val is)
 l : fnd (S' "instruction") ρ = some (.val I)
 r : fnd (S' "rows") ρ = some (.own acc)
 f : fnd (S' "refusals") ρ = some (.own [])
theorem InvE.put {is I ρ acc} (v : InvE is I ρ acc) {x} {lv : LV} (h1 : eqS (S' "iset") x = false) (h2 : eqS (S' "instruction") x = false) (h3 : eqS (S' "rows") x = false) (h4 : eqS (S' "refusals") x = false) : InvE is I (put x lv ρ) acc :=
 ⟨(zE h1).trans v.i, (zE h2).trans v.l, (zE h3).trans v.r, (zE h4).trans v.f⟩
noncomputable def rowsOf (num : Int) (f : D) : Nat -> List (D × List UInt8) -> List D
 | _, [] => []
 | p, (sh, oct) :: t => rowT oct num p f sh :: rowsOf num f (p + 1) t
theorem rowsOf_len {num : Int} {f} : ∀ {l : List (D × List UInt8)} {p : Nat}, (rowsOf num f p l).length = l.length
 | [], _ => rfl
 | _ :: t, _ => by simp [rowsOf, rowsOf_len (l := t)]
theorem enc_loop {elts} {n : Nat} {r} {num : Int} {is I} (he : ∃ p1 p2, elts = [.Name (S' "place") p1, .Name (S' "shape") p2]) :
  ∀ {l : List (D × List UInt8)} {p : Nat} {ρ acc}, InvE is I ρ acc -> fnd (S' "form") ρ = some (.val (zV r num)) -> acc.length + l.length ≤ 1000 -> (∀ q ∈ l, q.2.length ≤ 1000 ∧ zF (n + 1) 943 [zV r num, I, q.1] (encD q.2 (zV r num) q.1)) ->
  ∃ ρ', Lt sc955 (n + 1) elts encIn ρ (zAy p (l.map (·.1))) .next ρ' ∧ InvE is I ρ' (acc ++ rowsOf num (zV r num) p l)
 | [], p, ρ, acc, v, hf, hl, hc => ⟨ρ, .nil, by simpa [rowsOf] using v⟩
 | (sh, oct) :: t, p, ρ, acc, v, hf, hl, hc => by
  obtain ⟨p1, p2, rfl⟩ := he
  have h0 := hc (sh, oct) (.head _)
  have v1 : InvE is I (put (S' "shape") (.val sh) (put (S' "place") (.val (.int (p : Nat))) ρ)) acc := (v.put (by rfl') (by rfl') (by rfl') (by rfl')).put (by rfl') (by rfl') (by rfl') (by rfl')
  have hf1 : fnd (S' "form") (put (S' "shape") (.val sh) (put (S' "place") (.val (.int (p : Nat))) ρ)) = some (.val (zV r num)) := ((zE (by rfl')).trans (zE (by rfl'))).trans hf
  have hx := enc_body (n := n) hf1 v1.l ((zE (by rfl')).trans (by rw [zN, zI]; rfl)) (by rw [zN, zI]; rfl) v1.r (by simp at hl; lia) h0.1 h0.2
  generalize hρ : put (S' "shape") (.val sh) (put (S' "place") (.val (.int (p : Nat))) ρ) = ρ1 at v1 hf1 hx
  have v2 : InvE is I (put (S' "rows") (.own (acc ++ [rowT oct num p (zV r num) sh])) (put (S' "made") (.val (encD oct (zV r num) sh)) ρ1)) (acc ++ [rowT oct num p (zV r num) sh]) :=
   have w := v1.put (x := S' "made") (lv := .val (encD oct (zV r num) sh)) (by rfl') (by rfl') (by rfl') (by rfl')
   ⟨(zE (by rfl')).trans w.i, (zE (by rfl')).trans w.l, by rw [zN, zI]; rfl, (zE (by rfl')).trans w.f⟩
  obtain ⟨ρ', lt, v3⟩ := enc_loop ⟨p1, p2, rfl⟩ (p := p + 1) v2 ((zE (by rfl')).trans ((zE (by rfl')).trans hf1)) (by simp at hl ⊢; lia) fun q hq => hc q (.tail _ hq)
  refine ⟨ρ', .next ?_ hx (.inl rfl) lt, by simpa [rowsOf] using v3⟩
  show zBw sc955 _ _ _ = _
  rw [← hρ]
  exact bind2 (by rfl') (by rfl')
end
end Mine
end
section
open PySem PySem.W PyProof.Rows PySem.Calls PyProof PySem.SeqAt
set_option Elab.async false
set_option maxRecDepth 100000
set_option linter.all false
set_option genInjectivity false
set_option genSizeOf false
namespace Mine
variable [hF : HashFn]
noncomputable section
structure Fit where
 r : Row
 num : Int
 l : List (D × List UInt8)
noncomputable def Fit.f (m : Fit) : D := zV m.r m.num
noncomputable def zBs : List Fit -> List D
 | [] => []
 | m :: t => rowsOf m.num m.f 0 m.l ++ zBs t
structure FitOK (n : Nat) (I : D) (m : Fit) : Prop where
 s : zF (n + 1) 862 [m.f, I] (.lst (m.l.map (·.1)))
 t : ∀ q ∈ m.l, q.2.length ≤ 1000 ∧ zF (n + 1) 943 [m.f, I, q.1] (encD q.2 m.f q.1)
 k : m.l.length ≤ 100
theorem enc_outer {n : Nat} {is I} : ∀ {M : List Fit} {ρ acc}, InvE is I ρ acc -> acc.length + (zBs M).length ≤ 1000 -> (∀ m ∈ M, FitOK n I m) ->
  ∃ ρ', Lp PT sc955 (n + 1) (S' "form") encFor ρ (M.map Fit.f) .next ρ' ∧ InvE is I ρ' (acc ++ zBs M)
 | [], ρ, acc, v, hl, hc => ⟨ρ, .nil, by simpa [zBs] using v⟩
 | m :: t, ρ, acc, v, hl, hc => by
  have h0 := hc m (.head _)
  have v1 : InvE is I (put (S' "form") (.val m.f) ρ) acc := v.put (by rfl') (by rfl') (by rfl') (by rfl')
  have hf1 : fnd (S' "form") (put (S' "form") (.val m.f) ρ) = some (.val m.f) := by rw [zN, zI]; rfl
  have hlen : (zBs (m :: t)).length = m.l.length + (zBs t).length := by simp [zBs, rowsOf_len]
  obtain ⟨ρ1, lt, v2⟩ := enc_loop (n := n) (r := m.r) (num := m.num) ⟨_, _, rfl⟩ (p := 0) v1 hf1 (by lia) h0.t
  obtain ⟨ρ2, lp, v3⟩ := enc_outer (n := n) (M := t) v2 (by simp [rowsOf_len]; lia) fun q hq => hc q (.tail _ hq)
  refine ⟨ρ2, .next (ExS.q (zK (zBb (by rfl') (by rfl') (by rfl') rfl (ev_call (by rfl') (by rfl') (by rfl') (fun P => zAv P mem_fn862 rfl) rfl (zH rfl (zJ hf1 (by rfl')) (zH rfl (zJ v1.l (by rfl')) zO)) h0.s) lt) zAh)) (.inl rfl) lp, ?_⟩
  rw [List.append_assoc] at v3
  exact v3
end
end Mine
end
section
open PySem PySem.W PyProof.Rows PySem.Calls PyProof PySem.SeqAt
set_option Elab.async false
set_option maxRecDepth 100000
set_option linter.all false
namespace Mine
variable [hF : HashFn]
noncomputable section
noncomputable def quadT (q : D × D × D × D) : D := .tup [q.1, q.2.1, q.2.2.1, q.2.2.2]
noncomputable def keyT (q : D × D × D × D) : D := .tup [q.1, q.2.1, q.2.2.1]
theorem keysE_map {α : Type} {sc} {n : Nat} {x body} {f g : α -> D} (h : ∀ a, EvE sc [(x, .val (f a))] n body (g a)) : ∀ {l : List α}, KeysE sc n x body (l.map f) (l.map g)
 | [] => .nil
 | a :: t => .cons (h a) (keysE_map @h)
theorem cpE_map {α : Type} {sc} {n : Nat} {t elt ρ} {ρ1 : α -> Loc} {f g : α -> D} (h1 : ∀ a, bindT sc t (f a) ρ = some (ρ1 a)) (h2 : ∀ a, EvE sc (ρ1 a) n elt (g a)) : ∀ {l : List α}, Cp sc n t elt [] ρ (l.map f) (l.map g)
 | [] => .nil
 | a :: l => .keep (h1 a) (fun c hc => (nomatch hc)) (h2 a) (cpE_map h1 @h2)
noncomputable abbrev rhoE (is I : D) (rows : List D) : Loc := [(S' "iset", .val is), (S' "instruction", .val I), (S' "rows", .val (.lst rows)), (S' "refusals", .val (.lst []))]
theorem enc_last {is I} {qs outs : List (D × D × D × D)} (hs : SortOK (qs.map keyT) (qs.map quadT) (outs.map quadT) ∨ (qs.length < 2 ∧ outs = qs)) (h60 : qs.length < 60) (hlen : outs.length ≤ 60) :
  ExSq (FrameOf r955) sc955 (rhoE is I (qs.map quadT)) 97 [stAt r955 3] (.ret (.lst (outs.map fun q => q.2.2.2))) (rhoE is I (qs.map quadT)) := by
 refine exsq_stop rfl (ex1q_ret (evq_comp (ds := outs.map quadT) (by rfl') (by rfl') (by rfl') (.listq rfl (evq_sorted (n := 96) (P := 952) (x := S' "row") (outs := outs.map quadT) (by rfl') (by rfl') (by rfl') rfl (by rfl') (e_of (d := .lst (qs.map quadT)) (by rfl')) (by simp [tabs]) rfl (by rfl') (fun P => hd_954 P) (fun env => rfl) (fun env => closure_none (by rfl')) (fun pm cdv ct v => by rfl') (by rfl') (by rfl')
  (keysE_map (g := keyT) fun q => e_of (by rfl')) ?_ (by simpa using h60))) (Nat.ble_eq_true_of_le (by simp; lia)) (cpE_map (ρ1 := fun q => [(S' "row", .val (quadT q))]) (fun q => by rfl') fun q => e_of (by rfl'))))
 rcases hs with hs | ⟨h1, h2⟩
 ·exact .inl hs
 ·exact .inr ⟨by simpa using h1, by rw [h2]⟩
noncomputable def LvNew (m : Str -> Option Value) (ρ : Loc) (ko led news : Led) (v : Value) : LV -> Prop
 | .val d => R led d v
 | .own ds => ∃ a vs c, v = .ref a ∧ (a, listOf vs.toArray c) ∈ news ∧ Rs led ds vs ∧ a ∉ keyL led ∧ a ∉ keyL ko ∧ Apart ρ m a
 | .obj .. => False
noncomputable def EvM (sc : zT) (ρ : Loc) (n : Nat) (e : Expr) : LV -> Prop
 | .val d => EvE sc ρ n e d
 | .own ds => EvO sc ρ n e ds
 | .obj .. => False
theorem evm_run {sc ρ n e lv} (h : EvM sc ρ n e lv) {prog w A env h₀ L s m ko led news Q E} (hs : env.scope.names = sc) (hl : env.locals = L) (Si : Sit w A env h₀ L n) (S : St env h₀ L s.heap m ρ ko led news)
  (K : ∀ v h' tk led' news', St env h₀ L h' m ρ ko led' news' -> Inc led led' -> LvNew m ρ ko led' news' v lv -> Q v (sw s h' tk)) : wpAny (model prog w) A (eval e env) Q E s := by
 cases lv with
 | val d => exact h prog w A env h₀ L s m ko led news Q E hs Si S K
 | own ds =>
  refine h prog w A env h₀ L s m ko led news Q E hs Si S fun a vs c h' tk led' news' S' i hm r n1 n2 ⟨mm, X, ap⟩ => ?_
  obtain rfl := S'.fn hl X
  exact K _ h' tk led' news' S' i ⟨a, vs, c, rfl, hm, r, n1, n2, ap⟩
 | obj C ns ds => exact h.elim
theorem St.putLv {env h₀ L h h' m ρ ko led news} {x v} {lv : LV} (S : St env h₀ L h m ρ ko led news) (hl : env.locals = L) (hk : env.kindOf x = some .local) (F : Fr h₀ L h' (upd m x v)) (N : News h₀ L h' news) (f : LvNew m ρ ko led news v lv) : St env h₀ L h' (upd m x v) (put x lv ρ) ko led news := by
 cases lv with
 | val d => exact S.putVal hl hk F N f
 | own ds =>
  obtain ⟨a, vs, c, rfl, hm, r, n1, n2, ap⟩ := f
  exact S.putOwn hl hk F N hm r n1 n2 ap
 | obj C ns ds => exact f.elim
theorem St.keepHere {env h₀ L h m ρ ko led news} {a} {vs : Array Value} {c : Nat} (S : St env h₀ L h m ρ ko led news) (hl : env.locals = L) (hm : (a, listOf vs c) ∈ news) (n1 : a ∉ keyL led) (ap : Apart ρ m a) : St env h₀ L h m ρ (ko ++ [(a, listOf vs c)]) led news where
 F := S.F
 N := S.N
 nd := S.nd
 kon := fun p hp => by
  rcases List.mem_append.mp hp with hp | hp
  ·exact S.kon p hp
  ·rw [List.mem_singleton.mp hp]; exact hm
 sub := S.sub
 dis := fun b hb => by
  obtain ⟨p, hp, rfl⟩ := List.mem_map.mp hb
  rcases List.mem_append.mp hp with hp | hp
  ·exact S.dis _ (zC (o := p.2) hp)
  ·rw [List.mem_singleton.mp hp]
   refine ⟨n1, fun ht => ?_⟩
   obtain ⟨_, ps, h1, _⟩ := S.tab a ht
   have := congrArg Obj.cls (zAm S.nd hm h1)
   cases this
 tab := S.tab
 loc := by
  obtain ⟨mm, X⟩ := S.loc
  obtain rfl := S.fn hl X
  refine ⟨mm, .fn hl rfl, fun x lv e => ?_, X.inj⟩
  obtain ⟨v, V, O, k⟩ := X.at' x lv e
  refine ⟨v, V.mono fun p hp => List.mem_append_left _ hp, ?_, k⟩
  have nk : ∀ b, b ∉ keyL ko -> b ≠ a -> b ∉ keyL (ko ++ [(a, listOf vs c)]) := fun b hb hne hq => by
   obtain ⟨p, hp, rfl⟩ := List.mem_map.mp hq
   rcases List.mem_append.mp hp with hp | hp
   ·exact hb (zC (o := p.2) hp)
   ·exact hne (by rw [List.mem_singleton.mp hp])
  cases lv with
  | val d => exact O
  | own ds =>
   obtain ⟨b, ws, k', rfl, h1, r, m1, m2⟩ := O
   refine ⟨b, ws, k', rfl, h1, r, m1, nk b m2 fun e2 => ?_⟩
   subst e2
   exact ap x _ e rfl (V.local (k rfl))
  | obj C ns ds =>
   obtain ⟨b, dx, es, k', ws, rfl, h1, h2, ke, ev, r, m1, m2⟩ := O
   refine ⟨b, dx, es, k', ws, rfl, ?_, h2, ke, ev, r, m1, nk dx m2 fun e2 => ?_⟩
   ·cases ko with
    | nil => cases h1
    | cons p q => exact h1
   ·subst e2
    exact zBf zBn (zAm S.nd hm h2)
theorem St.dropKo {env h₀ L h m ρ ko led news} {a} {vs : Array Value} {c : Nat} (S : St env h₀ L h m ρ (ko ++ [(a, listOf vs c)]) led news) (hl : env.locals = L) : St env h₀ L h m ρ ko led news where
 F := S.F
 N := S.N
 nd := S.nd
 kon := fun p hp => S.kon p (List.mem_append_left _ hp)
 sub := S.sub
 dis := fun b hb => S.dis b (by
  obtain ⟨p, hp, rfl⟩ := List.mem_map.mp hb
  exact zC (o := p.2) (List.mem_append_left _ hp))
 tab := S.tab
 loc := by
  obtain ⟨mm, X⟩ := S.loc
  obtain rfl := S.fn hl X
  refine ⟨mm, .fn hl rfl, fun x lv e => ?_, X.inj⟩
  obtain ⟨v, V, O, k⟩ := X.at' x lv e
  have nk : ∀ b, b ∉ keyL (ko ++ [(a, listOf vs c)]) -> b ∉ keyL ko := fun b hb hq => hb (by
   obtain ⟨p, hp, rfl⟩ := List.mem_map.mp hq
   exact zC (o := p.2) (List.mem_append_left _ hp))
  refine ⟨v, ?_, ?_, k⟩
  ·cases V with
   | loc a b => exact .loc a b
   | cel c' oc b1 b2 hm2 hd =>
    rcases List.mem_append.mp hm2 with hm2 | hm2
    ·exact .cel c' oc b1 b2 hm2 hd
    ·have := congrArg Prod.snd (List.mem_singleton.mp hm2)
     simp only at this
     rw [this] at hd
     cases hd
  ·cases lv with
   | val d => exact O
   | own ds =>
    obtain ⟨b, ws, k', rfl, h1, r, m1, m2⟩ := O
    exact ⟨b, ws, k', rfl, h1, r, m1, nk b m2⟩
   | obj C ns ds =>
    obtain ⟨b, dx, es, k', ws, rfl, h1, h2, ke, ev, r, m1, m2⟩ := O
    refine ⟨b, dx, es, k', ws, rfl, ?_, h2, ke, ev, r, m1, nk dx m2⟩
    cases ko with
    | nil =>
     have := congrArg Obj.cls (congrArg Prod.snd (Option.some.inj h1))
     cases this
    | cons p q => exact h1
theorem evm_two {sc ρ n e2 l1 l2} (h2 : EvM sc ρ n e2 l2) {prog w A env h₀ L s m ko led news v1 Q E} (hs : env.scope.names = sc) (hl : env.locals = L) (Si : Sit w A env h₀ L n) (S : St env h₀ L s.heap m ρ ko led news) (f1 : LvNew m ρ ko led news v1 l1)
  (K : ∀ v2 h' tk led' news', St env h₀ L h' m ρ ko led' news' -> Inc led led' -> LvNew m ρ ko led' news' v1 l1 -> LvNew m ρ ko led' news' v2 l2 -> (isVal l1 = false -> isVal l2 = false -> v1 ≠ v2) -> Q v2 (sw s h' tk)) : wpAny (model prog w) A (eval e2 env) Q E s := by
 cases l1 with
 | val d => exact evm_run h2 hs hl Si S fun v2 h' tk led' news' S' i f2 => K v2 h' tk led' news' S' i (R.mono i f1) f2 fun h => by cases h
 | obj C ns ds => exact f1.elim
 | own ds =>
  obtain ⟨a, vs, c, rfl, hm, r, n1, n2, ap⟩ := f1
  refine evm_run h2 hs hl Si (S.keepHere hl hm n1 ap) fun v2 h' tk led' news' S' i f2 => ?_
  have ha : (a, listOf vs.toArray c) ∈ ko ++ [(a, listOf vs.toArray c)] := List.mem_append_right _ (.head _)
  refine K v2 h' tk led' news' (S'.dropKo hl) i ⟨a, vs, c, rfl, S'.kon _ ha, Rs.mono i r, (S'.dis a (zC ha)).1, n2, ap⟩ ?_ fun _ hv => ?_
  ·cases l2 with
   | val d => exact f2
   | obj C ns ds => exact f2.elim
   | own ds2 =>
    obtain ⟨b, ws, c2, rfl, g1, g2, g3, g4, g5⟩ := f2
    refine ⟨b, ws, c2, rfl, g1, g2, g3, fun hq => g4 ?_, g5⟩
    obtain ⟨p, hp, rfl⟩ := List.mem_map.mp hq
    exact zC (o := p.2) (List.mem_append_left _ hp)
  ·cases l2 with
   | val d => cases hv
   | obj C ns ds => exact f2.elim
   | own ds2 =>
    obtain ⟨b, ws, c2, rfl, g1, g2, g3, g4, g5⟩ := f2
    intro e
    cases e
    exact g4 (zC ha)
theorem ex1_two {sc ρ n elts k tpos e1 e2 k' vpos pos x y l1 l2} (hsw : swapNames sc elts [e1, e2] = some [x, y]) (hx : zAu sc x = true) (hy : zAu sc y = true) (hst : [e1, e2].all zP = true) (h1 : EvM sc ρ n e1 l1) (h2 : EvM sc ρ n e2 l2) : Ex1 sc ρ n (.Assign [.Tuple elts k tpos] (.Tuple [e1, e2] k' vpos) pos) .next (put x l1 (put y l2 ρ)) := by
 intro prog w A env h₀ L s m ko led news Q hs hl Si S K
 simp only [List.all_cons, List.all_nil, Bool.and_true, Bool.and_eq_true] at hst
 refine Rows.Assign_Tuple_swapped (names := [x, y]) ?_ rfl (swap_of hsw hs Si.kd)
 refine Tuple_ (args_cons (evm_run h1 hs hl Si S fun v1 h' tk led' news' S' i f1 => ?_) (zB hst.1))
 refine args_cons (evm_two h2 hs hl Si (s := (sw s h' tk)) S' f1 fun v2 h2' tk2 led2 news2 S2 i2 g1 g2 hne => args_nil ?_) (zB hst.2)
 refine newTuple_N S2.F S2.N (fun h3 F N => ?_) (by have : sizeLine = 2 ^ 24 := rfl; simp; lia)
 have lt : ∀ p ∈ news2, p.1 < h2'.objs.size := fun p hp => Heap.lt_size (S2.N p hp).1
 have S3 := S2.apart (new := [(h2'.objs.size, tupOf [v1, v2])]) F N (zQ S2.nd lt)
 have hi : h3.IsTuple h2'.objs.size [v1, v2].toArray := ⟨_, (S3.N _ (.head _)).1, rfl, _, rfl⟩
 show wpAny _ A (unpackItems (.ref h2'.objs.size) [v1, v2].toArray.size none) _ _ _
 refine wpAny_unpackItems_tuple Si.hd (s := (sw s h3 tk2)) hi fun h4 he => ?_
 have S4 : St env h₀ L h4 m ρ ko led2 ([(h2'.objs.size, tupOf [v1, v2])] ++ news2) := S3.re (S3.F.extBut he (Nat.le_refl _)) fun p hp => by
  have z := S3.N p hp
  exact ⟨he p.1 p.2 (Nat.ne_of_lt (Heap.lt_size z.1)) z.1, z.2⟩
 have up : ∀ (v : Value) (l : LV), LvNew m ρ ko led2 news2 v l -> LvNew m ρ ko led2 ([(h2'.objs.size, tupOf [v1, v2])] ++ news2) v l := fun v l f => by
  cases l with
  | val d => exact f
  | obj C ns ds => exact f
  | own ds =>
   obtain ⟨a, vs, c, rfl, g1, g⟩ := f
   exact ⟨a, vs, c, rfl, .tail _ g1, g⟩
 have g1' := up v1 l1 g1
 have g2' := up v2 l2 g2
 show wpAny _ A (assignInOrder [bindName env y, bindName env x] [v2, v1]) _ _ _
 refine assignInOrder_cons (t := bindName env y) (wpAny_bindName (store_ Si.kd hl (zL hs hy) S4.F S4.N fun h5 F5 N5 => ?_))
 have S5 := S4.putLv hl (zL hs hy) F5 N5 g2'
 have g1'' : LvNew (upd m y v2) (put y l2 ρ) ko led2 ([(h2'.objs.size, tupOf [v1, v2])] ++ news2) v1 l1 := by
  cases l1 with
  | val d => exact g1'
  | obj C ns ds => exact g1'
  | own ds =>
   obtain ⟨a, vs, c, rfl, q1, q2, q3, q4, q5⟩ := g1'
   refine ⟨a, vs, c, rfl, q1, q2, q3, q4, fun z lz e hv hm => ?_⟩
   rw [zN] at e
   split at e
   ·rename_i q
    obtain rfl := zW.mp q
    cases e
    simp [upd] at hm
    exact hne rfl hv hm.symm
   ·rename_i q
    have hz : z ≠ y := fun h => q (by rw [h]; exact zI y)
    simp only [upd, hz, if_false] at hm
    exact q5 z lz e hv hm
 refine assignInOrder_cons (t := bindName env x) (wpAny_bindName (store_ Si.kd hl (zL hs hx) S5.F S5.N fun h6 F6 N6 => ?_))
 exact assignInOrder_nil (K .next h6 _ _ led2 _ (S5.putLv hl (zL hs hx) F6 N6 g1'') (Inc.trans i i2) rfl)
structure ExcK (P : Params) : Prop where
 chk : ExcC (fun a => (KW P).lookup a) 59
 sa : findIn (KW P) (.ref 59) (S' "__setattr__") = some (some (.builtin "object.__setattr__"))
 ini : findIn (KW P) (.ref 59) (S' "__init__") = some (some (.ref 36))
 ov : excOver (KW P) 59 = true
 t1 : takerIn (KW P) 59 (S' "what") = some none
 t2 : takerIn (KW P) 59 (S' "at") = some none
 hd : hasDictIn (KW P) 59 = true
 fc : findCls (KW P) (.type "Exception") (.type "type") (S' "__init__") = some (.val (.builtin "Exception.__init__"))
 fn : isFn (KW P) (.ref 36) = true
 ex : nsIn (KW P) mainGlobals (S' "Exception") = some none
 kp : keepIn (KW P) (.ref 59) = true
 one : exmOne (KW P) (.ref 59) (.ref 59) = some true
theorem excK_ok (P : Params) : ExcK P where
 chk := .mk _ _ _ _ _ _ _ _ _ _ _ _ _ _ _ _ (show (KW P).lookup 59 = some ob59 from by rfl') rfl rfl rfl rfl
 sa := by rfl'
 ini := by rfl'
 ov := by rfl'
 t1 := by rfl'
 t2 := by rfl'
 hd := by rfl'
 fc := by rfl'
 fn := by rfl'
 ex := by rfl'
 kp := by rfl'
 one := by rfl'
section
variable {prog : Program} {w : World} {A : Around} {E : Value -> Shared -> Prop} {s : Shared} {env : Env} {L : Addr} {h₀ : Heap} {m : Str -> Option Value} {ρ : Loc} {ko led news : Led} {n : Nat}
theorem local_load {x pos v Q mm} (kd : env.scope.kind = .function) (hk : env.kindOf x = some .local) (ns : s.heap.Ns env.locals mm) (e : mm x = some v) (hd : zM x = true) (h : Q v s) : wpAny (model prog w) A (eval (.Name x pos) env) Q E s :=
 wpAny_Name (wpAny_loadName_local kd hk ns e h) (ne_of_notDbg hd).1
theorem body36 : zG r36.st = [stAt r36 0, stAt r36 1, stAt r36 2] := by rfl'
theorem exc_body {g e t v Q} (kd : env.scope.kind = .function) (hs : env.scope.names = (zD r36.st).names) (hl : env.locals = L) (gl : env.globals = mainGlobals) (bl : env.builtins = builtinsNs)
  (F : Fr g L s.heap m) (X : (KW w.params).In g) (T : ∃ mean mg mb, Top topProg looseT mean mg mb g) (N : News g L s.heap ((e, zCg 59 t) :: news)) (ne : ∀ p ∈ news, p.1 ≠ e) (m1 : m (S' "self") = some (.ref e)) (m2 : m (S' "what") = some v) (m3 : m (S' "at") = some .none)
  (k : ∀ h' tk t1 dx, Fr g L h' m -> News g L h' ((e, excObjD 59 t1 dx) :: news) -> Q .next (sw s h' tk)) : wpAny (model prog w) A (execs (zG r36.st) env) Q E s := by
 obtain ⟨mean, mg, mb, T⟩ := T
 have EK := excK_ok w.params
 rw [body36]
 have k1 : env.kindOf (S' "self") = some .local := zL hs (by rfl')
 have k2 : env.kindOf (S' "what") = some .local := zL hs (by rfl')
 have k3 : env.kindOf (S' "at") = some .local := zL hs (by rfl')
 have k4 : env.kindOf (S' "Exception") = some .globalImplicit := glob_kind hs (by rfl')
 have n1 : zM (S' "self") = true := by rfl'
 have n2 : zM (S' "what") = true := by rfl'
 have n3 : zM (S' "at") = true := by rfl'
 subst hl
 have l1 : ∀ {A E s Q pos}, Fr g env.locals s.heap m -> Q (.ref e) s -> wpAny (model prog w) A (eval (.Name (S' "self") pos) env) Q E s := fun F h => local_load kd k1 F.ns m1 n1 h
 have l2 : ∀ {A E s Q pos}, Fr g env.locals s.heap m -> Q v s -> wpAny (model prog w) A (eval (.Name (S' "what") pos) env) Q E s := fun F h => local_load kd k2 F.ns m2 n2 h
 have l3 : ∀ {A E s Q pos}, Fr g env.locals s.heap m -> Q .none s -> wpAny (model prog w) A (eval (.Name (S' "at") pos) env) Q E s := fun F h => local_load kd k3 F.ns m3 n3 h
 refine wpAny_execs_cons (wpAny_Expr ?_ (inter_false kd) rfl)
 refine MethodCall_ (nameG_B (loose := looseT) (v := .type "Exception") F X (topRead_of T) EK.ex (by rfl') (by decide) ?_ gl bl kd k4 (by decide)) (meth_eq (by rfl'))
 refine method_type F X (by rfl') (by rfl') EK.fc rfl ?_
 refine callWith_builtin1 (args_cons (l1 F (args_cons (l2 F (args_nil ?_)) rfl)) rfl) rfl rfl
 refine exc_args (s := { s with toks := s.toks + 1 }) F X EK.chk N ne fun h1 t1 F1 N1 => ?_
 refine wpAny_execs_cons (plainObj_wpAny_Assign_Attribute (l2 F1 (l1 F1 ?_)) rfl)
 refine exc_first (s := (sw s h1 (s.toks + 1))) F1 X N1 ne EK.sa EK.ov EK.t1 EK.hd fun h2 tk tk2 dx hv hne hnd F2 N2 => ?_
 refine wpAny_execs_cons (plainObj_wpAny_Assign_Attribute (l3 F2 (l1 F2 ?_)) rfl)
 refine exc_more (s := (sw s h2 tk2)) F2 X N2 hne hnd rfl (by simp) EK.sa EK.ov EK.t2 EK.hd fun h3 tk3 F3 N3 => ?_
 exact wpAny_execs_nil (k h3 tk3 t1 dx F3 N3)
theorem exc_init {e t v Rr} (Si : Sit w A env h₀ L (n + 1)) (F : Fr h₀ L s.heap m) (N : News h₀ L s.heap ((e, zCg 59 t) :: news)) (ne : ∀ p ∈ news, p.1 ≠ e)
  (k : ∀ h' tk t1 dx, Fr h₀ L h' m -> News h₀ L h' ((e, excObjD 59 t1 dx) :: news) -> Rr (.ok (.ret .none)) (sw s h' tk)) : codeAny (model prog w) A (.call (.ref 36) ⟨[.ref e, v], []⟩) Rr s := by
 obtain ⟨A₀, base, outer, fenv, B, hA, hfr, hke⟩ := Si.fr
 obtain ⟨mean, mg, mb, T⟩ := Si.T
 obtain ⟨h1, h2, h3, h4⟩ := plainSc_of (sc := zD r36.st) (by rfl')
 obtain ⟨e1, e2⟩ := fn_ok w.params r36 mem_fn36
 rw [fnO_eq] at e1
 obtain ⟨es, re, hbind⟩ := b36 w s [.ref e, v] (Si.X.keeps F.keep) rfl
 obtain ⟨v3, rfl, r3⟩ := Rs.inv1 re
 rw [R_none_inv r3] at hbind
 refine code_def B F Si.X N T hA hfr hke e1 e2 Si.d0 hbind ?_ (fun g L' h₁ FG F' N' B' X' T' => ?_) h1 h2 h3 h4
 ·intro y hy
  rw [zAc]
  simp only [List.cons_append, List.nil_append, List.zip_cons_cons, List.zip_nil_left, List.mem_cons, List.not_mem_nil, or_false] at hy
  rcases hy with rfl | rfl | rfl <;> rfl'
 ·refine exc_body (L := L') (s := (sw s h₁ _)) (t := t) (v := v) h3 rfl rfl rfl rfl F' X' ⟨mean, mg, mb, T'⟩ N' ne ?_ ?_ ?_ fun h' tk t1 dx F2 N2 => leaveK_ F2 N2 fun F3 N3 => k h' tk t1 dx F3 N3
  all_goals (show List.lookup _ _ = _; rw [zAc]; rfl)
theorem exc_call {v Q} (Si : Sit w A env h₀ L (n + 2)) (S : St env h₀ L s.heap m ρ ko led news)
  (k : ∀ h' tk e t dx, Fr h₀ L h' m -> News h₀ L h' ((e, excObjD 59 t dx) :: news) -> (∀ p ∈ news, p.1 ≠ e) -> Q (.ref e) (sw s h' tk)) : wpAny (model prog w) A (call (.ref 59) [v]) Q E s := by
 have EK := excK_ok w.params
 have X := Si.X.keeps S.F.keep
 obtain ⟨nm, qn, N', bs, bm, hdct, sn, sub, ab, col, dd, k0, k1, k2, k3, k5, hC, hB, _, nA, nN⟩ := exc_of X EK.chk
 obtain ⟨e1, _⟩ := fn_ok w.params r36 mem_fn36
 rw [fnO_eq] at e1
 obtain ⟨h, gg, d, tk, os⟩ := s
 refine call_own hB nA nN hC (looks_findIn X EK.ini) (X _ _ e1) rfl (by have : sizeLine = 2 ^ 24 := rfl; simp; lia) ?_
 have hF : Fr h₀ L ((h.push { cls := .type "tuple", data := .seq [v].toArray }).push (zCg 59 h.objs.size)) m := Fr.push (Fr.push S.F _) _
 have lt : ∀ p ∈ news, p.1 < h.objs.size := fun p hp => Heap.lt_size (S.N p hp).1
 have hN : News h₀ L ((h.push { cls := .type "tuple", data := .seq [v].toArray }).push (zCg 59 h.objs.size)) ((h.objs.size + 1, zCg 59 h.objs.size) :: news) := fun p hp => by
  rcases List.mem_cons.mp hp with rfl | hp
  ·refine ⟨by heap_get, fun q => ?_, ?_⟩
   ·have := S.F.ns.lt
    rw [← q] at this
    exact absurd this (by show ¬ (h.objs.size + 1 < h.objs.size); lia)
   ·have := next_is_new (Fr.push S.F { cls := .type "tuple", data := .seq [v].toArray })
    rwa [Heap.size_push] at this
  ·exact ⟨Heap.get?_push_of_some _ (Heap.get?_push_of_some _ (S.N p hp).1), (S.N p hp).2⟩
 refine wpAny_call (exc_init (n := n) (Si.make 59 [v]) hF hN (fun p hp => Nat.ne_of_lt (Nat.lt_succ_of_lt (lt p hp))) fun h' tk' t1 dx F2 N2 => ⟨rfl, k h' tk' _ t1 dx F2 N2 fun p hp => Nat.ne_of_lt (Nat.lt_succ_of_lt (lt p hp))⟩)
theorem exc_raise {x np cpos pos arg d Q sc} (hs : env.scope.names = sc) (Si : Sit w A env h₀ L (n + 2)) (S : St env h₀ L s.heap m ρ ko led news) (hx : zZ sc x = true) (hd : zM x = true) (ex : fnd x gTab = some (.ref 59)) (hst : zP arg = true) (he : EvE sc ρ (n + 2) arg d)
  (k : ∀ h' tk e t dx led' news', Fr h₀ L h' m -> News h₀ L h' ((e, excObjD 59 t dx) :: news') -> (∀ p ∈ news', p.1 ≠ e) -> Sp env L m ρ ko led' news' -> Inc led led' -> E (.ref e) (sw s h' tk)) :
  wpAny (model prog w) A (exec (.Raise (some (.Call (.Name x np) [arg] [] cpos)) none pos) env) Q E s := by
 have EK := excK_ok w.params
 show wpAny (model prog w) A (do
  standAt pos
  raiseStmt env (some (do
   let v ← eval (.Call (.Name x np) [arg] [] cpos) env
   standAt pos
   pure v)) none) Q E s
 refine wpAny_bind (wpAny_standAt ?_)
 unfold raiseStmt
 refine wpAny_bind (wpAny_bind ?_)
 refine Rows.Call_ (zBl hs Si S hx hd ex ?_)
 refine callWith_K (h₀ := h₀) Si.X EK.kp ?_ (zB hst) (by rw [zAr]; exact zAa rfl)
 refine args_cons (he prog w A env h₀ L s m ko led news _ E hs Si S fun v h' tk led' news' S' i r => args_nil ?_) (zB hst)
 refine ⟨Si.X.keeps S'.F.keep, ?_⟩
 refine exc_call (s := (sw s h' tk)) Si S' fun h2 tk2 e t dx F2 N2 ne => wpAny_bind (wpAny_standAt (wpAny_pure ?_))
 obtain ⟨nm, qn, N', bs, bm, hdct, sn, sub, ab, col, dd, k0, k1, k2, k3, k5, hC, hB, hBE, nA, nN⟩ := exc_of (Si.X.keeps F2.keep) EK.chk
 have hcB : (Value.ref 59 :: bm).contains (.type "BaseException") = true := by rw [List.contains_cons, hBE, Bool.or_true]
 have hE := k h2 tk2 e t dx led' news' F2 N2 ne S'.sp i
 have hee := (N2 _ (.head _)).1
 obtain ⟨h, gg, d, tk, os⟩ := s
 simp only at hE hC hee ⊢
 repeat (first | with_reducible refine wpAny_loadPart_at hee ?_ | with_reducible refine wpAny_loadPart_at hC ?_ | (with_reducible refine wpAny_isSubtype_exc hC ?_; rw [hcB]) | wp_step)
 exact wpAny_raiseNew_none Si.hd hE
end
theorem leave_own {M : Model} {A E s' base g outer L e m env Q news oe} {vs : Array Value} {a0} (K : Below A base outer g) (hf : env.frame = some L) (hk : env.scope.kind = .function)
  (F : Fr g L s'.heap m) (N : News g L s'.heap ((e, oe) :: news)) (ne : ∀ p ∈ news, p.1 ≠ e) (hd : oe.data = .fields vs) (h1 : vs[1]? = some .none) (h0 : vs[0]? = some a0)
  (hQ : ∀ h', RaisedSN base g outer e oe.cls news h' -> g.UpToSlots h' -> Q () { s' with heap := h' }) : wpAny M (A.deeper env) (leaving env (.ref e)) Q E s' := by
 have K' := pushX K F hf hk
 have hE := N _ (.head _)
 have hin : ∀ env' ∈ env :: outer, ∀ b, env'.frame = some b -> b ∈ e :: (env :: outer).filterMap (·.frame) := fun env' he b hb => .tail _ (List.mem_filterMap.mpr ⟨env', he, hb⟩)
 have fm : ∀ b, b ∈ (env :: outer).filterMap (·.frame) -> b = L ∨ b ∈ outer.filterMap (·.frame) := fun b hm => by
  obtain ⟨env', he, hb⟩ := List.mem_filterMap.mp hm
  rcases List.mem_cons.mp he with rfl | he
  ·rw [hf] at hb; exact .inl (Option.some.inj hb).symm
  ·exact .inr (List.mem_filterMap.mpr ⟨env', he, hb⟩)
 refine wpAny_leaving_firstW (base := hideAll s'.heap (e :: (env :: outer).filterMap (·.frame))) (a0 := a0) K'.stack (funFrames_hide K'.frames hin) hf hE.1 (fun b o hb => of_hideAll _ hb) (hideAll_none _ (.head _)) hd h1 h0 fun h' hL => ?_
 obtain ⟨k1, ⟨_, _, k2⟩, k3, k4⟩ := hL
 refine hQ h' ⟨_, a0, fun b o q => hideAll_get _ (K'.stays b o q) fun hm => ?_, fun b o q nm => hideAll_get _ (F.keep b o q) fun hm => ?_, fun q hq => ⟨hideAll_get _ (N q (.tail _ hq)).1 fun hm => ?_, (N q (.tail _ hq)).2.2, fresh_of_stays K.stays (N q (.tail _ hq)).2.2⟩, k1, hideAll_none _ (.head _), k2, k3⟩ ((Heap.UpToSlots.of_keeps F.keep).trans k4)
 ·rcases List.mem_cons.mp hm with rfl | hm
  ·rw [fresh_of_stays K.stays hE.2.2] at q; cases q
  ·rw [(K'.frames.mem hm).1] at q; cases q
 ·rcases List.mem_cons.mp hm with rfl | hm
  ·rw [hE.2.2] at q; cases q
  ·rcases fm b hm with rfl | hm
   ·rw [kts_self F] at q; cases q
   ·exact nm hm
 ·rcases List.mem_cons.mp hm with e1 | hm
  ·exact ne q hq e1
  ·rcases fm _ hm with e1 | hm
   ·exact (N q (.tail _ hq)).2.1 e1
   ·obtain ⟨o, ho, _⟩ := (K.frames.mem hm).2
    rw [(N q (.tail _ hq)).2.2] at ho; cases ho
theorem Sp.backG {env env' h₀ L L' h m m' ρ ρ' ko ko' led news led' news'} (S : St env h₀ L h m ρ ko led news) (S' : Sp env' L' m' ρ' ko' led' news') (hko : ∀ p ∈ koOf led news, p ∈ ko') (i : Inc led led') : Sp env L m ρ ko led' news' where
 nd := S'.nd
 kon := fun p hp => S'.kon p (hko _ (zAd.mpr ⟨S.kon p hp, S.dis p.1 (zC (o := p.2) hp)⟩))
 sub := S'.sub
 dis := fun a ha => by
  obtain ⟨p, hp, rfl⟩ := List.mem_map.mp ha
  exact S'.dis p.1 (zC (o := p.2) (hko _ (zAd.mpr ⟨S.kon p hp, S.dis p.1 ha⟩)))
 tab := S'.tab
 loc := by
  obtain ⟨mm, X⟩ := S.loc
  refine ⟨mm, X.lc, fun x lv e => ?_, X.inj⟩
  obtain ⟨v, V, O, k⟩ := X.at' x lv e
  refine ⟨v, V, O.mono i (fun a o hm hn _ hc => ?_), k⟩
  have := hko _ (own_koOf S.nd S.tab hm hn hc)
  exact ⟨S'.kon _ this, (S'.dis a (zC this)).1⟩
noncomputable def CallR (n : Nat) (f : Addr) (ds : List D) : Prop :=
 ∀ (prog : Program) (w : World) (A : Around) (env : Env) (h₀ : Heap) (L : Addr) (s : Shared) (m : Str -> Option Value) (ρ : Loc) (ko led news : Led) (vs : List Value) (Rr : Result -> Shared -> Prop) (A₀ : Around) (base : Heap) (outer : List Env) (fenv : Env),
  Below A₀ base outer h₀ -> A.frames = some (fenv :: outer) -> fenv.frame = some L -> fenv.scope.kind = .function -> Sit w A env h₀ L n -> St env h₀ L s.heap m ρ ko led news -> Rs led ds vs ->
  (∀ e g h' tk led' news', Fr h₀ L g m -> RaisedSN base g (fenv :: outer) e (.ref 59) news' h' -> g.UpToSlots h' -> Sp env L m ρ ko led' news' -> Inc led led' -> Rr (.error (.ref e)) (sw s h' tk)) ->
  codeAny (model prog w) A (.call (.ref f) ⟨vs, []⟩) Rr s
noncomputable def ExR (sc : zT) (ρ : Loc) (n : Nat) (ss : List Stmt) : Prop :=
 ∀ (prog : Program) (w : World) (A : Around) (env : Env) (h₀ : Heap) (L : Addr) (s : Shared) (m : Str -> Option Value) (ko led news : Led) (Q : Flow -> Shared -> Prop) (E : Value -> Shared -> Prop),
  env.scope.names = sc -> env.locals = L -> Sit w A env h₀ L n -> St env h₀ L s.heap m ρ ko led news ->
  (∀ h' tk e t dx m' ρ' led' news', Fr h₀ L h' m' -> News h₀ L h' ((e, excObjD 59 t dx) :: news') -> (∀ p ∈ news', p.1 ≠ e) -> Sp env L m' ρ' ko led' news' -> Inc led led' -> E (.ref e) (sw s h' tk)) ->
  wpAny (model prog w) A (execs ss env) Q E s
section
variable {sc : zT} {ρ ρ1 : Loc} {n : Nat}
theorem exr_next {st rest} (h1 : Ex1 sc ρ n st .next ρ1) (h2 : ExR sc ρ1 n rest) : ExR sc ρ n (st :: rest) := by
 intro prog w A env h₀ L s m ko led news Q E hs hl Si S K
 refine wpAny_execs_cons (wpAny_mono (h1 prog w A env h₀ L s m ko led news _ hs hl Si S fun f h' tk m' led' news' S' i hf => ?_) (fun _ _ h => h) fun _ _ e => e.elim)
 have : f = .next := hf
 subst this
 exact h2 prog w A env h₀ L _ m' ko led' news' _ _ hs hl Si S' fun h2 tk2 e t dx m2 ρ2 led2 news2 F2 N2 ne S2 i2 => K h2 tk2 e t dx m2 ρ2 led2 news2 F2 N2 ne S2 (Inc.trans i i2)
theorem exr_share {x ds ss} (e : fnd x ρ = some (.own ds)) (h : ExR sc (put x (.val (.lst ds)) ρ) n ss) : ExR sc ρ n ss := by
 intro prog w A env h₀ L s m ko led news Q E hs hl Si S K
 obtain ⟨led', i, S'⟩ := S.freeze hl e
 exact h prog w A env h₀ L s m ko led' news Q E hs hl Si S' fun h2 tk2 e t dx m2 ρ2 led2 news2 F2 N2 ne S2 i2 => K h2 tk2 e t dx m2 ρ2 led2 news2 F2 N2 ne S2 (Inc.trans i i2)
theorem exr_raise {t x np cpos rpos pos arg d more b rest} (ht : EvT sc ρ (n + 2) t true) (hx : zZ sc x = true) (hd : zM x = true) (ex : fnd x gTab = some (.ref 59)) (hst : zP arg = true) (he : EvE sc ρ (n + 2) arg d) :
  ExR sc ρ (n + 2) (.If t (.Raise (some (.Call (.Name x np) [arg] [] cpos)) none rpos :: more) b pos :: rest) := by
 intro prog w A env h₀ L s m ko led news Q E hs hl Si S K
 refine wpAny_execs_cons (wpAny_If (ht prog w A env h₀ L s m ko led news _ _ hs Si S fun h' tk led' news' S' i => ?_))
 refine wpAny_execs_cons (exc_raise (s := (sw s h' tk)) hs Si S' hx hd ex hst he fun h2 tk2 e t dx led2 news2 F2 N2 ne S2 i2 => ?_)
 exact K h2 tk2 e t dx _ _ led2 news2 F2 N2 ne S2 (Inc.trans i i2)
end
theorem callr_of_bodyC {r names y} {k n : Nat} {ex ds} (hr : r ∈ zAk) (hco : (zD r.st).isCoroutine = false) (hge : (zD r.st).isGenerator = false) (hki : (zD r.st).kind = .function) (hb : BindOK r names k ex)
  (hk : ds.length = k) (hdis : zAz names = true) (hlen : names.length = k + ex.length) (hcel : ∀ n, cellsFrom n (zD r.st).names [] = [(y, n)]) (hy : fnd y (zD r.st).names = some .cell)
  (hloc : names.all (fun x => fnd x (zD r.st).names == some .local || eqS x y) = true) (hx : ExR (zD r.st).names (vals names (ds ++ ex)) n (zG r.st)) : CallR (n + 1) r.f ds := by
 intro prog w A env h₀ L s m ρ ko led news vs Rr A₀ base outer fenv B hA hfr hke Si S rr K
 refine enterC hr hco hge hki hb hk hdis hlen hcel hy hloc B hA hfr hke Si S rr fun g L' h₁ tk mm o FG B' Si' S' hcl hod hcn => ?_
 refine hx prog w _ _ g L' (sw s h₁ tk) _ _ led _ _ _ rfl rfl Si' S' fun h2 tk2 e t dx m2 ρ2 led2 news2 F2 N2 ne S2 i2 => ?_
 refine leave_own (s' := (sw s h2 tk2)) B' rfl hki F2 N2 ne rfl rfl rfl fun h3 R3 u3 => ?_
 exact K e g h3 tk2 led2 news2 FG R3 u3 (Sp.backG S S2 (fun p hp => List.mem_append_left _ hp) i2) i2
noncomputable def ExT (sc : zT) (ρ : Loc) (n : Nat) (ss : List Stmt) : Prop :=
 ∀ (prog : Program) (w : World) (A : Around) (env : Env) (h₀ : Heap) (L : Addr) (s : Shared) (m : Str -> Option Value) (ko led news : Led) (Q : Flow -> Shared -> Prop) (E : Value -> Shared -> Prop) (A₀ : Around) (base : Heap) (outer : List Env),
  Below A₀ base outer h₀ -> A.frames = some (env :: outer) -> env.frame = some L -> env.scope.names = sc -> env.locals = L -> Sit w A env h₀ L n -> St env h₀ L s.heap m ρ ko led news ->
  (∀ e g h' tk m' ρ' led' news', Fr h₀ L g m' -> RaisedSN base g (env :: outer) e (.ref 59) news' h' -> g.UpToSlots h' -> Sp env L m' ρ' ko led' news' -> Inc led led' -> E (.ref e) (sw s h' tk)) ->
  wpAny (model prog w) A (execs ss env) Q E s
section
variable {sc : zT} {ρ ρ1 : Loc} {n : Nat}
theorem ext_next {st rest} (h1 : Ex1 sc ρ n st .next ρ1) (h2 : ExT sc ρ1 n rest) : ExT sc ρ n (st :: rest) := by
 intro prog w A env h₀ L s m ko led news Q E A₀ base outer B hA hf hs hl Si S K
 refine wpAny_execs_cons (wpAny_mono (h1 prog w A env h₀ L s m ko led news _ hs hl Si S fun f h' tk m' led' news' S' i hf => ?_) (fun _ _ h => h) fun _ _ e => e.elim)
 have : f = .next := hf
 subst this
 exact h2 prog w A env h₀ L _ m' ko led' news' _ _ A₀ base outer B hA (by assumption) hs hl Si S' fun e g h2 tk2 m2 ρ2 led2 news2 F2 R2 u2 S2 i2 => K e g h2 tk2 m2 ρ2 led2 news2 F2 R2 u2 S2 (Inc.trans i i2)
theorem evx_call {x xpos pos e0 es ds f} (hk : zZ sc x = true) (hd : zM x = true) (e : fnd x gTab = some (.ref f)) (hkeep : ∀ P, keepIn (KW P) (.ref f) = true) (hst : (e0 :: es).all zP = true) (ha : EvL sc ρ n (e0 :: es) ds) (hc : CallR n f ds)
  {prog w A env h₀ L s m ko led news Q E A₀ base outer}
  (B : Below A₀ base outer h₀) (hA : A.frames = some (env :: outer)) (hf : env.frame = some L) (hs : env.scope.names = sc) (Si : Sit w A env h₀ L n) (S : St env h₀ L s.heap m ρ ko led news)
  (K : ∀ e g h' tk led' news', Fr h₀ L g m -> RaisedSN base g (env :: outer) e (.ref 59) news' h' -> g.UpToSlots h' -> Sp env L m ρ ko led' news' -> Inc led led' -> E (.ref e) (sw s h' tk)) : wpAny (model prog w) A (eval (.Call (.Name x xpos) (e0 :: es) [] pos) env) Q E s := by
 refine Rows.Call_ (zBl hs Si S hk hd e ?_)
 simp only [List.all_cons, Bool.and_eq_true] at hst
 refine callWith_K (h₀ := h₀) Si.X (hkeep _) ?_ (zB hst.1) (by rw [zAr]; exact zAa hst.2)
 refine ha prog w A env h₀ L s m ko led news _ E pos hs Si S fun vs h' tk led' news' S' i r => ?_
 refine ⟨Si.X.keeps S'.F.keep, wpAny_call (hc prog w A env h₀ L (sw s h' tk) m ρ ko led' news' vs _ A₀ base outer env B hA hf Si.kd Si S' r fun e g h2 tk2 led2 news2 F2 R2 u2 S2 i2 => ?_)⟩
 exact K e g h2 tk2 led2 news2 F2 R2 u2 S2 (Inc.trans i i2)
end
theorem callr_of_body {r names} {k n : Nat} {ex ds} (G : Gd r names k ex) (hk : ds.length = k)
  (hx : ExT (zD r.st).names (vals names (ds ++ ex)) n (zG r.st)) : CallR (n + 1) r.f ds := by
 intro prog w A env h₀ L s m ρ ko led news vs Rr A₀ base outer fenv B hA hfr hke Si S rr K
 refine enterP G hk B hA hfr hke Si S rr fun g L' h₁ tk mm FG B' Si' S' => ?_
 refine hx prog w _ _ g L' (sw s h₁ tk) _ _ led _ _ _ A base (fenv :: outer) B' (Around.frames_deeper hA) rfl rfl rfl Si' S' fun e g2 h2 tk2 m2 ρ2 led2 news2 F2 R2 u2 S2 i2 => ?_
 refine leave_onSN (s' := (sw s h2 tk2)) B' F2 R2 u2 fun h3 R3 _ u3 => ?_
 exact K e g h3 tk2 led2 news2 FG R3 u3 (Sp.backG S S2 (fun p hp => hp) i2) i2
noncomputable def EvX (sc : zT) (ρ : Loc) (n : Nat) (e : Expr) : Prop :=
 ∀ (prog : Program) (w : World) (A : Around) (env : Env) (h₀ : Heap) (L : Addr) (s : Shared) (m : Str -> Option Value) (ko led news : Led) (Q E : Value -> Shared -> Prop) (A₀ : Around) (base : Heap) (outer : List Env),
  Below A₀ base outer h₀ -> A.frames = some (env :: outer) -> env.frame = some L -> env.scope.names = sc -> Sit w A env h₀ L n -> St env h₀ L s.heap m ρ ko led news ->
  (∀ e g h' tk led' news', Fr h₀ L g m -> RaisedSN base g (env :: outer) e (.ref 59) news' h' -> g.UpToSlots h' -> Sp env L m ρ ko led' news' -> Inc led led' -> E (.ref e) (sw s h' tk)) -> wpAny (model prog w) A (eval e env) Q E s
section
variable {sc : zT} {ρ : Loc} {n : Nat}
theorem evx_of {x xp pos e es ds} {a : Nat} {r} (hr : r ∈ zAk) (hf : r.f = a) (c1 : zZ sc x = true) (c2 : zM x = true) (hg : fnd x gTab = some (.ref a)) (c4 : (e :: es).all zP = true) (h : evL noO ft n sc ρ (e :: es) = some ds) (hc : CallR n a ds) : EvX sc ρ n (.Call (.Name x xp) (e :: es) [] pos) :=
 fun prog w A env h₀ L s m ko led news Q E A₀ base outer B hA hf' hs Si S K => evx_call c1 c2 hg (fun P => zAv P hr hf) c4 (l_of h) hc B hA hf' hs Si S K
theorem ext_for {t it pos body orelse rest} (h : EvX sc ρ n it) : ExT sc ρ n (.For t it body orelse pos :: rest) := by
 intro prog w A env h₀ L s m ko led news Q E A₀ base outer B hA hf hs hl Si S K
 refine wpAny_execs_cons ?_
 rw [arm_exec_For]
 exact wpAny_bind (wpAny_standAt (wpAny_bind (h prog w A env h₀ L s m ko led news _ E A₀ base outer B hA hf hs Si S fun e g h' tk led' news' F R u S' i => K e g h' tk m ρ led' news' F R u S' i)))
theorem ext_ret {e pos rest} (h : EvX sc ρ n e) : ExT sc ρ n (.Return (some e) pos :: rest) := by
 intro prog w A env h₀ L s m ko led news Q E A₀ base outer B hA hf hs hl Si S K
 exact wpAny_execs_cons (wpAny_Return_some (h prog w A env h₀ L s m ko led news _ E A₀ base outer B hA hf hs Si S fun e g h' tk led' news' F R u S' i => K e g h' tk m ρ led' news' F R u S' i))
theorem ext_assign {x px e pos rest} (hn : zBx e = true) (h : EvX sc ρ n e) : ExT sc ρ n (.Assign [.Name x px] e pos :: rest) := by
 intro prog w A env h₀ L s m ko led news Q E A₀ base outer B hA hf hs hl Si S K
 exact wpAny_execs_cons (wpAny_Assign_Name (h prog w A env h₀ L s m ko led news _ E A₀ base outer B hA hf hs Si S fun e g h' tk led' news' F R u S' i => K e g h' tk m ρ led' news' F R u S' i) (noSwap hn _ _ _))
end
inductive Root (w : World) (A : Around) (h₀ : Heap) (L : Addr) : Prop
 | mk (A₀ : Around) (base : Heap) (cn : Str) (cs : Scope) (a : Addr) (ccd : Value) : Below A₀ base [] h₀ -> A.frames = some [envOf cn cs L a ccd] -> cs.kind = .function -> (KW w.params).In base -> (∃ mean mg mb, Top topProg looseT mean mg mb base) -> Root w A h₀ L
noncomputable def CallZ (n : Nat) (f : Addr) (ds : List D) (d : D) : Prop :=
 ∀ (prog : Program) (w : World) (A : Around) (env : Env) (h₀ : Heap) (L : Addr) (s : Shared) (m : Str -> Option Value) (ρ : Loc) (ko led news : Led) (vs : List Value) (Rr : Result -> Shared -> Prop),
  Root w A h₀ L -> Sit w A env h₀ L n -> St env h₀ L s.heap m ρ ko led news -> Rs led ds vs -> Kept env h₀ L m ρ ko led s (fun l v => R l d v) (fun v s' => Rr (.ok (.ret v)) s') -> codeAny (model prog w) A (.call (.ref f) ⟨vs, []⟩) Rr s
theorem zF.z {n f ds d} (h : zF n f ds d) : CallZ n f ds d := fun prog w A env h₀ L s m ρ ko led news vs Rr _ Si S r K => h prog w A env h₀ L s m ρ ko led news vs Rr Si S r K
inductive Catch (sc : zT) : List Stmt -> List Stmt -> D -> Prop
 | lst {x np hp rp lp orelse pos rest tb} : zZ sc x = true -> zM x = true -> x = S' "OperandError" -> Catch sc (.Try tb [.ExceptHandler (some (.Name x np)) none [.Return (some (.List [] lp)) rp] hp] orelse [] pos :: rest) tb (.lst [])
 | none {x np hp rp k lp orelse pos rest tb} : zZ sc x = true -> zM x = true -> x = S' "OperandError" -> Catch sc (.Try tb [.ExceptHandler (some (.Name x np)) none [.Return (some (.Constant .none k lp)) rp] hp] orelse [] pos :: rest) tb .none
theorem gOE : fnd (S' "OperandError") gTab = some (.ref 59) := by rfl'
theorem callz_catch {r names} {k n : Nat} {ex ds d tb} (G : Gd r names k ex) (hk : ds.length = k)
  (hc : Catch (zD r.st).names (zG r.st) tb d) (hx : ExT (zD r.st).names (vals names (ds ++ ex)) n tb) : CallZ (n + 1) r.f ds d := by
 intro prog w A env h₀ L s m ρ ko led news vs Rr Ro Si S rr K
 obtain ⟨A₀, base, cn, cs, ca, ccd, B, hA, hck, XB, ⟨mean, mg, mb, TB⟩⟩ := Ro
 obtain ⟨h1, h2, h3, h4⟩ := plainSc_of G.hsc
 obtain ⟨e1, e2⟩ := fn_ok w.params r G.hr
 rw [fnO_eq] at e1
 obtain ⟨es, re, hbind, hl, hz, hlo⟩ := G.go (s := s) (Si.X.keeps S.F.keep) ((Rs.length rr).symm.trans hk)
 have hall : Rs led (ds ++ ex) (vs ++ es) := Rs.append rr (Rs.mono (led := []) (by intro p hp; cases hp) re)
 refine code_defS0 B S.F Si.X S.N (TB.keeps B.stays) hA e1 e2 Si.d0 hbind hlo (fun g L' h₁ FG F' N' B' X' T' D' => ?_) hck h1 h2 h3 h4
 ·have S' := S.enterG G F' N' hz hall
  have Si' : Sit w (A.deeper (fE r L')) (fE r L') g L' n := Si.deep hA B' X' ⟨mean, mg, mb, T'⟩ rfl h3 rfl rfl
  have fin : ∀ (x : Str) (np hp rp : Pos) (rv : Expr) (orelse rest : List Stmt) (tp : Pos), zZ (zD r.st).names x = true -> zM x = true -> x = Mine.S' "OperandError" -> ((∃ p, rv = .List [] p ∧ d = .lst []) ∨ (∃ k p, rv = .Constant .none k p ∧ d = .none)) ->
    wpAny (model prog w) (A.deeper (fE r L')) (execs (.Try tb [.ExceptHandler (some (.Name x np)) none [.Return (some rv) rp] hp] orelse [] tp :: rest) (fE r L'))
     (fun fl s' => LeaveS0 ([envOf cn cs L ca ccd].filterMap (·.frame)) h₀ L m g Rr (match fl with | .ret v => v | _ => .none) s')
     (fun e s' => wpAny (model prog w) (A.deeper (fE r L')) (leaving (fE r L') e) (fun _ s'' => Rr (.error e) s'') (fun e' s'' => Rr (.error e') s'') s')
     (sw s h₁ (s.toks + (names.zip (vs ++ es)).length)) := by
   intro x np hp rp rv orelse rest tp c1 c2 c3 hrv
   subst c3
   refine wpAny_execs_cons (wpAny_Try_except ?_)
   refine hx prog w _ _ g L' (sw s h₁ _) _ (koOf led news) led news _ _ A base [envOf cn cs L ca ccd] B' (Around.frames_deeper hA) rfl rfl rfl Si' S' fun e g2 h2 tk2 m2 ρ2 led2 news2 F2 R2 u2 S2 i2 => ?_
   refine kts_lookSN (s' := (sw s h2 tk2)) R2 F2 B' u2 D' fun h5 R3 u3 => ?_
   refine hit_SN0 (s' := (sw s h5 tk2)) (KF := KW w.params) (p := topProg) (loose := looseT) R3 F2 B' u3 XB TB D' KtsTurn.refl (test_name (c := .ref 59) (.inl ?_) (excK_ok w.params).one h3 (glob_kind rfl c1) (ne_of_notDbg c2).1) fun h6 g6 T6 F6 N6 B6 X6 P6 D6 => ?_
   ·have := List.all_eq_true.mp (g_ok w.params) _ (fnd_mem gOE)
    exact beq_iff_eq.mp this
   have S6 := S2.st F6 N6
   have back : ∀ {h7 led7 news7} {v}, St (fE r L') g6 L' h7 m2 ρ2 (koOf led news) led7 news7 -> (Inc led led7) -> R led7 d v -> LeaveS0 ([envOf cn cs L ca ccd].filterMap (·.frame)) h₀ L m g Rr v (sw s h7 tk2) := fun {h7 led7 news7 v} S7 i7 r7 =>
    leaveS0_ S7.F S7.N T6 fun F8 N8 => K v h7 tk2 led7 news7 ((Sp.backG S S7.sp (fun p hp => hp) i7).st F8 N8) i7 r7
   refine wpAny_execs_cons (wpAny_Return_some ?_)
   rcases hrv with ⟨p, rfl, rfl⟩ | ⟨k', p, rfl, rfl⟩
   ·refine List_ (args_nil ?_)
    refine new_own (s := (sw s h6 tk2)) S6 (by have : sizeLine = 2 ^ 24 := rfl; simp) fun a h7 news7 S7 hm n1 n2 ⟨mm, X, ap⟩ => ?_
    refine back (S7.shareList X hm n2 ap) (fun p hp => .tail _ (i2 p hp)) ?_
    exact R_lst (vs := []) (.head _) Rs.nil
   ·exact Rows.Constant_none (back S6 i2 R_none)
  generalize zG r.st = body at hc
  cases hc with
  | lst c1 c2 c3 => exact fin _ _ _ _ _ _ _ _ c1 c2 c3 (.inl ⟨_, rfl, rfl⟩)
  | none c1 c2 c3 => exact fin _ _ _ _ _ _ _ _ c1 c2 c3 (.inr ⟨_, _, rfl, rfl⟩)
noncomputable def Sub (ρ ρ' : Loc) : Prop := ∀ x lv, fnd x ρ' = some lv -> fnd x ρ = some lv
theorem St.forget {env h₀ L h m ρ ρ' ko led news} (S : St env h₀ L h m ρ ko led news) (hs : Sub ρ ρ') : St env h₀ L h m ρ' ko led news where
 F := S.F
 N := S.N
 nd := S.nd
 kon := S.kon
 sub := S.sub
 dis := S.dis
 tab := S.tab
 loc := by
  obtain ⟨mm, X⟩ := S.loc
  exact ⟨mm, X.lc, fun x lv e => X.at' x lv (hs _ _ e), fun x y lx ly v e1 e2 => X.inj x y lx ly v (hs _ _ e1) (hs _ _ e2)⟩
theorem Sub.nil {ρ} : Sub ρ [] := fun x lv e => by cases e
theorem Sub.cons {ρ ρ' x} {lv : LV} (h : fnd x ρ = some lv) (t : Sub ρ ρ') : Sub ρ ((x, lv) :: ρ') := fun y l e => by
 unfold fnd at e
 split at e
 ·rename_i q
  obtain rfl := zW.mp q
  rw [← e]; exact h
 ·exact t y l e
theorem exs_forget {sc ρ ρ' n ss fl ρ2} (hs : Sub ρ ρ') (h : ExS sc ρ' n ss fl ρ2) : ExS sc ρ n ss fl ρ2 := fun prog w A env h₀ L s m ko led news Q h1 h2 Si S K => h prog w A env h₀ L s m ko led news Q h1 h2 Si (S.forget hs) K
theorem exsq_forget {Pe sc ρ ρ' n ss fl ρ2} (hs : Sub ρ ρ') (h : ExSq Pe sc ρ' n ss fl ρ2) : ExSq Pe sc ρ n ss fl ρ2 := fun prog w A env h₀ L s m ko led news Q hp h1 h2 Si S K => h prog w A env h₀ L s m ko led news Q hp h1 h2 Si (S.forget hs) K
theorem need_ok {sc ρ rows f a b p q} (hg : zZ sc (S' "need_one") = true) (hr : fnd (S' "rows") ρ = some (.val (.lst rows))) (hf : fnd (S' "refusals") ρ = some (.val (.lst []))) (hne : rows ≠ []) (hl : rows.length ≤ 10000) : Ex1 sc ρ 97 (.Expr (.Call (.Name (S' "need_one") f) [.Name (S' "rows") a, .Name (S' "refusals") b] [] p) q) .next ρ :=
 ex1_expr rfl (ev_call hg (by rfl') (by rfl') (fun P => zAv P mem_fn950 rfl) rfl (zH rfl (zJ hr (by rfl')) (zH rfl (zJ hf (by rfl')) zO)) (call_need hne hl))
theorem e0_ok {sc elts} {k k' : Nat} {p1 p2 p3 p4 p5} {n : Nat} {ρ} (h1 : swapNames sc elts [.List [] p1, .List [] p2] = some [S' "rows", S' "refusals"]) (h2 : zAu sc (S' "rows") = true) (h3 : zAu sc (S' "refusals") = true) : Ex1 sc ρ n (.Assign [.Tuple elts k p3] (.Tuple [.List [] p1, .List [] p2] k' p4) p5) .next (put (S' "rows") (.own []) (put (S' "refusals") (.own []) ρ)) :=
 ex1_two h1 h2 h3 rfl (l1 := .own []) (l2 := .own []) (evo_list zO rfl) (evo_list zO rfl)
noncomputable abbrev rhoII (is I : D) : Loc := [(S' "iset", .val is), (S' "instruction", .val I)]
noncomputable abbrev rho0 (is I : D) : Loc := put (S' "rows") (.own []) (put (S' "refusals") (.own []) (rhoII is I))
theorem rho0_inv (is I : D) : InvE is I (rho0 is I) [] := ⟨by rfl', by rfl', by rfl', by rfl'⟩
theorem body955 : zG r955.st = [stAt r955 0, stAt r955 1, stAt r955 2, stAt r955 3] := by rfl'
theorem enc_s0 {ρ} {n : Nat} : Ex1 sc955 ρ n (stAt r955 0) .next (put (S' "rows") (.own []) (put (S' "refusals") (.own []) ρ)) := e0_ok (by rfl') (by rfl') (by rfl')
theorem call_encodings {is I} {M : List Fit} {qs outs : List (D × D × D × D)} (h936 : zF 97 936 [is, I] (.lst (M.map Fit.f))) (hM : ∀ m ∈ M, FitOK 96 I m) (hq : zBs M = qs.map quadT) (hne : qs ≠ []) (hl : qs.length < 60) (hs : SortOK (qs.map keyT) (qs.map quadT) (outs.map quadT) ∨ (qs.length < 2 ∧ outs = qs)) (ho : outs.length ≤ 60) :
  zF 98 955 [is, I] (.lst (outs.map fun q => q.2.2.2)) := by
 have hlen : (zBs M).length = qs.length := by rw [hq, List.length_map]
 obtain ⟨ρ', lp, v⟩ := enc_outer (n := 96) (is := is) (rho0_inv is I) (M := M) (by simp; lia) hM
 rw [List.nil_append] at v
 have key : ExSq (FrameOf r955) sc955 (rhoII is I) 97 (zG r955.st) (.ret (.lst (outs.map fun q => q.2.2.2))) (rhoE is I (zBs M)) := by
  rw [body955]
  refine exsq_next enc_s0 (exsq_next (ρ1 := ρ') (ex1_for_list (by rfl') rfl (zAp (ds := [is, I]) mem_fn936 rfl (by rfl') (by rfl') (by rfl') rfl (by rfl') h936) lp) ?_)
  refine exsq_next (zCd v.r (zCd (by rw [zE (by rfl')]; exact v.f) (need_ok (rows := zBs M) (by rfl') ?_ ?_ (by rw [hq]; simpa using hne) (by lia)))) (exsq_forget (ρ' := rhoE is I (zBs M)) ?_ ?_)
  ·rw [zE (by rfl'), zN, zI]; rfl
  ·rw [zN, zI]; rfl
  ·refine .cons ?_ (.cons ?_ (.cons ?_ (.cons ?_ .nil)))
   ·rw [zE (by rfl'), zE (by rfl')]; exact v.i
   ·rw [zE (by rfl'), zE (by rfl')]; exact v.l
   ·rw [zE (by rfl'), zN, zI]; rfl
   ·rw [zN, zI]; rfl
  ·rw [hq]
   exact enc_last hs hl ho
 exact call_of_bodyq (n := 97) (ds := [is, I]) g955 rfl key rfl
theorem exr_raiseS {sc ρ} {n : Nat} {t x np cpos rpos pos arg more b rest} (ht : EvT sc ρ (n + 2) t true) (hx : zZ sc x = true) (hd : zM x = true) (ex : fnd x gTab = some (.ref 59)) (hst : zP arg = true) (he : (evE noO ft (n + 2) sc ρ arg).isSome = true) :
  ExR sc ρ (n + 2) (.If t (.Raise (some (.Call (.Name x np) [arg] [] cpos)) none rpos :: more) b pos :: rest) := by
 obtain ⟨d, e⟩ := Option.isSome_iff_exists.mp he
 exact exr_raise ht hx hd ex hst (e_of e)
theorem ff_raise {is A B fs} : ExR sc936 (R3 is (zAn A B) fs []) 96 [st936 3, st936 4, st936 5] :=
 exr_raiseS (n := 94) (evT_cmp1 rfl (zAx (by rfl') (by rfl') (by rfl') rfl rfl (zH rfl (zJ (d := .lst []) (by rfl') (by rfl')) zO) (blt_len (k := 0) rfl rfl)) (zAb (d := .int 0) rfl) rfl) (by rfl') (by rfl') gOE rfl (by rfl')
theorem call_ffr {rs A B} {l : List (D × Bool)} (hl : l.length ≤ 100) (hne : l ≠ []) (hk : keepF l = []) (h1 : zF 96 1000 [isetD rs, strD "deed"] (.lst (l.map (·.1)))) (hc : ∀ p ∈ l, zF 96 268 [p.1, zAn A B] (.bool p.2)) : CallR 97 936 [isetD rs, zAn A B] := by
 have key : ExR sc936 (rho936 (isetD rs) (zAn A B)) 96 (zG r936.st) := by
  rw [body936]
  refine exr_next (ff1 h1) (exr_next (ff2 (by simpa using hne) (by simp; lia)) (exr_next (ff3 (by lia) hc) ?_))
  rw [hk]
  refine exr_share (x := S' "forms") (by rw [zN, zI]; rfl) ?_
  rw [put_put]
  exact ff_raise
 exact callr_of_bodyC (y := S' "instruction") (n := 96) (ds := [isetD rs, zAn A B]) mem_fn936 (by rfl') (by rfl') (by rfl') b936 rfl (by rfl') rfl (fun n => by rfl') (by rfl') (by rfl') key
theorem call_encr {is I} (h936 : CallR 97 936 [is, I]) : CallR 98 955 [is, I] := by
 have key : ExT sc955 (rhoII is I) 97 (zG r955.st) := by
  rw [body955]
  exact ext_next enc_s0 (ext_for (evx_of (ds := [is, I]) mem_fn936 rfl (by rfl') (by rfl') (by rfl') rfl (by rfl') h936))
 exact callr_of_body (n := 97) (ds := [is, I]) g955 rfl key
end
end Mine
end
section
open PySem PySem.W PyProof.Rows PySem.Calls PyProof PySem.SeqAt
set_option Elab.async false
set_option maxRecDepth 100000
set_option linter.all false
set_option genInjectivity false
set_option genSizeOf false
namespace Mine
variable [hF : HashFn]
noncomputable section
noncomputable abbrev sc962 : zT := (zD r962.st).names
noncomputable def lstIn : List Stmt := stB1 (stAt r962 1)
noncomputable def lstBest : List Stmt := stB1 (stAt r962 4)
structure LF where
 r : Row
 num : Int
 sh : D
 oct : List UInt8
noncomputable def LF.f (m : LF) : D := zV m.r m.num
noncomputable def LF.e (m : LF) : D := encD m.oct m.f m.sh
noncomputable def LF.row (m : LF) : D := .tup [.int (m.oct.length : Nat), .int m.num, m.e]
structure LFOK (n : Nat) (I : D) (m : LF) : Prop where
 l : m.oct.length ≤ 1000
 t : zF (n + 1) 943 [m.f, I, .none] m.e
theorem least_body {n : Nat} {ρ is I} {m : LF} {acc} (v : InvE is I ρ acc) (hf : fnd (S' "form") ρ = some (.val m.f)) (hl : acc.length ≤ 1000) (ho : LFOK n I m) :
  ExS sc962 ρ (n + 1) lstIn .next (put (S' "rows") (.own (acc ++ [m.row])) (put (S' "made") (.val m.e) ρ)) := by
 have hm : ∀ ρ : Loc, fnd (S' "made") (put (S' "made") (.val m.e) ρ) = some (.val (encD m.oct m.f m.sh)) := fun ρ => by rw [zN, zI]; rfl
 have hf' : fnd (S' "form") (put (S' "made") (.val m.e) ρ) = some (.val (zV m.r m.num)) := (zE (by rfl')).trans hf
 have hr' : fnd (S' "rows") (put (S' "made") (.val m.e) ρ) = some (.own acc) := (zE (by rfl')).trans v.r
 have hlen : lenD (.bytes m.oct) = some m.oct.length := rfl
 have hol := ho.l
 exact zK (zBc (by rfl') rfl (ev_call (by rfl') (by rfl') (by rfl') (fun P => zAv P mem_fn943 rfl) rfl (zH rfl (zJ hf (by rfl')) (zH rfl (zJ v.l (by rfl')) (zH rfl (zAb rfl) zO))) ho.t)) (zK (ex1_if (c := true) (evT_plain rfl (ev_isinst (C := 837) (by rfl') (by rfl') (by rfl') rfl (zJ (hm ρ) (by rfl')) (by rfl') (by rfl') (by rfl'))) (zK (ex1_append hr' (by rfl') (by rfl') (Nat.ble_eq_true_of_le (by lia)) rfl (by rfl') (ev_tuple (zH rfl (zAx (by rfl') (by rfl') (by rfl') rfl rfl (zH rfl (ev_attr rfl (zJ (hm ρ) (by rfl')) (by rfl') (by rfl')) zO) (blt_len hlen (Nat.ble_eq_true_of_le (by lia)))) (zH rfl (ev_attr rfl (zJ hf' (by rfl')) (by rfl') (by rfl')) (zH rfl (zJ (hm ρ) (by rfl')) zO))) rfl)) zAh)) zAh)
theorem least_outer {n : Nat} {is I} : ∀ {M : List LF} {ρ acc}, InvE is I ρ acc -> acc.length + M.length ≤ 1000 -> (∀ m ∈ M, LFOK n I m) ->
  ∃ ρ', Lp PT sc962 (n + 1) (S' "form") lstIn ρ (M.map LF.f) .next ρ' ∧ InvE is I ρ' (acc ++ M.map LF.row)
 | [], ρ, acc, v, hl, hc => ⟨ρ, .nil, by simpa using v⟩
 | m :: t, ρ, acc, v, hl, hc => by
  have v1 : InvE is I (put (S' "form") (.val m.f) ρ) acc := v.put (by rfl') (by rfl') (by rfl') (by rfl')
  have hf1 : fnd (S' "form") (put (S' "form") (.val m.f) ρ) = some (.val m.f) := by rw [zN, zI]; rfl
  have hx := least_body v1 hf1 (by simp at hl; lia) (hc m (.head _))
  have v2 : InvE is I (put (S' "rows") (.own (acc ++ [m.row])) (put (S' "made") (.val m.e) (put (S' "form") (.val m.f) ρ))) (acc ++ [m.row]) :=
   have w := v1.put (x := S' "made") (lv := .val m.e) (by rfl') (by rfl') (by rfl') (by rfl')
   ⟨(zE (by rfl')).trans w.i, (zE (by rfl')).trans w.l, by rw [zN, zI]; rfl, (zE (by rfl')).trans w.f⟩
  obtain ⟨ρ2, lp, v3⟩ := least_outer (n := n) (M := t) v2 (by simp at hl ⊢; lia) fun q hq => hc q (.tail _ hq)
  refine ⟨ρ2, .next (ExS.q @hx) (.inl rfl) lp, ?_⟩
  rw [List.append_assoc] at v3
  exact v3
noncomputable def ltLF (a b : LF) : Bool := decide (((a.oct.length : Nat) : Int) < (b.oct.length : Nat)) || ((((a.oct.length : Nat) : Int) == (b.oct.length : Nat)) && decide (a.num < b.num))
noncomputable def bestOf : LF -> List LF -> LF
 | b, [] => b
 | b, m :: t => bestOf (if ltLF m b then m else b) t
theorem ix_ok {x p q r} {u : Nat} {k : Nat} {sc ρ} {n : Nat} {ds d} (hx : fnd x ρ = some (.val (.tup ds))) (hd : zM x = true) (hk : itemAt (.tup ds) (k : Nat) = some d) : EvE sc ρ n (.Subscript (.Name x p) (.Constant (.int (.ofNat k)) u q) r) d := ev_idx rfl (zJ hx hd) (zAb rfl) hk
theorem best_loop {n : Nat} : ∀ {M : List LF} {ρ} {b : LF}, fnd (S' "best") ρ = some (.val b.row) -> ∃ ρ', Lp PT sc962 (n + 1) (S' "row") lstBest ρ (M.map LF.row) .next ρ' ∧ fnd (S' "best") ρ' = some (.val (bestOf b M).row)
 | [], ρ, b, h => ⟨ρ, .nil, h⟩
 | m :: t, ρ, b, h => by
  have hr : fnd (S' "row") (put (S' "row") (.val m.row) ρ) = some (.val m.row) := by rw [zN, zI]; rfl
  have h' : fnd (S' "best") (put (S' "row") (.val m.row) ρ) = some (.val b.row) := (zE (by rfl')).trans h
  have nd1 : zM (S' "row") = true := by rfl'
  have nd2 : zM (S' "best") = true := by rfl'
  have step : ∀ {c ρ1}, ltLF m b = c -> (ρ1 = if c then put (S' "best") (.val m.row) (put (S' "row") (.val m.row) ρ) else put (S' "row") (.val m.row) ρ) -> ExS sc962 (put (S' "row") (.val m.row) ρ) (n + 1) lstBest .next ρ1 := fun {c ρ1} hc hρ => by
   refine zK (ex1_if (c := c) ?_ ?_) zAh
   ·rw [← hc]
    refine evT_or (b := (((m.oct.length : Nat) : Int) == (b.oct.length : Nat)) && decide (m.num < b.num)) (evT_cmp1 rfl (ix_ok hr nd1 rfl) (ix_ok h' nd2 rfl) rfl) fun _ => ?_
    have : ∀ x : Bool, x = (x || false) := fun x => by cases x <;> rfl
    rw [this (_ && _)]
    refine evT_or ?_ fun _ => evT_or_nil
    have : ∀ x y : Bool, (x && y) = (x && (y && true)) := fun x y => by cases x <;> cases y <;> rfl
    rw [this]
    exact evT_and (evT_cmp1 rfl (ix_ok hr nd1 rfl) (ix_ok h' nd2 rfl) rfl) fun _ => evT_and (evT_cmp1 rfl (ix_ok hr nd1 rfl) (ix_ok h' nd2 rfl) rfl) fun _ => evT_and_nil
   ·subst hρ
    cases c with
    | true => exact zK (zBc (by rfl') rfl (zJ hr nd1)) zAh
    | false => exact zAh
  cases hl : ltLF m b with
  | true =>
   obtain ⟨ρ2, lp, h2⟩ := best_loop (n := n) (M := t) (ρ := put (S' "best") (.val m.row) (put (S' "row") (.val m.row) ρ)) (b := m) (by rw [zN, zI]; rfl)
   refine ⟨ρ2, .next (ExS.q (step hl rfl)) (.inl rfl) lp, ?_⟩
   unfold bestOf; rw [hl]; exact h2
  | false =>
   obtain ⟨ρ2, lp, h2⟩ := best_loop (n := n) (M := t) (ρ := put (S' "row") (.val m.row) ρ) (b := b) h'
   refine ⟨ρ2, .next (ExS.q (step hl rfl)) (.inl rfl) lp, ?_⟩
   unfold bestOf; rw [hl]; exact h2
theorem body962 : zG r962.st = [stAt r962 0, stAt r962 1, stAt r962 2, stAt r962 3, stAt r962 4, stAt r962 5] := by rfl'
theorem lst_s0 {ρ} {n : Nat} : Ex1 sc962 ρ n (stAt r962 0) .next (put (S' "rows") (.own []) (put (S' "refusals") (.own []) ρ)) := e0_ok (by rfl') (by rfl') (by rfl')
noncomputable abbrev rhoR (rows : List D) : Loc := [(S' "rows", .val (.lst rows))]
theorem lst_s3 (d : D) (rows : List D) : evS noO ft 97 sc962 (rhoR (d :: rows)) [stAt r962 3] = some (.next, put (S' "best") (.val d) (rhoR (d :: rows))) := by rfl'
theorem lst_s5 (a b d : D) : evS noO ft 97 sc962 [(S' "best", .val (.tup [a, b, d]))] [stAt r962 5] = some (.ret d, [(S' "best", .val (.tup [a, b, d]))]) := by rfl'
theorem call_least {is I} {m0 : LF} {M : List LF} (h936 : zF 97 936 [is, I] (.lst ((m0 :: M).map LF.f))) (hM : ∀ m ∈ m0 :: M, LFOK 96 I m) (hl : M.length ≤ 900) : zF 98 962 [is, I] (bestOf m0 (m0 :: M)).e := by
 obtain ⟨ρ', lp, v⟩ := least_outer (n := 96) (is := is) (rho0_inv is I) (M := m0 :: M) (by simp; lia) hM
 rw [List.nil_append] at v
 obtain ⟨ρ4, lp4, hb4⟩ := best_loop (n := 96) (M := m0 :: M) (ρ := put (S' "best") (.val m0.row) (rhoR (m0.row :: M.map LF.row))) (b := m0) (by rw [zN, zI]; rfl)
 have key : ExS sc962 (rhoII is I) 97 (zG r962.st) (.ret (bestOf m0 (m0 :: M)).e) [(S' "best", .val (bestOf m0 (m0 :: M)).row)] := by
  rw [body962]
  refine zK lst_s0 (zK (ρ1 := ρ') (ex1_for_list (by rfl') rfl (zAp (ds := [is, I]) mem_fn936 rfl (by rfl') (by rfl') (by rfl') rfl (by rfl') h936) lp) ?_)
  refine zK (zCd v.r (zCd (by rw [zE (by rfl')]; exact v.f) (need_ok (rows := (m0 :: M).map LF.row) (by rfl') ?_ ?_ (by simp) (by simp; lia)))) (exs_forget (ρ' := rhoR (m0.row :: M.map LF.row)) ?_ ?_)
  ·rw [zE (by rfl'), zN, zI]; rfl
  ·rw [zN, zI]; rfl
  ·exact .cons (by rw [zE (by rfl'), zN, zI]; rfl) .nil
  ·exact exs_then (o := noO) (ft := ft) (ss := [stAt r962 3]) (m := 97) zBq zAi ft_ok (by lia) (lst_s3 _ _) (zK (ρ1 := ρ4) (ex1_for_list (by rfl') rfl (e_of (d := .lst (m0.row :: M.map LF.row)) (by rfl')) lp4) (exs_forget (ρ' := [(S' "best", .val (bestOf m0 (m0 :: M)).row)]) (.cons hb4 .nil) ((zBr zBq zAi ft_ok 97).s _ _ _ _ (lst_s5 _ _ _))))
 exact zR (n := 97) (ds := [is, I]) g962 rfl key rfl
theorem call_leastr {is I} (h936 : CallR 97 936 [is, I]) : CallR 98 962 [is, I] := by
 have key : ExT sc962 (rhoII is I) 97 (zG r962.st) := by
  rw [body962]
  exact ext_next lst_s0 (ext_for (evx_of (ds := [is, I]) mem_fn936 rfl (by rfl') (by rfl') (by rfl') rfl (by rfl') h936))
 exact callr_of_body (n := 97) (ds := [is, I]) g962 rfl key
end
end Mine
end
section
open PySem PySem.W PyProof.Rows PySem.Calls PyProof PySem.SeqAt
set_option Elab.async false
set_option maxRecDepth 100000
set_option linter.all false
namespace Mine
variable [hF : HashFn]
noncomputable section
theorem ex1_try_next {sc ρ ρ'} {n : Nat} {body} {h : ExceptHandler} {hs : List ExceptHandler} {pos} (hx : ExS sc ρ n body .next ρ') : Ex1 sc ρ n (.Try body (h :: hs) [] [] pos) .next ρ' := by
 intro prog w A env h₀ L s m ko led news Q hs' hl Si S K
 refine wpAny_Try_except ?_
 refine wpAny_mono (hx prog w A env h₀ L s m ko led news _ hs' hl Si S fun f h' tk m' led' news' S' i hf => ?_) (fun _ _ h => h) (fun _ _ e => e.elim)
 have : f = .next := hf
 subst this
 exact wpAny_execs_nil (K .next h' tk m' led' news' S' i rfl)
noncomputable abbrev rhoIL (is I : D) : Loc := [(S' "iset", .val is), (S' "line", .val I)]
noncomputable abbrev sc1178 : zT := (zD r1178.st).names
noncomputable abbrev tb1178 : List Stmt := stB1 (hdS (zG r1178.st))
theorem body1178 : zG r1178.st = [stAt r1178 0] := by rfl'
theorem hrd_catch : Catch sc1178 (zG r1178.st) tb1178 (.lst []) := .lst (by rfl') (by rfl') rfl
theorem call_heard {is I d} (h : zF 98 955 [is, I] d) : zF 99 1178 [is, I] d := by
 have key : ExS sc1178 (rhoIL is I) 98 (zG r1178.st) (.ret d) (rhoIL is I) := by
  rw [body1178]
  exact zAj rfl (ex1_try (zAj rfl (zBy (zAp (ds := [is, I]) mem_fn955 rfl (by rfl') (by rfl') (by rfl') rfl (by rfl') h))))
 exact zR (n := 98) (ds := [is, I]) g1178 rfl key rfl
theorem call_heardr {is I} (h : CallR 98 955 [is, I]) : CallZ 99 1178 [is, I] (.lst []) := by
 have key : ExT sc1178 (rhoIL is I) 98 tb1178 := ext_ret (evx_of (ds := [is, I]) mem_fn955 rfl (by rfl') (by rfl') (by rfl') rfl (by rfl') h)
 exact callz_catch (n := 98) (ds := [is, I]) g1178 rfl hrd_catch key
noncomputable abbrev sc1185 : zT := (zD r1185.st).names
noncomputable abbrev tb1185 : List Stmt := stB1 (hdS (zG r1185.st))
theorem lel_catch : Catch sc1185 (zG r1185.st) tb1185 .none := .none (by rfl') (by rfl') rfl
theorem lel_ret (is I : D) (r : Row) (num : Int) (oct : List UInt8) (sh : D) : evS noO ft 98 sc1185 (put (S' "found") (.val (encD oct (zV r num) sh)) (rhoIL is I)) (zG r1185.st).tail = some (.ret (.tup [.int num, .bytes oct]), put (S' "found") (.val (encD oct (zV r num) sh)) (rhoIL is I)) := by rfl'
theorem body1185 : zG r1185.st = stAt r1185 0 :: (zG r1185.st).tail := by rfl'
theorem call_lawleast {is I} {m : LF} (h : zF 98 962 [is, I] m.e) : zF 99 1185 [is, I] (.tup [.int m.num, .bytes m.oct]) := by
 have key : ExS sc1185 (rhoIL is I) 98 (zG r1185.st) (.ret (.tup [.int m.num, .bytes m.oct])) (put (S' "found") (.val m.e) (rhoIL is I)) := by
  rw [body1185]
  exact zK (ex1_try_next (zK (zBc (by rfl') rfl (zAp (ds := [is, I]) mem_fn962 rfl (by rfl') (by rfl') (by rfl') rfl (by rfl') h)) zAh)) ((zBr zBq zAi ft_ok 98).s _ _ _ _ (lel_ret is I m.r m.num m.oct m.sh))
 exact zR (n := 98) (ds := [is, I]) g1185 rfl key rfl
theorem call_lawleastr {is I} (h : CallR 98 962 [is, I]) : CallZ 99 1185 [is, I] .none := by
 have key : ExT sc1185 (rhoIL is I) 98 tb1185 := ext_assign rfl (evx_of (ds := [is, I]) mem_fn962 rfl (by rfl') (by rfl') (by rfl') rfl (by rfl') h)
 exact callz_catch (n := 98) (ds := [is, I]) g1185 rfl lel_catch key
theorem body969 : zG r969.st = [stAt r969 0] := by rfl'
theorem call_ilen {is I} {m : LF} (h : zF 98 962 [is, I] m.e) (ho : m.oct.length ≤ 1000) : zF 99 969 [is, I] (.int (m.oct.length : Nat)) := by
 have hlen : lenD (.bytes m.oct) = some m.oct.length := rfl
 have h : zF 98 962 [is, I] (encD m.oct m.f m.sh) := h
 have key : ExS (zD r969.st).names (rhoII is I) 98 (zG r969.st) (.ret (.int (m.oct.length : Nat))) (rhoII is I) := by
  rw [body969]
  exact zAj rfl (zBy (zAx (by rfl') (by rfl') (by rfl') rfl rfl (zH rfl (ev_attr rfl (zAp (ds := [is, I]) mem_fn962 rfl (by rfl') (by rfl') (by rfl') rfl (by rfl') h) (by rfl') (by rfl')) zO) (blt_len hlen (Nat.ble_eq_true_of_le (by lia)))))
 exact zR (n := 98) (ds := [is, I]) g969 rfl key rfl
theorem itemAt_mod {ds} {a : Int} {m : Nat} (hm : 0 < m) (hl : ds.length = m) (hs : m ≤ 1000) : ∃ d ∈ ds, itemAt (.lst ds) (a.fmod (Int.ofNat m)) = some d := by
 have hp : (0 : Int) < Int.ofNat m := Int.ofNat_lt.mpr hm
 have h0 := Int.fmod_nonneg_of_pos a hp
 have h1 := Int.fmod_lt_of_pos a hp
 generalize a.fmod (Int.ofNat m) = k at h0 h1
 obtain ⟨j, rfl⟩ := Int.eq_ofNat_of_zero_le h0
 have hm := Int.ofNat_lt.mp h1
 have hj : j < ds.length := hl.symm ▸ hm
 exact ⟨ds[j], List.getElem_mem hj, (item_nat (Nat.lt_of_lt_of_le hm (le_k hs rfl))).trans (List.getElem?_eq_getElem hj)⟩
theorem itemAt_modI {ws : List Int} {a : Int} {m : Nat} (hm : 0 < m) (hl : ws.length = m) (hs : m ≤ 1000) : ∃ w ∈ ws, itemAt (.lst (ws.map D.int)) (a.fmod (Int.ofNat m)) = some (.int w) := by
 obtain ⟨d, hd, hi⟩ := itemAt_mod (ds := ws.map D.int) (a := a) hm (by simpa using hl) hs
 obtain ⟨w, hw, rfl⟩ := List.mem_map.mp hd
 exact ⟨w, hw, hi⟩
theorem modD (a : Int) (m : Nat) (h : ((Int.ofNat m) != 0) = true) : binD .Mod (.int a) (.int (.ofNat m)) = some (.int (a.fmod (.ofNat m))) := gd_true h
theorem wr_s0 (a : D) : evS noO ft 29 (zD r1147.st).names [(S' "number", .val a)] ((zG r1147.st).take 1) = some (.next, [(S' "number", .val a), (S' "some", .val (.lst (zAo.map D.int)))]) := by rfl'
theorem call_worth (a : Int) : ∃ w ∈ zAo, zF 30 1147 [.int a] (.int w) := by
 obtain ⟨w, hw, hi⟩ := itemAt_modI (ws := zAo) (a := a) (m := 17) (by decide) (by rfl') (by decide)
 refine ⟨w, hw, ?_⟩
 have key : ExS (zD r1147.st).names [(S' "number", .val (.int a))] 29 (zG r1147.st) (.ret (.int w)) [(S' "number", .val (.int a)), (S' "some", .val (.lst (zAo.map D.int)))] := by
  have hb : zG r1147.st = (zG r1147.st).take 1 ++ [stAt r1147 1] := by rfl'
  rw [hb]
  exact exs_then (n := 29) zBq zAi ft_ok (by decide) (wr_s0 (.int a)) (zAj rfl (zBy (ev_idx rfl (zJ (d := .lst (zAo.map D.int)) (by rfl') (by rfl')) (zAx (by rfl') (by rfl') (bv := .type "int") (by rfl') rfl rfl (zH rfl (ev_bin (zJ (d := .int a) (by rfl') (by rfl')) (zAb (d := .int (.ofNat 17)) rfl) (modD a 17 rfl)) zO) (blt_int (k := a.fmod (.ofNat 17)) rfl)) hi)))
 exact zR (n := 29) (ds := [.int a]) g1147 rfl @key rfl
theorem bodyC_next {sc y ρ ρ1 n st rest fl} (h1 : Ex1 sc ρ n st .next ρ1) (h2 : BodyC sc y ρ1 n rest fl) : BodyC sc y ρ n (st :: rest) fl := by
 intro prog w A env h₀ L s m ko led news c o Q hs hl Si S hc hm hd hi hh K
 refine wpAny_execs_cons (h1 prog w A env h₀ L s m ko led news _ hs hl Si S fun f h' tk m' led' news' S' i hf => ?_)
 have : f = .next := hf
 subst this
 exact h2 prog w A env h₀ L _ m' ko led' news' c o Q hs hl Si S' hc hm hd hi hh fun f2 h2' tk2 m2 ρ2 ko2 led2 news2 S2 hk i2 hf2 => K f2 h2' tk2 m2 ρ2 ko2 led2 news2 S2 hk (Inc.trans i i2) hf2
noncomputable def allLoc (sc : zT) (ρ : Loc) : Bool := ρ.all fun p => isVal p.2 && zAu sc p.1
theorem allLoc_of {sc ρ x} {lv : LV} (h : allLoc sc ρ = true) (e : fnd x ρ = some lv) : ∃ d, lv = .val d ∧ zAu sc x = true := by
 have := List.all_eq_true.mp h _ (fnd_mem e)
 simp only [Bool.and_eq_true] at this
 cases lv with
 | val d => exact ⟨d, rfl, this.2⟩
 | own ds => cases this.1
 | obj C ns ds => cases this.1
theorem bodyC_asg {sc y ρ ρ'} {n : Nat} {py pos e rest fl d} (hy : fnd y sc = some .cell) (hn : zBx e = true) (ha : allLoc sc ρ = true) (he : EvE sc ρ n e d) (hr : ExS sc (put y (.val d) ρ) n rest fl ρ') : BodyC sc y ρ n (.Assign [.Name y py] e pos :: rest) fl := by
 intro prog w A env h₀ L s m ko led news c o Q hs hl Si S hc hm hd hi hh K
 refine wpAny_execs_cons (wpAny_Assign_Name (he prog w A env h₀ L s m ko led news _ _ hs Si S fun v h' tk led' news' S' i r => ?_) (noSwap hn _ _ _))
 have hky : env.kindOf y = some .cell := by rw [kind_of hs]; exact hy
 obtain ⟨v0, hd⟩ := hd
 have hcn := S'.kon _ hm
 have hmem := S'.N _ hcn
 refine wpAny_storeName_cell Si.kd hky hc ⟨o, hmem.1, hd⟩ fun h2 hv hs2 => ?_
 obtain ⟨o', ho', hd'⟩ := hv
 obtain ⟨g, U, hg⟩ := zCi S'.nd hcn
 have F2 : Fr h₀ L h2 m := S'.F.change hs2 hmem.2.1 hmem.2.2
 have N2 : News h₀ L h2 (g o') := fun p hp => by
  rcases (hg o' p).mp hp with rfl | ⟨h1, h3⟩
  ·exact ⟨ho', hmem.2⟩
  ·exact ⟨(hs2.2 p.1 h3).trans (S'.N p h1).1, (S'.N p h1).2⟩
 have hck : c ∈ keyL ko := zC hm
 have S2 : St env h₀ L h2 m (put y (.val d) ρ) (setK c o' ko) led' (g o') := by
  refine ⟨F2, N2, by rw [updF_keys U]; exact S'.nd, fun p hp => ?_, fun p hp => (hg o' p).mpr (.inr ⟨S'.sub p hp, fun e => (S'.dis c hck).1 (e ▸ zC (o := p.2) hp)⟩), fun b hb => S'.dis b (by rw [keyL_setK] at hb; exact hb), fun P hP => ?_, ?_⟩
  ·rcases mem_setK.mp hp with ⟨rfl, _⟩ | ⟨h1, h3⟩
   ·exact (hg _ _).mpr (.inl rfl)
   ·exact (hg _ _).mpr (.inr ⟨S'.kon p h1, h3⟩)
  ·obtain ⟨hnn, ps, hp, gd⟩ := S'.tab P hP
   exact ⟨hnn, ps, (hg _ _).mpr (.inr ⟨hp, fun (e : P = c) => (S'.dis c hck).2 (e ▸ hP)⟩), gd⟩
  ·obtain ⟨mm, X⟩ := S'.loc
   obtain rfl := S'.fn hl X
   refine ⟨mm, .fn hl rfl, fun x lv e => ?_, fun x z lx lz u e1 e2 g1 => ?_⟩
   ·rw [zN] at e
    split at e
    ·rename_i q
     obtain rfl := zW.mp q
     cases e
     exact ⟨v, .cel c o' (.inl hky) hc (mem_setK.mpr (.inl ⟨rfl, hck⟩)) hd', r, fun h => by cases h⟩
    ·obtain ⟨u, V, O, k⟩ := X.at' x lv e
     obtain ⟨d', rfl, hx⟩ := allLoc_of ha e
     have hkx := zL hs hx
     exact ⟨u, .loc hkx (V.local hkx), O, fun h => by cases h⟩
   ·rw [zN] at e1
    split at e1
    ·cases e1; cases g1
    ·obtain ⟨d', rfl, _⟩ := allLoc_of ha e1
     cases g1
 refine hr prog w A env h₀ L (sw s h2 tk) m (setK c o' ko) led' (g o') _ hs hl Si S2 fun f h3 tk3 m3 led3 news3 S3 i3 hf => ?_
 exact K f h3 tk3 m3 ρ' (setK c o' ko) led3 news3 S3 (fun p hp hne => mem_setK.mpr (.inr ⟨hp, hne⟩)) (Inc.trans i i3) hf
noncomputable abbrev sc1152 : zT := (zD r1152.st).names
noncomputable def bearRho (k : String) (w : Int) : Loc := [(S' "kind", .val (strD k)), (S' "worth", .val (.int w))]
noncomputable abbrev brS : Stmt := stAt r1152 3
noncomputable def bearRun (ρ : Loc) : Option D := orO (retO (evS noO ft 40 sc1152 ρ (zG r1152.st))) ((nextO (evS noO ft 40 sc1152 ρ ((zG r1152.st).take 3))).bind fun ρ1 => gd (allLoc sc1152 ρ1) ((evE noO ft 40 sc1152 ρ1 (stE brS)).bind fun d =>
 retO (evS noO ft 40 sc1152 (put (S' "low") (.val d) ρ1) ((zG r1152.st).drop 4))))
theorem bodyC_then {y} {n : Nat} {sc fl} {m : Nat} {ss rest ρ ρ1} (hm : m ≤ n) (h : evS noO ft m sc ρ ss = some (.next, ρ1)) (hr : BodyC sc y ρ1 n rest fl) : BodyC sc y ρ n (ss ++ rest) fl :=
 evS_ind (p := (.next, ρ1)) (M := fun ss ρ => BodyC sc y ρ n ss fl) zBq zAi ft_ok (fun _ => hr) bodyC_next (fun q => (ftE q).elim) hm h
theorem bear_body : zG r1152.st = (zG r1152.st).take 3 ++ (brS :: (zG r1152.st).drop 4) := by rfl'
theorem bear_sat {ρ} : Sat (fun d => BodyC sc1152 (S' "low") ρ 40 (zG r1152.st) (.ret d)) (bearRun ρ) :=
 .orO (fun d h => let ⟨_, e⟩ := retO_ok d h; (exs_of e).bodyC) (.bind nextO_ok fun ρ1 e => .gd fun hh => .bind .is fun d1 e1 => fun d h => by
  obtain ⟨ρ2, e2⟩ := retO_ok d h
  rw [bear_body]
  exact bodyC_then (Nat.le_refl _) e (bodyC_asg (by rfl') rfl hh (e_of e1) (exs_of e2)))
theorem bearRun_ok {k : String} {w : Int} {d} (h : bearRun (bearRho k w) = some d) : zF 41 1152 [strD k, .int w] d := by
 have key := bear_sat d h
 exact call_of_bodyC (y := S' "low") (n := 40) (ds := [strD k, .int w]) mem_fn1152 (by rfl') (by rfl') (by rfl') b1152 rfl (by rfl') rfl (fun n => by rfl') (by rfl') (by rfl') key rfl
noncomputable def tailD : Option (List UInt8) -> D
 | some b => .bytes b
 | none => .none
theorem bears_all : kinds2.map (fun k => zAo.map fun w => bearRun (bearRho k w)) = kinds2.map fun k => zAo.map fun w => some (tailD (bearsT k w)) := by rfl'
theorem call_bears {k : String} {w : Int} (hk : k ∈ kinds2) (hw : w ∈ zAo) : zF 41 1152 [strD k, .int w] (tailD (bearsT k w)) :=
 bearRun_ok (List.map_inj_left.mp (List.map_inj_left.mp bears_all k hk) w hw)
noncomputable def srt {α : Type} (κ : α -> Int) (xs : List α) : List α := xs.mergeSort fun a b => decide (κ a ≤ κ b)
theorem srt_perm {α : Type} {κ : α -> Int} {xs : List α} : (srt κ xs).Perm xs := List.mergeSort_perm _ _
theorem srt_le {α : Type} {κ : α -> Int} {xs : List α} : (srt κ xs).Pairwise fun a b => κ a ≤ κ b :=
 (List.pairwise_mergeSort (le := fun a b => decide (κ a ≤ κ b)) (fun a b c h1 h2 => decide_eq_true (Int.le_trans (of_decide_eq_true h1) (of_decide_eq_true h2))) (fun a b => (Bool.or_eq_true _ _).mpr ((Int.le_total _ _).imp decide_eq_true decide_eq_true)) xs).imp of_decide_eq_true
theorem srt_uniq {α : Type} {κ : α -> Int} {xs ys : List α} (hp : ys.Perm xs) (hs : ys.Pairwise fun a b => κ a ≤ κ b) (hinj : ∀ a ∈ xs, ∀ b ∈ xs, κ a = κ b -> a = b) : ys = srt κ xs :=
 List.Perm.eq_of_pairwise (le := fun a b => κ a ≤ κ b) (fun a b ha hb h1 h2 => hinj a (hp.mem_iff.mp ha) b (srt_perm.mem_iff.mp hb) (Int.le_antisymm h1 h2)) hs srt_le (hp.trans srt_perm.symm)
theorem nodup_at {α : Type} {κ : α -> Int} {xs : List α} (hnd : (xs.map κ).Nodup) {i j : Nat} (hi : i < xs.length) (hj : j < xs.length) (e : κ xs[i] = κ xs[j]) : i = j :=
 (List.getElem_inj (xs := xs.map κ) (h₀ := (List.length_map κ).symm ▸ hi) (h₁ := (List.length_map κ).symm ▸ hj) hnd).mp (by rw [List.getElem_map, List.getElem_map]; exact e)
theorem nodup_inj {α : Type} {κ : α -> Int} {xs : List α} (hnd : (xs.map κ).Nodup) : ∀ a ∈ xs, ∀ b ∈ xs, κ a = κ b -> a = b := fun a ha b hb e => by
 obtain ⟨i, hi, rfl⟩ := List.mem_iff_getElem.mp ha
 obtain ⟨j, hj, rfl⟩ := List.mem_iff_getElem.mp hb
 obtain rfl := nodup_at hnd hi hj e
 rfl
theorem map_getD {α : Type} {xs : List α} (g : α -> D) {i : Nat} (h : i < xs.length) : (xs.map g).getD i .none = g xs[i] := by
 rw [List.getD_eq_getElem?_getD, List.getElem?_map, List.getElem?_eq_getElem h]
 rfl
theorem sortOK_map {α : Type} {xs : List α} {κ : α -> Int} {kd f : α -> D} (hnd : (xs.map κ).Nodup) (hk : ∀ x ∈ xs, ∀ y ∈ xs, keyLt (kd x) (kd y) = some (decide (κ x < κ y))) (hi : ∀ x ∈ xs, isKey (kd x) = true) : SortOK (xs.map kd) (xs.map f) ((srt κ xs).map f) := by
 cases xs with
 | nil => exact ⟨fun _ => 0, fun i _ hi => absurd hi (Nat.not_lt_zero i), fun i _ hi => absurd hi (Nat.not_lt_zero i), rfl, rfl, fun p hp _ => by
   rw [List.Perm.eq_nil hp]
   show (List.mergeSort [] _).map f = _
   rw [List.mergeSort_nil]
   rfl⟩
 | cons x0 t =>
  generalize x0 :: t = xs at *
  have lk : ∀ {i}, i < (xs.map kd).length -> i < xs.length := fun h => (List.length_map kd) ▸ h
  have ga : ∀ {i} (h : i < xs.length), xs.getD i x0 = xs[i] := fun h => (List.getElem_eq_getD x0).symm
  refine ⟨fun i => κ (xs.getD i x0), fun i j hi hj e => ?_, fun i j hi hj => ?_, ?_, (List.length_map kd).trans (List.length_map f).symm, fun p hp hu => ?_⟩
  ·have e : κ (xs.getD i x0) = κ (xs.getD j x0) := e
   rw [ga (lk hi), ga (lk hj)] at e
   exact nodup_at hnd (lk hi) (lk hj) e
  ·rw [map_getD kd (lk hi), map_getD kd (lk hj), ga (lk hi), ga (lk hj)]
   exact hk _ (List.getElem_mem _) _ (List.getElem_mem _)
  ·rw [List.all_map]
   exact List.all_eq_true.mpr hi
  ·rw [List.length_map] at hp hu
   have e1 : p.toList.map (fun i => (xs.map f).getD i .none) = (p.toList.map fun i => xs.getD i x0).map f := by
    rw [List.map_map]
    refine List.map_congr_left fun i hi => ?_
    have h := pm_lt hp i hi
    rw [map_getD f h]
    exact congrArg f (ga h).symm
   have pr : (List.range xs.length).map (fun i => xs.getD i x0) = xs := List.ext_getElem (by rw [List.length_map, List.length_range]) fun i h1 h2 => by
    rw [List.getElem_map, List.getElem_range, ga h2]
   rw [e1, ← srt_uniq (κ := κ) (pr ▸ hp.map fun i => xs.getD i x0) ?_ (nodup_inj hnd)]
   rw [List.pairwise_map]
   refine List.pairwise_iff_getElem.mpr fun i j hi hj hij => ?_
   have el : ∀ {i} (h : i < p.toList.length), p.toList[i] = gp p i := fun {i} h => by
    rw [gp_get, Array.getElem?_eq_getElem (show i < p.size from h)]
    rfl
   rw [el hi, el hj]
   exact Int.le_of_lt (hu i j hij (Pm.size hp ▸ hj))
theorem srt_short {α : Type} {κ : α -> Int} {xs : List α} (h : xs.length < 2) : srt κ xs = xs := by
 cases xs with
 | nil => exact List.mergeSort_nil
 | cons a t =>
  cases t with
  | nil => exact List.mergeSort_singleton a
  | cons b t => exact absurd h (Nat.not_lt.mpr (Nat.le_add_left 2 _))
theorem srt_len {α : Type} {κ : α -> Int} {xs : List α} : (srt κ xs).length = xs.length := srt_perm.length_eq
theorem sorted_ret {α : Type} {sc ρ} {n : Nat} {x sp xp cp rp} {xs : List α} {κ : α -> Int} {f : α -> D} (hg : zZ sc (S' "sorted") = true) (hd : zM x = true) (hx : fnd x ρ = some (.own (xs.map f))) (hl : xs.length ≤ 60) (hnd : (xs.map κ).Nodup) (hk : ∀ a ∈ xs, ∀ b ∈ xs, keyLt (f a) (f b) = some (decide (κ a < κ b))) (hi : ∀ a ∈ xs, isKey (f a) = true) :
  ExS sc ρ n [.Return (some (.Call (.Name (S' "sorted") sp) [.Name x xp] [] cp)) rp] (.ret (.lst ((srt κ xs).map f))) (put x (.val (.lst (xs.map f))) ρ) := by
 refine zAj rfl (zCd hx (zBy (zAx hg (by rfl') (bv := .builtin "sorted") (by rfl') rfl rfl (zH rfl (zJ (d := .lst (xs.map f)) (by rw [zN, zI]; rfl) hd) zO) ?_)))
 by_cases h2 : xs.length < 2
 ·rw [srt_short h2]
  exact blt_sorted_short (Nat.ble_eq_true_of_le (by simp; lia))
 ·exact blt_sorted (sortOK_map hnd hk hi) (Nat.ble_eq_true_of_le (by simp; lia)) (Nat.ble_eq_true_of_le (by simpa using hl))
end
end Mine
end
section
open PySem PySem.W PyProof.Rows PySem.Calls PyProof PySem.SeqAt
set_option Elab.async false
set_option maxRecDepth 100000
set_option linter.all false
namespace Mine
noncomputable section
noncomputable abbrev sc1159 : zT := (zD r1159.st).names
noncomputable abbrev regFor : Stmt := stAt r1159 1
noncomputable abbrev regB : List Stmt := stB1 regFor
noncomputable def octH (r : Row) (n : Nat) : List UInt8 := (if Nat.blt 7 n then [65] else []) ++ (if r.esc == 1 then [15] else []) ++ leB 1 (r.op + (if r.k1 == "o32" then lo n else 0)) ++ (if r.k1 == "rm32" then [zAt (192 + r.dig * 8 + lo n)] else [])
theorem octH_eq (r : Row) (n : Nat) (w : Int) : zBp r n w = octH r n ++ tailB r.k2 w := rfl
noncomputable def tl (k : Nat) (y x0 x1 x2 x3 : UInt8) : List UInt8 := if (zA k).k2 == "one" then [] else if (zA k).k2 == "imm32" then [x0, x1, x2, x3] else [y]
theorem tail_form {k : Nat} {w : Int} (hk : k < 9) : ∃ y x0 x1 x2 x3, tailB (zA k).k2 w = tl k y x0 x1 x2 x3 := by
 refine ⟨zAt (Builtin.bitAnd (Builtin.bitAnd w 255) 255), zAt (Builtin.bitAnd (Builtin.bitAnd w 4294967295) 255), zAt (Builtin.bitAnd ((Builtin.bitAnd w 4294967295).fdiv (2 ^ 8)) 255), zAt (Builtin.bitAnd (((Builtin.bitAnd w 4294967295).fdiv (2 ^ 8)).fdiv (2 ^ 8)) 255), zAt (Builtin.bitAnd ((((Builtin.bitAnd w 4294967295).fdiv (2 ^ 8)).fdiv (2 ^ 8)).fdiv (2 ^ 8)) 255), ?_⟩
 have : ∀ k ∈ List.range 9, tailB (zA k).k2 w = tl k (zAt (Builtin.bitAnd (Builtin.bitAnd w 255) 255)) (zAt (Builtin.bitAnd (Builtin.bitAnd w 4294967295) 255)) (zAt (Builtin.bitAnd ((Builtin.bitAnd w 4294967295).fdiv (2 ^ 8)) 255)) (zAt (Builtin.bitAnd (((Builtin.bitAnd w 4294967295).fdiv (2 ^ 8)).fdiv (2 ^ 8)) 255)) (zAt (Builtin.bitAnd ((((Builtin.bitAnd w 4294967295).fdiv (2 ^ 8)).fdiv (2 ^ 8)).fdiv (2 ^ 8)) 255)) := by
  have h : (List.range 9).map (fun k => tailB (zA k).k2 w) = (List.range 9).map fun k => tl k (zAt (Builtin.bitAnd (Builtin.bitAnd w 255) 255)) (zAt (Builtin.bitAnd (Builtin.bitAnd w 4294967295) 255)) (zAt (Builtin.bitAnd ((Builtin.bitAnd w 4294967295).fdiv (2 ^ 8)) 255)) (zAt (Builtin.bitAnd (((Builtin.bitAnd w 4294967295).fdiv (2 ^ 8)).fdiv (2 ^ 8)) 255)) (zAt (Builtin.bitAnd ((((Builtin.bitAnd w 4294967295).fdiv (2 ^ 8)).fdiv (2 ^ 8)).fdiv (2 ^ 8)) 255)) := by rfl'
  exact List.map_inj_left.mp h
 exact this k (List.mem_range.mpr hk)
noncomputable abbrev regRho (n : Nat) (w : Int) (acc : List D) (p : Nat) (r : D) : Loc := [(S' "number", .val (.int (n : Nat))), (S' "worth", .val (.int w)), (S' "found", .own acc), (S' "place", .val (.int (p : Nat))), (S' "row", .val r)]
noncomputable def appE (s : Stmt) : Expr := hdE (kx (stE s))
noncomputable def regMid (n : Nat) (w : Int) (acc : List D) (p : Nat) (r tail : D) : Option (Option D × Loc) := (evS noO ft 50 sc1159 (put (S' "tail") (.val tail) (regRho n w acc p r)) ((regB.drop 1).take 4)).bind fun q =>
 cond (isNext q.1) ((evE noO ft 50 sc1159 q.2 (appE (regB.getD 5 noSt))).map fun d => (some d, q.2)) (gd (isCont q.1) (some (none, q.2)))
noncomputable def regKeep (x : Option (Option D × Loc)) : Option (Option D × Option LV × Option LV × Option LV) := x.map fun q => (q.1, fnd (S' "number") q.2, fnd (S' "worth") q.2, fnd (S' "found") q.2)
theorem reg_none (w : Int) (acc : List D) (p : Nat) : (List.range 9).map (fun k => (List.range 16).map fun n => regKeep (regMid n w acc p (rowD (zA k)) .none)) = (List.range 9).map fun k => (List.range 16).map fun n => some (none, some (.val (.int (n : Nat))), some (.val (.int w)), some (.own acc)) := by rfl'
theorem reg_some (w : Int) (acc : List D) (p : Nat) (y x0 x1 x2 x3 : UInt8) : (List.range 9).map (fun k => (List.range 16).map fun n => regKeep (regMid n w acc p (rowD (zA k)) (.bytes (tl k y x0 x1 x2 x3)))) =
  (List.range 9).map fun k => (List.range 16).map fun n => some (if okR (zA k).k1 n then some (.tup [.int ((octH (zA k) n ++ tl k y x0 x1 x2 x3).length : Nat), .int (p : Nat), .bytes (octH (zA k) n ++ tl k y x0 x1 x2 x3)]) else none, some (.val (.int (n : Nat))), some (.val (.int w)), some (.own acc)) := by rfl'
end
end Mine
end
section
open PySem PySem.W PyProof.Rows PySem.Calls PyProof PySem.SeqAt
set_option Elab.async false
set_option maxRecDepth 100000
set_option linter.all false
namespace Mine
variable [hF : HashFn]
noncomputable section
theorem exs_cut {n : Nat} {sc fl} (hf : stops fl = true) {m : Nat} {ss rest ρ ρ1} (hm : m ≤ n) (h : evS noO ft m sc ρ ss = some (fl, ρ1)) : ExS sc ρ n (ss ++ rest) fl ρ1 :=
 evS_ind (p := (fl, ρ1)) (M := fun ss ρ => ExS sc ρ n ss fl ρ1) zBq zAi ft_ok (fun q => by cases fl <;> cases q; cases hf) zK zAj hm h
noncomputable def fits (q : Nat -> Bool) : Nat -> List Nat -> List (Nat × Nat)
 | _, [] => []
 | p, k :: t => if q k then (k, p) :: fits q (p + 1) t else fits q (p + 1) t
theorem fits_len {q : Nat -> Bool} : ∀ {ks : List Nat} {p : Nat}, (fits q p ks).length ≤ ks.length
 | [], _ => Nat.le_refl 0
 | k :: t, p => by
  have h := fits_len (q := q) (ks := t) (p := p + 1)
  unfold fits
  split
  ·exact Nat.succ_le_succ h
  ·exact Nat.le_succ_of_le h
noncomputable def dueR (n : Nat) (w : Int) (x : Nat × Nat) : D := .tup [.int ((zBp (zA x.1) n w).length : Nat), .int (x.2 : Nat), .bytes (zBp (zA x.1) n w)]
theorem bears_tail {k : Nat} {w : Int} (hk : k < 9) (hw : w ∈ zAo) {b : List UInt8} (h : bearsT (zA k).k2 w = some b) : b = tailB (zA k).k2 w := by
 have := List.map_inj_left.mp (List.map_inj_left.mp tails_eq _ (row_k hk).2) w hw
 rw [h] at this
 exact this
theorem regB_eq : regB = regB.getD 0 noSt :: ((regB.drop 1).take 4 ++ [regB.getD 5 noSt]) := by rfl'
structure InvR (n : Nat) (w : Int) (ρ : Loc) (acc : List D) : Prop where
 n : fnd (S' "number") ρ = some (.val (.int (n : Nat)))
 w : fnd (S' "worth") ρ = some (.val (.int w))
 f : fnd (S' "found") ρ = some (.own acc)
theorem reg_turn {n k p : Nat} {w : Int} {ρ acc} (hk : k < 9) (hn : n < 16) (hw : w ∈ zAo) (v : InvR n w ρ acc) (hl : acc.length ≤ 900) :
  ∃ fl ρ', (fl = .next ∨ fl = .cont) ∧ ExS sc1159 (put (S' "row") (.val (rowD (zA k))) (put (S' "place") (.val (.int (p : Nat))) ρ)) 50 regB fl ρ' ∧ InvR n w ρ' (if fitR (zA k) n w then acc ++ [dueR n w (k, p)] else acc) := by
 have hsub : Sub (put (S' "row") (.val (rowD (zA k))) (put (S' "place") (.val (.int (p : Nat))) ρ)) (regRho n w acc p (rowD (zA k))) := by
  refine .cons ?_ (.cons ?_ (.cons ?_ (.cons ?_ (.cons ?_ .nil))))
  ·rw [zE (by rfl'), zE (by rfl')]; exact v.n
  ·rw [zE (by rfl'), zE (by rfl')]; exact v.w
  ·rw [zE (by rfl'), zE (by rfl')]; exact v.f
  ·rw [zE (by rfl'), zN, zI]; rfl
  ·rw [zN, zI]; rfl
 have hb := call_bears (row_k hk).2 hw
 have first : ∀ fl ρ', ExS sc1159 (put (S' "tail") (.val (tailD (bearsT (zA k).k2 w))) (regRho n w acc p (rowD (zA k)))) 50 ((regB.drop 1).take 4 ++ [regB.getD 5 noSt]) fl ρ' -> ExS sc1159 (put (S' "row") (.val (rowD (zA k))) (put (S' "place") (.val (.int (p : Nat))) ρ)) 50 regB fl ρ' := fun fl ρ' h => by
  refine exs_forget hsub ?_
  have hb0 : ExS sc1159 (regRho n w acc p (rowD (zA k))) 50 (regB.getD 0 noSt :: ((regB.drop 1).take 4 ++ [regB.getD 5 noSt])) fl ρ' := by
   exact zK (zBc (by rfl') rfl (zAp (ds := [strD (zA k).k2, .int w]) mem_fn1152 rfl (by rfl') (by rfl') (by rfl') rfl (by rfl') (hb.up (by decide)))) @h
  rw [← regB_eq] at hb0
  exact @hb0
 have keep : ∀ {x : Option (Option D × Loc)} {o : Option D} {a b c : Option LV}, regKeep x = some (o, a, b, c) -> ∃ ρ2, x = some (o, ρ2) ∧ fnd (S' "number") ρ2 = a ∧ fnd (S' "worth") ρ2 = b ∧ fnd (S' "found") ρ2 = c := fun {x o a b c} h => by
  obtain ⟨q, rfl, e⟩ := Option.map_eq_some_iff.mp h
  cases e
  exact ⟨q.2, rfl, rfl, rfl, rfl⟩
 have mid : ∀ {t} {o : Option D}, regKeep (regMid n w acc p (rowD (zA k)) t) = some (o, some (.val (.int (n : Nat))), some (.val (.int w)), some (.own acc)) ->
   ∃ fl ρ', (fl = .next ∨ fl = .cont) ∧ ExS sc1159 (put (S' "tail") (.val t) (regRho n w acc p (rowD (zA k)))) 50 ((regB.drop 1).take 4 ++ [regB.getD 5 noSt]) fl ρ' ∧ InvR n w ρ' (match o with | some d => acc ++ [d] | none => acc) := fun {t o} h => by
  obtain ⟨ρ2, h, k1, k2, k3⟩ := keep h
  obtain ⟨⟨a, ρ3⟩, e, h⟩ := Option.bind_eq_some_iff.mp h
  cases a with
  | cont =>
   cases h
   exact ⟨.cont, _, .inr rfl, exs_cut rfl (Nat.le_refl _) e, k1, k2, k3⟩
  | next =>
   obtain ⟨d, e2, h⟩ := Option.map_eq_some_iff.mp h
   cases h
   refine ⟨.next, _, .inl rfl, exs_then zBq zAi ft_ok (Nat.le_refl _) e (zK (ex1_append k3 (by rfl') (by rfl') (Nat.ble_eq_true_of_le (le_k hl rfl)) rfl rfl (e_of e2)) zAh), ⟨?_, ?_, ?_⟩⟩
   ·rw [zE (by rfl')]; exact k1
   ·rw [zE (by rfl')]; exact k2
   ·rw [zN, zI]; rfl
  | _ => cases h
 cases hbt : bearsT (zA k).k2 w with
 | none =>
  have ht := List.map_inj_left.mp (List.map_inj_left.mp (reg_none w acc p) k (List.mem_range.mpr hk)) n (List.mem_range.mpr hn)
  obtain ⟨fl, ρ', hfl, hx, hv⟩ := mid ht
  rw [hbt] at first
  refine ⟨fl, ρ', hfl, first _ _ @hx, ?_⟩
  unfold fitR
  rw [hbt, Option.isSome_none, Bool.and_false]
  exact hv
 | some b =>
  obtain rfl := bears_tail hk hw hbt
  obtain ⟨y, x0, x1, x2, x3, htl⟩ := tail_form (w := w) hk
  have ht := List.map_inj_left.mp (List.map_inj_left.mp (reg_some w acc p y x0 x1 x2 x3) k (List.mem_range.mpr hk)) n (List.mem_range.mpr hn)
  rw [← htl] at ht
  obtain ⟨fl, ρ', hfl, hx, hv⟩ := mid ht
  rw [hbt] at first
  refine ⟨fl, ρ', hfl, first _ _ @hx, ?_⟩
  unfold fitR
  rw [hbt, Option.isSome_some, Bool.and_true]
  cases hok : okR (zA k).k1 n with
  | true => rw [hok] at hv; exact hv
  | false => rw [hok] at hv; exact hv
noncomputable def forT (s : Stmt) : List Expr := kx ((sx s).getD 1 noE)
theorem reg_loop {n : Nat} {w : Int} (hn : n < 16) (hw : w ∈ zAo) : ∀ {ks : List Nat} {p : Nat} {ρ acc}, (∀ k ∈ ks, k < 9) -> InvR n w ρ acc -> acc.length + ks.length ≤ 900 ->
  ∃ ρ', Lt sc1159 50 (forT regFor) regB ρ (zAy p (ks.map fun k => rowD (zA k))) .next ρ' ∧ InvR n w ρ' (acc ++ (fits (fun k => fitR (zA k) n w) p ks).map (dueR n w))
 | [], p, ρ, acc, _, v, _ => ⟨ρ, .nil, by simpa [fits] using v⟩
 | k :: t, p, ρ, acc, hks, v, hl => by
  obtain ⟨fl, ρ1, hfl, hx, v1⟩ := reg_turn (p := p) (hks k (.head _)) hn hw v (by simp at hl; lia)
  obtain ⟨ρ2, lt, v2⟩ := reg_loop hn hw (ks := t) (p := p + 1) (fun q hq => hks q (.tail _ hq)) v1 (by split <;> simp at hl ⊢ <;> lia)
  refine ⟨ρ2, .next ?_ @hx hfl lt, ?_⟩
  ·exact bind2 (by rfl') (by rfl')
  ·unfold fits
   cases hq : fitR (zA k) n w with
   | true =>
    rw [hq] at v2
    simp only [if_true, List.map_cons] at v2 ⊢
    rw [List.append_assoc] at v2
    exact v2
   | false =>
    rw [hq] at v2
    simpa using v2
noncomputable def keyR (n : Nat) (w : Int) (x : Nat × Nat) : Int := ((zBp (zA x.1) n w).length : Int) * 1000 + (x.2 : Int)
theorem zBj {q : Nat -> Bool} : ∀ {ks : List Nat} {p : Nat} {x : Nat × Nat}, x ∈ fits q p ks -> q x.1 = true ∧ x.1 ∈ ks ∧ p ≤ x.2 ∧ x.2 < p + ks.length
 | [], _, _, h => by cases h
 | k :: t, p, x, h => by
  unfold fits at h
  split at h
  ·rename_i hq
   rcases List.mem_cons.mp h with rfl | h
   ·exact ⟨hq, .head _, Nat.le_refl _, Nat.lt_add_of_pos_right (Nat.succ_pos _)⟩
   ·obtain ⟨a, b, c, d⟩ := zBj h
    exact ⟨a, .tail _ b, Nat.le_of_succ_le c, add_shift d⟩
  ·obtain ⟨a, b, c, d⟩ := zBj h
   exact ⟨a, .tail _ b, Nat.le_of_succ_le c, add_shift d⟩
theorem fits_lt {q : Nat -> Bool} : ∀ {ks : List Nat} {p : Nat}, (fits q p ks).Pairwise fun a b => a.2 < b.2
 | [], _ => .nil
 | k :: t, p => by
  unfold fits
  split
  ·exact .cons (fun x hx => (zBj hx).2.2.1) fits_lt
  ·exact fits_lt
theorem keys_nodup {κ : Nat × Nat -> Int} {q : Nat -> Bool} {ks : List Nat} {p : Nat} (h : ∀ a ∈ fits q p ks, ∀ b ∈ fits q p ks, κ a = κ b -> a.2 = b.2) : ((fits q p ks).map κ).Nodup := by
 rw [List.Nodup, List.pairwise_map]
 have := fits_lt (q := q) (ks := ks) (p := p)
 exact List.Pairwise.imp_of_mem (fun {a b} ha hb hab e => Nat.ne_of_lt hab (h a ha b hb e)) this
theorem keyLt_ii {a b p q : Int} {r t} (hl : Nat.beq r.length t.length = true) : keyLt (.tup (.int a :: .int p :: r)) (.tup (.int b :: .int q :: t)) = cond (a == b) (cond (p == q) (cmpRest r t) (some (decide (p < q)))) (some (decide (a < b))) := gd_true hl
theorem lexC {a b : Int} {p q : Nat} {Z : Option Bool} (h1 : p < 1000) (h2 : q < 1000) : cond (a == b) (cond ((p : Int) == q) Z (some (decide ((p : Int) < q)))) (some (decide (a < b))) = cond (a * 1000 + (p : Int) == b * 1000 + (q : Int)) Z (some (decide (a * 1000 + (p : Int) < b * 1000 + (q : Int)))) := by
 cases e : a == b with
 | true =>
  obtain rfl := beq_iff_eq.mp e
  rw [show ((p : Int) == q) = (a * 1000 + (p : Int) == a * 1000 + (q : Int)) by rw [Bool.eq_iff_iff, beq_iff_eq, beq_iff_eq]; lia, show decide ((p : Int) < q) = decide (a * 1000 + (p : Int) < a * 1000 + (q : Int)) from decide_eq_decide.mpr (by lia)]
  rfl
 | false =>
  have e := ne_of_beq_false e
  rw [show (a * 1000 + (p : Int) == b * 1000 + (q : Int)) = false from beq_false_of_ne (by lia), show decide (a < b) = decide (a * 1000 + (p : Int) < b * 1000 + (q : Int)) from decide_eq_decide.mpr (by lia)]
  rfl
theorem lexE {a b : Int} : cond (a == b) (some false) (some (decide (a < b))) = some (decide (a < b)) := by
 cases e : a == b with
 | true =>
  rw [beq_iff_eq.mp e, decide_eq_false (Int.lt_irrefl b)]
  rfl
 | false => rfl
theorem keyLt_two {a b : Int} {p q : Nat} {x y} (h1 : p < 1000) (h2 : q < 1000) (hne : a * 1000 + (p : Int) ≠ b * 1000 + (q : Int)) : keyLt (.tup [.int a, .int (p : Nat), x]) (.tup [.int b, .int (q : Nat), y]) = some (decide (a * 1000 + (p : Int) < b * 1000 + (q : Int))) := by
 rw [keyLt_ii rfl, lexC h1 h2, beq_false_of_ne hne]
 rfl
theorem keyLt_same {a b : Int} {x : List UInt8} : keyLt (.tup [.int a, .int b, .bytes x]) (.tup [.int a, .int b, .bytes x]) = some false := by
 rw [keyLt_ii rfl, beq_self_eq_true, beq_self_eq_true]
 show cond (x == x) (some false) none = _
 rw [beq_self_eq_true]
 rfl
theorem call_regRows {n : Nat} {w : Int} {ks : List Nat} (hn : n < 16) (hw : w ∈ zAo) (hks : ∀ k ∈ ks, k < 9) (hl : ks.length ≤ 4) : zF 51 1159 [.lst (ks.map fun k => rowD (zA k)), .int (n : Nat), .int w] (.lst ((srt (keyR n w) (fits (fun k => fitR (zA k) n w) 0 ks)).map (dueR n w))) := by
 have h0 : ∀ (a b : D) (w : Int), evS noO ft 50 sc1159 [(S' "rows", .val a), (S' "number", .val b), (S' "worth", .val (.int w))] [stAt r1159 0] = some (.next, [(S' "rows", .val a), (S' "number", .val b), (S' "worth", .val (.int w)), (S' "found", .own [])]) := fun a b w => by rfl'
 have hbody : zG r1159.st = [stAt r1159 0] ++ [regFor, stAt r1159 2] := by rfl'
 have hfl := fits_len (q := fun k => fitR (zA k) n w) (ks := ks) (p := 0)
 obtain ⟨ρ', lt, v⟩ := reg_loop hn hw (ks := ks) (p := 0) (ρ := [(S' "rows", .val (.lst (ks.map fun k => rowD (zA k)))), (S' "number", .val (.int (n : Nat))), (S' "worth", .val (.int w)), (S' "found", .own [])]) (acc := []) hks ⟨by rfl', by rfl', by rfl'⟩ (by simp; lia)
 rw [List.nil_append] at v
 have hlen : ∀ a ∈ fits (fun k => fitR (zA k) n w) 0 ks, a.2 < 1000 := fun a ha => lt_4 (zBj ha).2.2.2 hl rfl
 have c1 : ∀ a ∈ fits (fun k => fitR (zA k) n w) 0 ks, ∀ b ∈ fits (fun k => fitR (zA k) n w) 0 ks, keyR n w a = keyR n w b -> a.2 = b.2 := fun a ha b hb e => by
  have h1 := hlen a ha
  have h2 := hlen b hb
  simp only [keyR] at e
  lia
 have hnd := keys_nodup (κ := keyR n w) c1
 have hsame := (nodup_inj hnd)
 have c2 : ∀ a ∈ fits (fun k => fitR (zA k) n w) 0 ks, ∀ b ∈ fits (fun k => fitR (zA k) n w) 0 ks, keyLt (dueR n w a) (dueR n w b) = some (decide (keyR n w a < keyR n w b)) := fun a ha b hb => by
  have h1 := hlen a ha
  have h2 := hlen b hb
  by_cases hab : keyR n w a = keyR n w b
  ·obtain rfl := hsame a ha b hb hab
   rw [decide_eq_false (Int.lt_irrefl _)]
   exact keyLt_same
  ·exact keyLt_two h1 h2 hab
 have key : ExS sc1159 [(S' "rows", .val (.lst (ks.map fun k => rowD (zA k)))), (S' "number", .val (.int (n : Nat))), (S' "worth", .val (.int w))] 50 (zG r1159.st) (.ret (.lst ((srt (keyR n w) (fits (fun k => fitR (zA k) n w) 0 ks)).map (dueR n w)))) (put (S' "found") (.val (.lst ((fits (fun k => fitR (zA k) n w) 0 ks).map (dueR n w)))) ρ') := by
  rw [hbody]
  exact exs_then zBq zAi ft_ok (Nat.le_refl _) (h0 _ _ _) (zK (ρ1 := ρ') (zBb (by rfl') (by rfl') (by rfl') rfl (zJ (by rfl') (by rfl')) lt) (sorted_ret (κ := keyR n w) (by rfl') (by rfl') v.f (le_k (Nat.le_trans hfl hl) rfl) hnd c2 (fun a ha => rfl)))
 exact zR (n := 50) (ds := [.lst (ks.map fun k => rowD (zA k)), .int (n : Nat), .int w]) g1159 rfl @key rfl
noncomputable abbrev sc1171 : zT := (zD r1171.st).names
noncomputable abbrev mroB : List Stmt := stB1 (stAt r1171 1)
noncomputable abbrev mroFor : Stmt := hdS (stB1 (mroB.getD 1 noSt))
noncomputable abbrev mroRho (n : Nat) (d w : Int) (acc : List D) (p : Nat) (r : D) : Loc := [(S' "base", .val (.int (n : Nat))), (S' "disp", .val (.int d)), (S' "worth", .val (.int w)), (S' "found", .own acc), (S' "place", .val (.int (p : Nat))), (S' "row", .val r)]
noncomputable abbrev mroRho2 (n : Nat) (d w : Int) (acc : List D) (p : Nat) (r t : D) (i : Nat) (l : Int) : Loc := [(S' "base", .val (.int (n : Nat))), (S' "disp", .val (.int d)), (S' "worth", .val (.int w)), (S' "found", .own acc), (S' "place", .val (.int (p : Nat))), (S' "row", .val r), (S' "tail", .val t), (S' "spot", .val (.int (i : Nat))), (S' "length", .val (.int l))]
theorem mro_eq : mroB = [mroB.getD 0 noSt, mroB.getD 1 noSt] := by rfl'
theorem mro_t0 (n : Nat) (d w : Int) (acc : List D) (p : Nat) : (List.range 9).map (fun k => evT noO ft 61 sc1171 (put (S' "tail") (.val .none) (mroRho n d w acc p (rowD (zA k)))) (stE (mroB.getD 1 noSt))) = (List.range 9).map fun k => some false := by rfl'
theorem mro_t1 (n : Nat) (d w : Int) (acc : List D) (p : Nat) (b : List UInt8) : (List.range 9).map (fun k => evT noO ft 61 sc1171 (put (S' "tail") (.val (.bytes b)) (mroRho n d w acc p (rowD (zA k)))) (stE (mroB.getD 1 noSt))) = (List.range 9).map fun k => some ((zA k).k1 == "rm32") := by rfl'
theorem mro_ib : stB1 mroFor = [(stB1 mroFor).getD 0 noSt] := by rfl'
theorem mro_app (d w : Int) (acc : List D) (p i : Nat) (l : Int) (y x0 x1 x2 x3 : UInt8) : zBt.map (fun k => (List.range 16).map fun n => evE noO ft 61 sc1171 (mroRho2 n d w acc p (rowD (zA k)) (.bytes (tl k y x0 x1 x2 x3)) i l) (appE ((stB1 mroFor).getD 0 noSt))) =
  zBt.map fun k => (List.range 16).map fun n => some (.tup [.int (hi n + (zA k).esc + 1 + l + ((tl k y x0 x1 x2 x3).length : Nat)), .int (p : Nat), .int (i : Nat)]) := by rfl'
noncomputable abbrev MI := (Nat × Nat) × (Quad × Nat)
noncomputable def lenQ (q : Quad) : Int := 1 + (if decide (0 ≤ q.2.2.1) then 1 else 0) + q.2.2.2
noncomputable def dueM (n : Nat) (w : Int) (x : MI) : D := .tup [.int (hi n + (zA x.1.1).esc + 1 + lenQ x.2.1 + ((tailB (zA x.1.1).k2 w).length : Nat)), .int (x.1.2 : Nat), .int (x.2.2 : Nat)]
noncomputable def spots (x : Nat × Nat) : Nat -> List Quad -> List MI
 | _, [] => []
 | i, q :: t => (x, q, i) :: spots x (i + 1) t
noncomputable def zAq (n : Nat) (d : Int) (xs : List (Nat × Nat)) : List MI := xs.flatMap fun x => spots x 0 (zY n d)
structure InvM (n : Nat) (d w : Int) (ρ : Loc) (acc : List D) : Prop where
 n : fnd (S' "base") ρ = some (.val (.int (n : Nat)))
 d : fnd (S' "disp") ρ = some (.val (.int d))
 w : fnd (S' "worth") ρ = some (.val (.int w))
 f : fnd (S' "found") ρ = some (.own acc)
theorem spots_len {x : Nat × Nat} : ∀ {qs : List Quad} {i : Nat}, (spots x i qs).length = qs.length
 | [], _ => rfl
 | q :: t, i => by simp [spots, spots_len (qs := t)]
theorem rm9 : zBt.all (fun k => Nat.blt k 9) = true := rfl
theorem mro_inner {n k p : Nat} {d w : Int} (hk : k ∈ zBt) (hn : n < 16) : ∀ {qs : List Quad} {i : Nat} {ρ acc}, InvM n d w ρ acc -> fnd (S' "place") ρ = some (.val (.int (p : Nat))) -> fnd (S' "row") ρ = some (.val (rowD (zA k))) -> fnd (S' "tail") ρ = some (.val (.bytes (tailB (zA k).k2 w))) -> acc.length + qs.length ≤ 900 ->
  ∃ ρ', Lt sc1171 61 (forT mroFor) (stB1 mroFor) ρ (zAy i ((qs.map lenQ).map D.int)) .next ρ' ∧ InvM n d w ρ' (acc ++ (spots (k, p) i qs).map (dueM n w))
 | [], i, ρ, acc, v, _, _, _, _ => ⟨ρ, .nil, by simpa [spots] using v⟩
 | q :: t, i, ρ, acc, v, h1, h2, h3, hl => by
  have hk9 : k < 9 := Nat.le_of_ble_eq_true (List.all_eq_true.mp rm9 k hk)
  have hsub : Sub (put (S' "length") (.val (.int (lenQ q))) (put (S' "spot") (.val (.int (i : Nat))) ρ)) (mroRho2 n d w acc p (rowD (zA k)) (.bytes (tailB (zA k).k2 w)) i (lenQ q)) := by
   refine .cons ?_ (.cons ?_ (.cons ?_ (.cons ?_ (.cons ?_ (.cons ?_ (.cons ?_ (.cons ?_ (.cons ?_ .nil))))))))
   ·rw [zE (by rfl'), zE (by rfl')]; exact v.n
   ·rw [zE (by rfl'), zE (by rfl')]; exact v.d
   ·rw [zE (by rfl'), zE (by rfl')]; exact v.w
   ·rw [zE (by rfl'), zE (by rfl')]; exact v.f
   ·rw [zE (by rfl'), zE (by rfl')]; exact h1
   ·rw [zE (by rfl'), zE (by rfl')]; exact h2
   ·rw [zE (by rfl'), zE (by rfl')]; exact h3
   ·rw [zE (by rfl'), zN, zI]; rfl
   ·rw [zN, zI]; rfl
  obtain ⟨y, x0, x1, x2, x3, htl⟩ := tail_form (w := w) hk9
  have he := List.map_inj_left.mp (List.map_inj_left.mp (mro_app d w acc p i (lenQ q) y x0 x1 x2 x3) k hk) n (List.mem_range.mpr hn)
  rw [← htl] at he
  have hb : ExS sc1171 (put (S' "length") (.val (.int (lenQ q))) (put (S' "spot") (.val (.int (i : Nat))) ρ)) 61 (stB1 mroFor) .next _ := exs_forget hsub (by
   rw [mro_ib]
   exact zK (ex1_append (ds := acc) (by rfl') (by rfl') (by rfl') (Nat.ble_eq_true_of_le (by simp at hl; lia)) rfl rfl (e_of he)) zAh)
  obtain ⟨ρ2, lt, v2⟩ := mro_inner (p := p) hk hn (qs := t) (i := i + 1) (ρ := put (S' "found") (.own (acc ++ [dueM n w ((k, p), q, i)])) (mroRho2 n d w acc p (rowD (zA k)) (.bytes (tailB (zA k).k2 w)) i (lenQ q))) (acc := acc ++ [dueM n w ((k, p), q, i)]) ⟨by rfl', by rfl', by rfl', by rfl'⟩ (by rfl') (by rfl') (by rfl') (by simp at hl ⊢; lia)
  refine ⟨ρ2, .next ?_ @hb (.inl rfl) lt, ?_⟩
  ·exact bind2 (by rfl') (by rfl')
  ·rw [List.append_assoc] at v2
   exact v2
theorem call_lens {n : Nat} {d : Int} (hn : n < 16) (hd : d ∈ zBk) : zF 60 1164 [.int (n : Nat), .int d] (.lst ((lensM n d).map D.int)) :=
 call_of (List.map_inj_left.mp (List.map_inj_left.mp lens_all n (List.mem_range.mpr hn)) d hd)
theorem rm_of {k : Nat} (hk : k < 9) : ((zA k).k1 == "rm32") = true ↔ k ∈ zBt := by
 have : ∀ k ∈ List.range 9, (((zA k).k1 == "rm32") = decide (k ∈ zBt)) := List.map_inj_left.mp (by rfl')
 rw [this k (List.mem_range.mpr hk)]
 simp
theorem zCl (n : Nat) (d : Int) : (zY n d).length ≤ 6 := by
 unfold zY
 exact le_k (lenP (lenP (lenP (lenP (lenP len1 len1) len1) len1) len1) (Nat.le_refl 1)) rfl
theorem mro_turn {n k p : Nat} {d w : Int} {ρ acc} (hk : k < 9) (hn : n < 16) (hd : d ∈ zBk) (hw : w ∈ zAo) (v : InvM n d w ρ acc) (hl : acc.length ≤ 800) :
  ∃ ρ', ExS sc1171 (put (S' "row") (.val (rowD (zA k))) (put (S' "place") (.val (.int (p : Nat))) ρ)) 61 mroB .next ρ' ∧ InvM n d w ρ' (if fitM (zA k) w then acc ++ (spots (k, p) 0 (zY n d)).map (dueM n w) else acc) := by
 have hsub : Sub (put (S' "row") (.val (rowD (zA k))) (put (S' "place") (.val (.int (p : Nat))) ρ)) (mroRho n d w acc p (rowD (zA k))) := by
  refine .cons ?_ (.cons ?_ (.cons ?_ (.cons ?_ (.cons ?_ (.cons ?_ .nil)))))
  ·rw [zE (by rfl'), zE (by rfl')]; exact v.n
  ·rw [zE (by rfl'), zE (by rfl')]; exact v.d
  ·rw [zE (by rfl'), zE (by rfl')]; exact v.w
  ·rw [zE (by rfl'), zE (by rfl')]; exact v.f
  ·rw [zE (by rfl'), zN, zI]; rfl
  ·rw [zN, zI]; rfl
 have hb := call_bears (row_k hk).2 hw
 have first : ∀ ρ', Ex1 sc1171 (put (S' "tail") (.val (tailD (bearsT (zA k).k2 w))) (mroRho n d w acc p (rowD (zA k)))) 61 (mroB.getD 1 noSt) .next ρ' -> ExS sc1171 (put (S' "row") (.val (rowD (zA k))) (put (S' "place") (.val (.int (p : Nat))) ρ)) 61 mroB .next ρ' := fun ρ' h => by
  refine exs_forget hsub ?_
  have hb0 : ExS sc1171 (mroRho n d w acc p (rowD (zA k))) 61 [mroB.getD 0 noSt, mroB.getD 1 noSt] .next ρ' := by
   exact zK (zBc (by rfl') rfl (zAp (ds := [strD (zA k).k2, .int w]) mem_fn1152 rfl (by rfl') (by rfl') (by rfl') rfl (by rfl') (hb.up (by decide)))) (zK @h zAh)
  rw [← mro_eq] at hb0
  exact @hb0
 have skip : ∀ t : D, evT noO ft 61 sc1171 (put (S' "tail") (.val t) (mroRho n d w acc p (rowD (zA k)))) (stE (mroB.getD 1 noSt)) = some false -> Ex1 sc1171 (put (S' "tail") (.val t) (mroRho n d w acc p (rowD (zA k)))) 61 (mroB.getD 1 noSt) .next (put (S' "tail") (.val t) (mroRho n d w acc p (rowD (zA k)))) := fun t ht => ex1_if (c := false) (t_of ht) zAh
 cases hbt : bearsT (zA k).k2 w with
 | none =>
  rw [hbt] at first
  refine ⟨_, first _ (skip _ (List.map_inj_left.mp (mro_t0 n d w acc p) k (List.mem_range.mpr hk))), ?_⟩
  unfold fitM
  rw [hbt, Option.isSome_none, Bool.and_false]
  exact ⟨by rfl', by rfl', by rfl', by rfl'⟩
 | some b =>
  obtain rfl := bears_tail hk hw hbt
  rw [hbt] at first
  have ht := List.map_inj_left.mp (mro_t1 n d w acc p (tailB (zA k).k2 w)) k (List.mem_range.mpr hk)
  unfold fitM
  rw [hbt, Option.isSome_some, Bool.and_true]
  cases hr : (zA k).k1 == "rm32" with
  | false =>
   rw [hr] at ht
   exact ⟨_, first _ (skip _ ht), by rfl', by rfl', by rfl', by rfl'⟩
  | true =>
   rw [hr] at ht
   have hkr := (rm_of hk).mp hr
   have hq6 := zCl n d
   obtain ⟨ρ2, lt, v2⟩ := mro_inner (p := p) hkr hn (qs := zY n d) (i := 0) (ρ := put (S' "tail") (.val (.bytes (tailB (zA k).k2 w))) (mroRho n d w acc p (rowD (zA k)))) (acc := acc) ⟨by rfl', by rfl', by rfl', by rfl'⟩ (by rfl') (by rfl') (by rfl') (by lia)
   refine ⟨ρ2, first _ ?_, v2⟩
   exact ex1_if (c := true) (t_of ht) (zK (zBb (by rfl') (by rfl') (by rfl') rfl (zAp (ds := [.int (n : Nat), .int d]) (r := r1164) mem_fn1164 rfl (by rfl') (by rfl') (by rfl') rfl (by rfl') ((call_lens hn hd).up (by decide))) lt) zAh)
theorem mro_loop {n : Nat} {d w : Int} (hn : n < 16) (hd : d ∈ zBk) (hw : w ∈ zAo) : ∀ {ks : List Nat} {p : Nat} {ρ acc}, (∀ k ∈ ks, k < 9) -> InvM n d w ρ acc -> acc.length + 6 * ks.length ≤ 800 ->
  ∃ ρ', Lt sc1171 61 (forT (stAt r1171 1)) mroB ρ (zAy p (ks.map fun k => rowD (zA k))) .next ρ' ∧ InvM n d w ρ' (acc ++ (zAq n d (fits (fun k => fitM (zA k) w) p ks)).map (dueM n w))
 | [], p, ρ, acc, _, v, _ => ⟨ρ, .nil, by simpa [fits, zAq] using v⟩
 | k :: t, p, ρ, acc, hks, v, hl => by
  have hq6 := zCl n d
  obtain ⟨ρ1, hx, v1⟩ := mro_turn (p := p) (hks k (.head _)) hn hd hw v (by simp at hl; lia)
  obtain ⟨ρ2, lt, v2⟩ := mro_loop hn hd hw (ks := t) (p := p + 1) (fun q hq => hks q (.tail _ hq)) v1 (by split <;> simp [spots_len] at hl ⊢ <;> lia)
  refine ⟨ρ2, .next ?_ @hx (.inl rfl) lt, ?_⟩
  ·exact bind2 (by rfl') (by rfl')
  ·unfold fits
   cases hq : fitM (zA k) w with
   | true =>
    rw [hq] at v2
    simp only [if_true, zAq, List.flatMap_cons, List.map_append] at v2 ⊢
    rw [List.append_assoc] at v2
    exact v2
   | false =>
    rw [hq] at v2
    simpa using v2
theorem spots_mem {x : Nat × Nat} : ∀ {qs : List Quad} {i : Nat} {m : MI}, m ∈ spots x i qs -> m.1 = x ∧ m.2.1 ∈ qs ∧ i ≤ m.2.2 ∧ m.2.2 < i + qs.length
 | [], _, _, h => by cases h
 | q :: t, i, m, h => by
  rcases List.mem_cons.mp h with rfl | h
  ·exact ⟨rfl, .head _, Nat.le_refl _, Nat.lt_add_of_pos_right (Nat.succ_pos _)⟩
  ·obtain ⟨a, b, c, e⟩ := spots_mem h
   exact ⟨a, .tail _ b, Nat.le_of_succ_le c, add_shift e⟩
theorem memAll_len {n : Nat} {d : Int} : ∀ {xs : List (Nat × Nat)}, (zAq n d xs).length = xs.length * (zY n d).length
 | [] => by simp [zAq]
 | x :: t => by
  have := memAll_len (n := n) (d := d) (xs := t)
  unfold zAq at this ⊢
  rw [List.flatMap_cons, List.length_append, this, spots_len, List.length_cons, Nat.succ_mul, Nat.add_comm]
theorem zBo {n : Nat} {d : Int} {xs : List (Nat × Nat)} {m : MI} (h : m ∈ zAq n d xs) : m.1 ∈ xs ∧ m.2.1 ∈ zY n d ∧ m.2.2 < 6 := by
 obtain ⟨x, hx, hm⟩ := List.mem_flatMap.mp h
 obtain ⟨a, b, _, c⟩ := spots_mem hm
 exact ⟨a ▸ hx, b, Nat.lt_of_lt_of_le c (Nat.le_trans (Nat.le_of_eq (Nat.zero_add _)) (zCl n d))⟩
theorem spots_lt {x : Nat × Nat} : ∀ {qs : List Quad} {i : Nat}, (spots x i qs).Pairwise fun a b => a.2.2 < b.2.2
 | [], _ => .nil
 | q :: t, i => .cons (fun m hm => (spots_mem hm).2.2.1) spots_lt
theorem memAll_lt {n : Nat} {d : Int} : ∀ {xs : List (Nat × Nat)}, xs.Pairwise (fun a b => a.2 < b.2) -> (zAq n d xs).Pairwise fun a b => a.1.2 < b.1.2 ∨ (a.1.2 = b.1.2 ∧ a.2.2 < b.2.2)
 | [], _ => .nil
 | x :: t, h => by
  unfold zAq
  rw [List.flatMap_cons]
  refine List.pairwise_append.mpr ⟨?_, memAll_lt (List.pairwise_cons.mp h).2, fun a ha b hb => .inl ?_⟩
  ·refine List.Pairwise.imp_of_mem (fun {a b} ha hb hab => .inr ⟨?_, hab⟩) spots_lt
   rw [(spots_mem ha).1, (spots_mem hb).1]
  ·rw [(spots_mem ha).1]
   exact (List.pairwise_cons.mp h).1 _ (zBo hb).1
noncomputable def lenM (n : Nat) (w : Int) (x : MI) : Int := hi n + (zA x.1.1).esc + 1 + lenQ x.2.1 + ((tailB (zA x.1.1).k2 w).length : Nat)
noncomputable def keyM (n : Nat) (w : Int) (x : MI) : Int := (lenM n w x * 1000 + (x.1.2 : Int)) * 1000 + (x.2.2 : Int)
theorem keyLt_three {a b : Int} {p q i j : Nat} (h1 : p < 1000) (h2 : q < 1000) (h3 : i < 1000) (h4 : j < 1000) : keyLt (.tup [.int a, .int (p : Nat), .int (i : Nat)]) (.tup [.int b, .int (q : Nat), .int (j : Nat)]) = some (decide ((a * 1000 + (p : Int)) * 1000 + (i : Int) < (b * 1000 + (q : Int)) * 1000 + (j : Int))) :=
 (keyLt_ii rfl).trans ((lexC h1 h2).trans ((lexC h3 h4).trans lexE))
theorem keysM_nodup {n : Nat} {d w : Int} {q : Nat -> Bool} {ks : List Nat} (hl : ks.length ≤ 4) : ((zAq n d (fits q 0 ks)).map (keyM n w)).Nodup := by
 rw [List.Nodup, List.pairwise_map]
 have := memAll_lt (n := n) (d := d) (fits_lt (q := q) (ks := ks) (p := 0))
 refine List.Pairwise.imp_of_mem (fun {a b} ha hb hab e => ?_) this
 obtain ⟨a1, _, a3⟩ := zBo ha
 obtain ⟨b1, _, b3⟩ := zBo hb
 have h1 := (zBj a1).2.2.2
 have h2 := (zBj b1).2.2.2
 unfold keyM at e
 generalize lenM n w a = x at e
 generalize lenM n w b = y at e
 lia
theorem call_memRows {n : Nat} {d w : Int} {ks : List Nat} (hn : n < 16) (hd : d ∈ zBk) (hw : w ∈ zAo) (hks : ∀ k ∈ ks, k < 9) (hl : ks.length ≤ 4) : zF 62 1171 [.lst (ks.map fun k => rowD (zA k)), .int (n : Nat), .int d, .int w] (.lst ((srt (keyM n w) (zAq n d (fits (fun k => fitM (zA k) w) 0 ks))).map (dueM n w))) := by
 have h0 : ∀ (a b : D) (d w : Int), evS noO ft 61 sc1171 [(S' "rows", .val a), (S' "base", .val b), (S' "disp", .val (.int d)), (S' "worth", .val (.int w))] [stAt r1171 0] = some (.next, [(S' "rows", .val a), (S' "base", .val b), (S' "disp", .val (.int d)), (S' "worth", .val (.int w)), (S' "found", .own [])]) := fun a b d w => by rfl'
 have hbody : zG r1171.st = [stAt r1171 0] ++ [stAt r1171 1, stAt r1171 2] := by rfl'
 have hfl := fits_len (q := fun k => fitM (zA k) w) (ks := ks) (p := 0)
 have hq6 := zCl n d
 have hml := memAll_len (n := n) (d := d) (xs := fits (fun k => fitM (zA k) w) 0 ks)
 have hml2 : (zAq n d (fits (fun k => fitM (zA k) w) 0 ks)).length ≤ 24 := by
  rw [hml]
  exact Nat.le_trans (Nat.mul_le_mul (Nat.le_trans hfl hl) hq6) (by decide)
 obtain ⟨ρ', lt, v⟩ := mro_loop hn hd hw (ks := ks) (p := 0) (ρ := [(S' "rows", .val (.lst (ks.map fun k => rowD (zA k)))), (S' "base", .val (.int (n : Nat))), (S' "disp", .val (.int d)), (S' "worth", .val (.int w)), (S' "found", .own [])]) (acc := []) hks ⟨by rfl', by rfl', by rfl', by rfl'⟩ (by simp; lia)
 rw [List.nil_append] at v
 have c2 : ∀ a ∈ zAq n d (fits (fun k => fitM (zA k) w) 0 ks), ∀ b ∈ zAq n d (fits (fun k => fitM (zA k) w) 0 ks), keyLt (dueM n w a) (dueM n w b) = some (decide (keyM n w a < keyM n w b)) := fun a ha b hb => by
  obtain ⟨a1, _, a3⟩ := zBo ha
  obtain ⟨b1, _, b3⟩ := zBo hb
  have h1 := (zBj a1).2.2.2
  have h2 := (zBj b1).2.2.2
  exact keyLt_three (lt_4 h1 hl rfl) (lt_4 h2 hl rfl) (lt_k a3 rfl) (lt_k b3 rfl)
 have key : ExS sc1171 [(S' "rows", .val (.lst (ks.map fun k => rowD (zA k)))), (S' "base", .val (.int (n : Nat))), (S' "disp", .val (.int d)), (S' "worth", .val (.int w))] 61 (zG r1171.st) (.ret (.lst ((srt (keyM n w) (zAq n d (fits (fun k => fitM (zA k) w) 0 ks))).map (dueM n w)))) (put (S' "found") (.val (.lst ((zAq n d (fits (fun k => fitM (zA k) w) 0 ks)).map (dueM n w)))) ρ') := by
  rw [hbody]
  exact exs_then zBq zAi ft_ok (Nat.le_refl _) (h0 _ _ _ _) (zK (ρ1 := ρ') (zBb (by rfl') (by rfl') (by rfl') rfl (zJ (by rfl') (by rfl')) lt) (sorted_ret (κ := keyM n w) (by rfl') (by rfl') v.f (le_k hml2 rfl) (keysM_nodup hl) c2 (fun a ha => rfl)))
 exact zR (n := 61) (ds := [.lst (ks.map fun k => rowD (zA k)), .int (n : Nat), .int d, .int w]) g1171 rfl @key rfl
theorem Rs.take {led} : ∀ {ds vs} {k : Nat}, Rs led ds vs -> Rs led (ds.take k) (vs.take k)
 | _, _, 0, _ => by simpa using Rs.nil
 | [], _, k + 1, x => by obtain rfl : _ = [] := x; simpa using Rs.nil
 | d :: ds, _, k + 1, x => by
  obtain ⟨v, r, rfl, a, b⟩ := x
  exact Rs.cons a (Rs.take b)
theorem Rs.erase {led} : ∀ {ds vs} {k : Nat}, Rs led ds vs -> Rs led (ds.eraseIdx k) (vs.eraseIdx k)
 | [], _, k, x => by obtain rfl : _ = [] := x; simpa using Rs.nil
 | d :: ds, _, 0, x => by
  obtain ⟨v, r, rfl, a, b⟩ := x
  exact b
 | d :: ds, _, k + 1, x => by
  obtain ⟨v, r, rfl, a, b⟩ := x
  exact Rs.cons a (Rs.erase b)
theorem slice_b (n k : Nat) : sliceBounds none (some ((k : Nat) : Int)) none n = (((0 : Nat) : Int), ((min k n : Nat) : Int), 1) := by
 show ((0 : Int), max 0 (min (if (k : Int) < 0 then (k : Int) + (n : Int) else (k : Int)) (n : Int)), (1 : Int)) = _
 rw [if_neg (Int.not_lt.mpr (Int.natCast_nonneg k))]
 rcases Nat.le_total k n with h | h
 ·rw [Int.min_eq_left (Int.ofNat_le.mpr h), Nat.min_eq_left h, Int.max_eq_right (Int.natCast_nonneg _)]
  rfl
 ·rw [Int.min_eq_right (Int.ofNat_le.mpr h), Nat.min_eq_right h, Int.max_eq_right (Int.natCast_nonneg _)]
  rfl
theorem ev_lslice {sc ρ n x xp u p pos ds} {k : Nat} (hx : fnd x ρ = some (.val (.lst ds))) (hd : zM x = true) (hl : ds.length ≤ 1000) (h2 : EvE sc ρ n u (.int (k : Nat))) : EvE sc ρ n (.Subscript (.Name x xp) (.Slice none (some u) none p) pos) (.lst (ds.take k)) := by
 intro prog w A env h₀ L s m ko led news Q E hsc Si S K
 refine Rows.Subscript_ (zJ hx hd prog w A env h₀ L s m ko led news _ E hsc Si S fun v h' tk led' news' S' i1 ra => ?_)
 refine wpAny_Slice (evalPart_none_step (evalPart_some_step (h2 prog w A env h₀ L _ m ko led' news' _ E hsc Si S' fun v2 h2' tk2 led2 news2 S2 i2 rb => evalPart_none_step ?_)))
 obtain ⟨t, rfl⟩ := zS rb
 obtain ⟨a, vs, c, rfl, hm, hi, rr⟩ := S2.isLst (R.mono i2 ra)
 have hlen := Rs.length rr
 refine kmk_slice_lit (s := (sw s h2' tk2)) (zs := vs.take k) S2.F S2.N hi .none (.int _ t) ?_ (fun D h3 F3 N3 lt => ?_) rfl (fun r => rfl) (by have : sizeLine = 2 ^ 24 := rfl; simp; lia)
 ·have hb : sliceBounds none (some ((k : Nat) : Int)) none vs.toArray.size = (((0 : Nat) : Int), ((min k vs.length : Nat) : Int), 1) := slice_b _ _
  rw [kmk_pick_nat _ hb]
  simp [kmk_take_min]
 ·obtain ⟨led3, i3, S3, r3⟩ : ∃ led3, (Inc led2 led3) ∧ St env h₀ L h3 m ρ ko led3 ((D, listOf (vs.take k).toArray 0) :: news2) ∧ R led3 (.lst (ds.take k)) (.ref D) := by
   refine ⟨_, fun p hp => .tail _ hp, S2.grow (new := [(D, listOf (vs.take k).toArray 0)]) F3 N3 (zQ S2.nd lt), ?_⟩
   exact R_lst (.head _) (Rs.mono (fun p hp => .tail _ hp) (Rs.take rr))
  exact K _ h3 tk2 led3 _ S3 (Inc.trans i1 (Inc.trans i2 i3)) r3
theorem ev_len_own {sc ρ n x xp l lp pos ds} (hg : zZ sc l = true) (hd : zM l = true) (hl : eqS l (S' "len") = true) (hx : fnd x ρ = some (.own ds)) (hdx : zM x = true) (hz : ds.length ≤ 1000) : EvE sc ρ n (.Call (.Name l lp) [.Name x xp] [] pos) (.int (ds.length : Nat)) := by
 intro prog w A env h₀ L s m ko led news Q E hs Si S K
 obtain rfl := zW.mp hl
 refine Rows.Call_ (zAl hs Si S hg hd (v := .builtin "len") (by rfl') ?_)
 obtain ⟨mm, X⟩ := S.loc
 obtain ⟨a, hm, V, r⟩ := S.ownR X hx
 refine callWith_builtin1 (args_cons (load_vw Si.kd S X.lc V hdx (args_nil ?_)) rfl) rfl rfl
 have r : R news (.lst ds) (.ref a) := r
 obtain ⟨a', vs, c, e, hmem, rr⟩ := r
 cases e
 have hlen := Rs.length rr
 have hi : s.heap.IsList a vs.toArray := ⟨_, (S.N _ hmem).1, rfl, c, rfl⟩
 rw [hlen] at hz K
 refine Rows.len_list hi (by simp only [List.size_toArray]; lia) ?_
 simp only [List.size_toArray]
 exact K _ s.heap _ led news S (fun _ h => h) R_int
theorem ex1_pop {sc ρ n y py x xpos att apos e cpos pos ds d} {i : Nat} (hy : zAu sc y = true) (ex : fnd x ρ = some (.own ds)) (hd : zM x = true) (ha : isNm att "pop" = true) (hst : zP e = true) (hline : (apos.endLine == cpos.line) = true) (hl : ds.length ≤ 1000)
  (he : EvE sc ρ n e (.int (i : Nat))) (hi : ds[i]? = some d) : Ex1 sc ρ n (.Assign [.Name y py] (.Call (.Attribute (.Name x xpos) att apos) [e] [] cpos) pos) .next (put y (.val d) (put x (.own (ds.eraseIdx i)) ρ)) := by
 intro prog w A env h₀ L s m ko led news Q hs hloc Si S K
 obtain rfl := zW.mp ha
 obtain ⟨mm, X⟩ := S.loc
 obtain rfl := S.fn hloc X
 obtain ⟨a, vs, c, hm, V, hmem, r, h1, h2⟩ := X.own ex
 refine wpAny_Assign_Name ?_ (noSwap rfl _ _ _)
 refine MethodCall_ (load_vw Si.kd S X.lc V hd ?_) (meth_eq (methOK1 rfl hst hline))
 refine kl_method S.N hmem PySem.F.slot_list_pop PySem.F.type_list_pop ?_
 refine callWith_method1 ?_ (zB hst) rfl
 refine zH hst he zO prog w A env h₀ L s mm ko led news _ _ cpos hs Si S fun vs1 h' tk led' news' S' j r1 => ?_
 obtain ⟨v1, rfl, rv⟩ := Rs.inv1 r1
 obtain ⟨t, rfl⟩ := zS rv
 obtain ⟨mm', X'⟩ := S'.loc
 obtain rfl := S'.fn hloc X'
 obtain ⟨a', vs', c', hm', V', hmem', r', h1', h2'⟩ := X'.own ex
 rw [hm] at hm'
 cases hm'
 obtain ⟨g, U, hg⟩ := zCi S'.nd hmem'
 have hlen := Rs.length r'
 have hil := getElem_lt hi
 obtain ⟨v, hv, rd⟩ := Rs.get r' hi
 obtain ⟨p, y', q, hcut⟩ : ∃ p y q, kl_cut vs' i = some (p, y, q) := by
  have : ∀ (l : List Value) (k : Nat), k < l.length -> ∃ p y q, kl_cut l k = some (p, y, q) := by
   intro l
   induction l with
   | nil => intro k h; simp at h
   | cons x r ih =>
    intro k h
    cases k with
    | zero => exact ⟨_, _, _, rfl⟩
    | succ k =>
     obtain ⟨p, y, q, e⟩ := ih k (by simpa using h)
     exact ⟨x :: p, y, q, by simp [kl_cut, e]⟩
  exact this vs' i (by lia)
 obtain ⟨hs1, hs2⟩ := kl_cut_spec hcut
 have hvy : y' = v := by
  rw [hs1, ← hs2] at hv
  simpa using hv
 subst hvy
 have her : vs'.eraseIdx i = p ++ q := by rw [hs1, ← hs2]; exact kl_eraseL p q y'
 have rerase : Rs led' (ds.eraseIdx i) (p ++ q) := her ▸ Rs.erase r'
 refine kl_popAt (s := (sw s h' tk)) S'.F S'.N (by simp [Builtin.List.listFitsIndex]; lia) (k := i) ?_ hcut (zCh U) (by have : sizeLine = 2 ^ 24 := rfl; simp; lia) fun h3 F3 N3 => ?_
 ·simp [seqIndex?]
  lia
 have S3 := S'.setOwn hloc ex (fun mm Y => by rw [S'.fn hloc Y]; exact hm) hmem' h1' h2' U hg F3 N3 rerase
 refine store_ Si.kd hloc (zL hs hy) S3.F S3.N fun h4 F4 N4 => ?_
 exact K .next h4 _ _ led' _ (S3.putVal hloc (zL hs hy) F4 N4 rd) j rfl
inductive Wl (sc : zT) (n : Nat) (test : Expr) (body : List Stmt) : Loc -> Loc -> Prop
 | stop {ρ} : EvT sc ρ n test false -> Wl sc n test body ρ ρ
 | turn {ρ ρ1 ρ2} : EvT sc ρ n test true -> ExS sc ρ n body .next ρ1 -> Wl sc n test body ρ1 ρ2 -> Wl sc n test body ρ ρ2
theorem ex1_while {sc ρ ρ' n test body pos} (wl : Wl sc n test body ρ ρ') : Ex1 sc ρ n (.While test body [] pos) .next ρ' := by
 intro prog w A env h₀ L s m ko led news Q hs hl Si S K
 refine whl_start 0 ?_
 induction wl generalizing s m led news Q with
 | stop ht =>
  refine whl_turn (k := 0) PassesOwn.never (ht prog w A env h₀ L s m ko led news _ _ hs Si S fun h' tk led' news' S' i => WhlIf.no rfl ?_)
  exact wpAny_execs_nil (K .next h' tk m led' news' S' i rfl)
 | turn ht hb _ ih =>
  refine whl_turn (k := 0) PassesOwn.never (ht prog w A env h₀ L s m ko led news _ _ hs Si S fun h' tk led' news' S' i => WhlIf.yes rfl ?_)
  refine hb prog w A env h₀ L _ m ko led' news' _ hs hl Si S' fun f h2 tk2 m2 led2 news2 S2 i2 hf => ?_
  have : f = .next := hf
  subst this
  exact ih (sw s h2 tk2) m2 led2 news2 Q S2 fun f h3 tk3 m3 led3 news3 S3 i3 hf3 => K f h3 tk3 m3 led3 news3 S3 (Inc.trans i (Inc.trans i2 i3)) hf3
theorem Rs.of_get {led} : ∀ {ds vs}, ds.length = vs.length -> (∀ (i : Nat) d v, ds[i]? = some d -> vs[i]? = some v -> R led d v) -> Rs led ds vs
 | [], [], _, _ => Rs.nil
 | [], _ :: _, h, _ => by cases h
 | _ :: _, [], h, _ => by cases h
 | d :: ds, v :: vs, h, g => Rs.cons (g 0 d v rfl rfl) (Rs.of_get (by simpa using h) fun i d v h1 h2 => g (i + 1) d v (by simpa using h1) (by simpa using h2))
theorem evo_list_range {sc ρ n x xpos rx rpos rp pos e} {k : Nat} (hk : zZ sc x = true) (hd : zM x = true) (ef : fnd x bTab = some (.type "list")) (hk1 : zZ sc rx = true) (hd1 : zM rx = true) (er : fnd rx bTab = some (.type "range")) (hs1 : zP e = true) (h : EvE sc ρ n e (.int (k : Nat))) (hk2 : Nat.ble k 1000 = true) :
  EvO sc ρ n (.Call (.Name x xpos) [.Call (.Name rx rpos) [e] [] rp] [] pos) ((List.range k).map fun i => .int (i : Nat)) := by
 intro prog w A env h₀ L s m ko led news Q E hs Si S K
 have hk3 := Nat.le_of_ble_eq_true hk2
 refine Rows.Call_ (zAl hs Si S hk hd ef ?_)
 refine Rows.callWith_type1 (args_cons ?_ rfl) rfl rfl
 refine Rows.Call_ (zAl hs Si S hk1 hd1 er ?_)
 refine Rows.callWith_type1 (zH hs1 h zO prog w A env h₀ L s m ko led news _ _ rp hs Si S fun vs h' tk led' news' S' i r => ?_) (zB hs1) rfl
 obtain ⟨v, rfl, rv⟩ := Rs.inv1 r
 obtain ⟨t, rfl⟩ := zS rv
 refine call_range_1 (args_nil ?_)
 have S1 := S'.pushed { cls := .type "range", data := .fields #[.int 0 tk, .int (k : Int) t, .int 1 (tk + 1)] }
 have hsize : Builtin.Range.rangeSize 0 (k : Int) 1 = (k : Int) := by rw [rangeSize_nat]; simp
 refine call_list_range (s := ⟨h'.push _, s.gens, s.drawn, _, s.os⟩) Si.hd (Heap.get?_push_size _ rfl) (small_range hk3) hsize (by lia) fun h2 tk2 acc c hkp hat hit => ?_
 have F2 : Fr h₀ L h2 m := by
  obtain ⟨o, es, ep, e, r⟩ := S1.F.ns
  exact ⟨⟨o, es, ep, hkp _ _ e, r⟩, fun b o e => hkp b o (S1.F.keep b o e), S1.F.above⟩
 obtain ⟨f1, f2, f3⟩ := S1.fresh
 have N2 : News h₀ L h2 (((h'.push { cls := .type "range", data := .fields #[.int 0 tk, .int (k : Int) t, .int 1 (tk + 1)] }).objs.size, listOf acc.toList.toArray c) :: news') := fun p hp => by
  rcases List.mem_cons.mp hp with rfl | hp
  ·exact ⟨hat, f3.symm, f2⟩
  ·exact ⟨hkp _ _ (S1.N p hp).1, (S1.N p hp).2⟩
 have lt : ∀ p ∈ news', p.1 < (h'.push { cls := .type "range", data := .fields #[.int 0 tk, .int (k : Int) t, .int 1 (tk + 1)] }).objs.size := fun p hp => Heap.lt_size (S1.N p hp).1
 have S2 := S'.apart (new := [(_, listOf acc.toList.toArray c)]) F2 N2 (zQ S'.nd lt)
 obtain ⟨mm, X⟩ := S'.loc
 obtain ⟨mm2, X2⟩ := S2.loc
 obtain rfl := Lc.uniq S' S2 X.lc X2.lc
 refine K _ acc.toList c h2 tk2 led' _ S2 i (.head _) (Rs.of_get (by simp [hit.1]) fun j d v h1 h2 => ?_) (zBh fun p hp => lt p (S'.sub p hp)) (zBh fun p hp => lt p (S'.kon p hp)) ⟨mm, X2, X.apart S'.kon lt⟩
 rw [Array.getElem?_toList] at h2
 obtain ⟨t', rfl⟩ := hit.2 j v h2
 have hj := getElem_lt h1
 simp only [List.length_map, List.length_range] at hj
 rw [List.getElem?_map, List.getElem?_range hj] at h1
 cases h1
 exact show ∃ t, _ = Value.int _ t from ⟨t', by simp⟩
noncomputable abbrev sc1140 : zT := (zD r1140.st).names
noncomputable abbrev poolD : D := .lst (pool.map rowD)
structure InvC (a : Int) (ρ : Loc) (left found : List Nat) (rest : Int) : Prop where
 n : fnd (S' "number") ρ = some (.val (.int a))
 p : fnd (S' "pool") ρ = some (.val poolD)
 f : fnd (S' "found") ρ = some (.own (found.map fun k => rowD (zA k)))
 l : fnd (S' "left") ρ = some (.own (left.map fun (k : Nat) => D.int (k : Nat)))
 r : fnd (S' "rest") ρ = some (.val (.int rest))
theorem fdivD (a : Int) (m : Nat) (h : (((Int.ofNat m) != 0) && !Builtin.divisionGoesByPylong a (.ofNat m)) = true) : binD .FloorDiv (.int a) (.int (.ofNat m)) = some (.int (a.fdiv (.ofNat m))) := gd_true h
theorem rshD (a : Int) (m : Nat) : binD .RShift (.int a) (.int (m : Nat)) = some (.int (a.fdiv (2 ^ m))) := gd_true (decide_eq_true (Int.natCast_nonneg m))
theorem pool_all : (List.range 9).map (fun j => (pool.map rowD)[j]?) = (List.range 9).map fun j => some (rowD (zA j)) := by rfl'
theorem pool_at {j : Nat} (hj : j < 9) : itemAt poolD ((j : Nat) : Int) = some (rowD (zA j)) := (item_nat (lt_k hj rfl)).trans (List.map_inj_left.mp pool_all j (List.mem_range.mpr hj))
theorem mod_of {rest : Int} {m : Nat} (hm : 0 < m) : ∃ i, i < m ∧ rest.fmod (.ofNat m) = (i : Nat) := by
 have hp : (0 : Int) < Int.ofNat m := Int.ofNat_lt.mpr hm
 have h0 := Int.fmod_nonneg_of_pos rest hp
 have h1 := Int.fmod_lt_of_pos rest hp
 obtain ⟨i, hi⟩ := Int.eq_ofNat_of_zero_le h0
 rw [hi] at h1
 exact ⟨i, Int.ofNat_lt.mp h1, hi⟩
theorem ofNat_ne {m : Nat} (h : 0 < m) : ((Int.ofNat m) != 0) = true := by
 cases m with
 | zero => exact absurd h (Nat.lt_irrefl 0)
 | succ k => rfl
noncomputable abbrev chW : Stmt := stAt r1140 2
theorem neNil_ok {ρ} {n : Nat} {ds} (hx : fnd (S' "left") ρ = some (.own ds)) : EvT sc1140 ρ (n + 1) (stE chW) (match ds with | [] => false | _ => true) := by
 refine evT_cmp_own hx (by rfl') rfl (ev_own (evo_list zO rfl)) ?_
 cases ds <;> rfl
theorem chs_pop {rest : Int} {ρ ds} {i n : Nat} {d} (hl : fnd (S' "left") ρ = some (.own ds)) (hr : fnd (S' "rest") ρ = some (.val (.int rest))) (hz : ds.length ≤ 1000) (h0 : 0 < ds.length) (hi : rest.fmod (.ofNat ds.length) = (i : Nat)) (hd : ds[i]? = some d) :
  Ex1 sc1140 ρ n ((stB1 chW).getD 0 noSt) .next (put (S' "spot") (.val d) (put (S' "left") (.own (ds.eraseIdx i)) ρ)) := by
 have nd1 : zM (S' "left") = true := by rfl'
 have hmod : binD .Mod (.int rest) (.int (.ofNat ds.length)) = some (.int (i : Nat)) := by
  rw [modD _ _ (ofNat_ne h0), hi]
 exact ex1_pop (by rfl') hl nd1 (by rfl') rfl rfl hz (zAx (by rfl') (by rfl') (bv := .type "int") (by rfl') rfl rfl (zH rfl (ev_bin (zJ hr (by rfl')) (ev_len_own (by rfl') (by rfl') (by rfl') hl nd1 hz) hmod) zO) (blt_int rfl)) hd
theorem chs_div {rest : Int} {ρ} {n : Nat} (hr : fnd (S' "rest") ρ = some (.val (.int rest))) : Ex1 sc1140 ρ n ((stB1 chW).getD 1 noSt) .next (put (S' "rest") (.val (.int (rest.fdiv (.ofNat 9)))) ρ) :=
 zBc (by rfl') rfl (ev_bin (zJ hr (by rfl')) (zAb (d := .int (.ofNat 9)) rfl) (fdivD rest 9 rfl))
theorem chs_if {a : Int} {k n : Nat} {ρ acc} (hn : fnd (S' "number") ρ = some (.val (.int a))) (hs : fnd (S' "spot") ρ = some (.val (.int (k : Nat)))) (hp : fnd (S' "pool") ρ = some (.val poolD)) (hf : fnd (S' "found") ρ = some (.own acc)) (hz : acc.length ≤ 1000) (hk : k < 9) :
  Ex1 sc1140 ρ (n + 1) ((stB1 chW).getD 2 noSt) .next (put (S' "found") (.own (acc ++ [rowD (zA k)])) ρ) ∨ Ex1 sc1140 ρ (n + 1) ((stB1 chW).getD 2 noSt) .next ρ := by
 have nds : zM (S' "spot") = true := by rfl'
 cases hc : Builtin.bitAnd (a.fdiv (2 ^ k)) 1 == 0 with
 | true =>
  refine .inl (ex1_if (c := true) ?_ (zK (ex1_append hf (by rfl') (by rfl') (Nat.ble_eq_true_of_le (le_k hz rfl)) rfl rfl (ev_idx rfl (zJ hp (by rfl')) (zJ hs nds) (pool_at hk))) zAh))
  exact evT_cmp1 rfl (ev_bin (ev_bin (zJ hn (by rfl')) (zJ hs nds) (rshD a k)) (zAb (d := .int (.ofNat 1)) rfl) rfl) (zAb (d := .int (.ofNat 0)) rfl) (congrArg some hc)
 | false =>
  refine .inr (ex1_if (c := false) ?_ zAh)
  exact evT_cmp1 rfl (ev_bin (ev_bin (zJ hn (by rfl')) (zJ hs nds) (rshD a k)) (zAb (d := .int (.ofNat 1)) rfl) rfl) (zAb (d := .int (.ofNat 0)) rfl) (congrArg some hc)
theorem chs_b : stB1 chW = [(stB1 chW).getD 0 noSt, (stB1 chW).getD 1 noSt, (stB1 chW).getD 2 noSt] := by rfl'
theorem map_erase {α β : Type} {f : α -> β} : ∀ (l : List α) (i : Nat), (l.map f).eraseIdx i = (l.eraseIdx i).map f
 | [], _ => rfl
 | _ :: _, 0 => rfl
 | x :: r, i + 1 => by simp only [List.map_cons, List.eraseIdx_cons_succ, map_erase r i]
theorem chs_turn {a rest : Int} {ρ} {left found : List Nat} (v : InvC a ρ left found rest) (h0 : 0 < left.length) (h9 : ∀ k ∈ left, k < 9) (hl : left.length ≤ 9) (hf : found.length ≤ 9) :
  ∃ i k ρ' rest', left[i]? = some k ∧ ExS sc1140 ρ 62 (stB1 chW) .next ρ' ∧ (InvC a ρ' (left.eraseIdx i) (found ++ [k]) rest' ∨ InvC a ρ' (left.eraseIdx i) found rest') := by
 obtain ⟨i, hil, hi⟩ := mod_of (rest := rest) h0
 have hk : left[i]? = some left[i] := List.getElem?_eq_getElem hil
 have hk9 := h9 _ (List.getElem_mem hil)
 generalize left[i] = k at hk hk9
 have x1 := chs_pop (n := 62) v.l v.r (d := .int (k : Nat)) ((List.length_map _).symm ▸ le_k hl rfl) ((List.length_map _).symm ▸ h0) ((List.length_map _).symm ▸ hi) (by rw [List.getElem?_map, hk]; rfl)
 have e1 : (left.map fun (k : Nat) => D.int (k : Nat)).eraseIdx i = (left.eraseIdx i).map fun (k : Nat) => D.int (k : Nat) := map_erase _ _
 rw [e1] at x1
 generalize hρ1 : put (S' "spot") (.val (.int (k : Nat))) (put (S' "left") (.own ((left.eraseIdx i).map fun (k : Nat) => D.int (k : Nat))) ρ) = ρ1 at x1
 have v1 : InvC a ρ1 (left.eraseIdx i) found rest ∧ fnd (S' "spot") ρ1 = some (.val (.int (k : Nat))) := by
  subst hρ1
  refine ⟨⟨?_, ?_, ?_, ?_, ?_⟩, ?_⟩
  ·rw [zE (by rfl'), zE (by rfl')]; exact v.n
  ·rw [zE (by rfl'), zE (by rfl')]; exact v.p
  ·rw [zE (by rfl'), zE (by rfl')]; exact v.f
  ·rw [zE (by rfl'), zN, zI]; rfl
  ·rw [zE (by rfl'), zE (by rfl')]; exact v.r
  ·rw [zN, zI]; rfl
 have x2 := chs_div (n := 62) v1.1.r
 generalize hρ2 : put (S' "rest") (.val (.int (rest.fdiv (.ofNat 9)))) ρ1 = ρ2 at x2
 have v2 : InvC a ρ2 (left.eraseIdx i) found (rest.fdiv (.ofNat 9)) ∧ fnd (S' "spot") ρ2 = some (.val (.int (k : Nat))) := by
  subst hρ2
  refine ⟨⟨?_, ?_, ?_, ?_, ?_⟩, ?_⟩
  ·rw [zE (by rfl')]; exact v1.1.n
  ·rw [zE (by rfl')]; exact v1.1.p
  ·rw [zE (by rfl')]; exact v1.1.f
  ·rw [zE (by rfl')]; exact v1.1.l
  ·rw [zN, zI]; rfl
  ·rw [zE (by rfl')]; exact v1.2
 have fin : ∀ {ρ3}, Ex1 sc1140 ρ2 62 ((stB1 chW).getD 2 noSt) .next ρ3 -> ExS sc1140 ρ 62 (stB1 chW) .next ρ3 := fun {ρ3} h => by
  rw [chs_b]
  exact zK @x1 (zK @x2 (zK @h zAh))
 rcases chs_if (n := 61) v2.1.n v2.2 v2.1.p v2.1.f ((List.length_map _).symm ▸ le_k hf rfl) hk9 with x3 | x3
 ·refine ⟨i, k, _, rest.fdiv (.ofNat 9), hk, fin @x3, .inl ⟨?_, ?_, ?_, ?_, ?_⟩⟩
  ·rw [zE (by rfl')]; exact v2.1.n
  ·rw [zE (by rfl')]; exact v2.1.p
  ·rw [zN, zI, List.map_append]; rfl
  ·rw [zE (by rfl')]; exact v2.1.l
  ·rw [zE (by rfl')]; exact v2.1.r
 ·exact ⟨i, k, _, _, hk, fin @x3, .inr v2.1⟩
theorem perm_erase {l : List Nat} {i k : Nat} (h : l[i]? = some k) : l.Perm (k :: l.eraseIdx i) := by
 induction l generalizing i with
 | nil => simp at h
 | cons x r ih =>
  cases i with
  | zero => simp at h; subst h; exact List.Perm.refl _
  | succ i =>
   have := ih (i := i) (by simpa using h)
   exact (List.Perm.cons x this).trans (List.Perm.swap k x _)
theorem chs_loop {a : Int} : ∀ {m : Nat} {left found : List Nat} {rest : Int} {ρ}, left.length = m -> InvC a ρ left found rest -> (found ++ left).Nodup -> (∀ k ∈ found ++ left, k < 9) -> left.length ≤ 9 -> found.length + left.length ≤ 9 ->
  ∃ ρ' found' rest', Wl sc1140 62 (stE chW) (stB1 chW) ρ ρ' ∧ InvC a ρ' [] found' rest' ∧ found'.Nodup ∧ (∀ k ∈ found', k < 9) ∧ found'.length ≤ 9
 | 0, left, found, rest, ρ, hm, v, nd, h9, hl, hf => by
  obtain rfl := List.length_eq_zero_iff.mp hm
  rw [List.append_nil] at nd h9
  exact ⟨ρ, found, rest, .stop (neNil_ok (n := 61) v.l), v, nd, h9, by simpa using hf⟩
 | m + 1, left, found, rest, ρ, hm, v, nd, h9, hl, hf => by
  obtain ⟨i, k, ρ1, rest1, hk, hx, hv⟩ := chs_turn v (hm ▸ Nat.succ_pos m) (fun k hk => h9 k (List.mem_append_right _ hk)) hl (Nat.le_trans (Nat.le_add_right _ _) hf)
  have hp := perm_erase hk
  have hlen : (left.eraseIdx i).length = m := by rw [List.length_eraseIdx_of_lt (getElem_lt hk), hm]; rfl
  have ht : EvT sc1140 ρ 62 (stE chW) true := by
   have := neNil_ok (n := 61) v.l
   cases left with
   | nil => simp at hm
   | cons x r => exact @this
  have hl2 : (left.eraseIdx i).length ≤ 9 := by
   rw [hlen]
   rw [hm] at hl
   exact Nat.le_of_succ_le hl
  have hf2 : found.length + (m + 1) ≤ 9 := by
   rw [hm] at hf
   exact hf
  have pa : (found ++ left).Perm (found ++ [k] ++ left.eraseIdx i) := by
   rw [List.append_assoc]
   exact List.Perm.append_left found hp
  rcases hv with v1 | v1
  ·obtain ⟨ρ2, f2, r2, wl, v2, a1, a2, a3⟩ := chs_loop hlen v1 (pa.nodup_iff.mp nd) (fun x hx => h9 x (pa.mem_iff.mpr hx)) hl2 (by rw [List.length_append, hlen, Nat.add_assoc, Nat.add_comm _ m]; exact hf2)
   exact ⟨ρ2, f2, r2, .turn ht @hx wl, v2, a1, a2, a3⟩
  ·have sub : (found ++ left.eraseIdx i).Sublist (found ++ left) := List.Sublist.append_left (List.eraseIdx_sublist left i) found
   obtain ⟨ρ2, f2, r2, wl, v2, a1, a2, a3⟩ := chs_loop hlen v1 (nd.sublist sub) (fun x hx => h9 x (sub.subset hx)) hl2 (by rw [hlen]; exact Nat.le_of_succ_le hf2)
   exact ⟨ρ2, f2, r2, .turn ht @hx wl, v2, a1, a2, a3⟩
theorem chs_ret {ρ} {n : Nat} {fs ps} (hf : fnd (S' "found") ρ = some (.own fs)) (hp : fnd (S' "pool") ρ = some (.val (.lst ps))) (hz : fs.length ≤ 1000) (hz2 : ps.length ≤ 1000) : ∃ ρ', ExS sc1140 ρ (n + 1) [stAt r1140 3] (.ret (.lst (if (fs.length : Int) > 1 then fs.take 4 else ps.take 4))) ρ' := by
 have nf : zM (S' "found") = true := by rfl'
 have hfv : fnd (S' "found") (put (S' "found") (.val (.lst fs)) ρ) = some (.val (.lst fs)) := by rw [zN, zI]; rfl
 have hpv : fnd (S' "pool") (put (S' "found") (.val (.lst fs)) ρ) = some (.val (.lst ps)) := (zE (by rfl')).trans hp
 have hlen : lenD (.lst fs) = some fs.length := rfl
 refine ⟨_, zAj rfl (zCd hf (zBy (ev_if (c := decide ((fs.length : Int) > 1)) (evT_cmp1 rfl (zAx (by rfl') (by rfl') (bv := .builtin "len") (by rfl') rfl rfl (zH rfl (zJ hfv nf) zO) (blt_len hlen (Nat.ble_eq_true_of_le (le_k hz rfl)))) (zAb (d := .int (.ofNat 1)) rfl) rfl) ?_)))⟩
 by_cases h1 : (fs.length : Int) > 1
 ·rw [if_pos h1, if_pos (decide_eq_true h1)]
  exact ev_lslice (k := 4) hfv nf hz (zAb rfl)
 ·rw [if_neg h1, if_neg (by simpa using h1)]
  exact ev_lslice (k := 4) hpv (by rfl') hz2 (zAb rfl)
theorem chs_body : zG r1140.st = [stAt r1140 0, stAt r1140 1, stAt r1140 2, stAt r1140 3] := by rfl'
theorem call_chosen (a : Int) : ∃ ks : List Nat, ks.Nodup ∧ (∀ k ∈ ks, k < 9) ∧ 2 ≤ ks.length ∧ ks.length ≤ 4 ∧ zF 63 1140 [.int a] (.lst (ks.map fun k => rowD (zA k))) := by
 have v0 : InvC a (put (S' "left") (.own ((List.range 9).map fun (i : Nat) => .int (i : Nat))) (put (S' "rest") (.val (.int (a.fdiv (.ofNat 512)))) (put (S' "pool") (.val poolD) (put (S' "found") (.own []) [(S' "number", .val (.int a))])))) (List.range 9) [] (a.fdiv (.ofNat 512)) := ⟨by rfl', by rfl', by rfl', by rfl', by rfl'⟩
 obtain ⟨ρ', found, rest', wl, v, nd, h9, hl⟩ := chs_loop rfl v0 (by simp; exact List.nodup_range) (fun k hk => by simpa using hk) (by simp) (by simp)
 obtain ⟨ρ2, hret⟩ := chs_ret (n := 61) v.f v.p ((List.length_map _).symm ▸ le_k hl rfl) (by simp [pool])
 have hc : ∀ out, ExS sc1140 ρ' 62 [stAt r1140 3] (.ret (.lst out)) ρ2 -> zF 63 1140 [.int a] (.lst out) := fun out hret => by
  have key : ExS sc1140 [(S' "number", .val (.int a))] 62 (zG r1140.st) (.ret (.lst out)) ρ2 := by
   rw [chs_body]
   refine zK (ex1_two (x := S' "pool") (y := S' "found") (l1 := .val poolD) (l2 := .own []) (by rfl') (by rfl') (by rfl') rfl (e_of (by rfl')) (evo_list zO rfl)) (zK (ex1_two (x := S' "left") (y := S' "rest") (l1 := .own ((List.range 9).map fun i => .int (i : Nat))) (l2 := .val (.int (a.fdiv (.ofNat 512)))) (by rfl') (by rfl') (by rfl') rfl ?_ ?_) (zK (ρ1 := ρ') (ex1_while wl) @hret))
   ·exact evo_list_range (by rfl') (by rfl') (by rfl') (by rfl') (by rfl') (by rfl') rfl (zAb rfl) rfl
   ·exact ev_bin (zJ (d := .int a) (by rfl') (by rfl')) (zAb rfl) (fdivD a 512 rfl)
  exact zR (n := 62) (ds := [.int a]) g1140 rfl @key rfl
 have hc := hc _ @hret
 by_cases h1 : ((found.map fun k => rowD (zA k)).length : Int) > 1
 ·rw [if_pos h1, ← List.map_take] at hc
  refine ⟨found.take 4, nd.sublist (List.take_sublist 4 found), fun k hk => h9 k (List.mem_of_mem_take hk), ?_, ?_, @hc⟩
  ·rw [List.length_take]
   exact Nat.le_min.mpr ⟨by decide, (List.length_map _).symm ▸ Int.ofNat_lt.mp h1⟩
  ·rw [List.length_take]
   exact Nat.min_le_left _ _
 ·rw [if_neg h1] at hc
  exact ⟨[0, 1, 2, 3], by decide, by decide, by decide, by decide, @hc⟩
noncomputable def bestA {α : Type} (κ : α -> Int) : α -> List α -> α
 | b, [] => b
 | b, m :: t => bestA κ (if κ m < κ b then m else b) t
theorem bestOf_map {α : Type} {κ : α -> Int} {f : α -> LF} : ∀ {xs : List α} {b : α}, (∀ a ∈ b :: xs, ∀ c ∈ b :: xs, ltLF (f a) (f c) = decide (κ a < κ c)) -> bestOf (f b) (xs.map f) = f (bestA κ b xs)
 | [], _, _ => rfl
 | m :: t, b, h => by
  simp only [List.map_cons, bestOf, bestA]
  rw [h m (.tail _ (.head _)) b (.head _)]
  by_cases hl : κ m < κ b
  ·rw [if_pos (decide_eq_true hl), if_pos hl]
   exact bestOf_map fun a ha c hc => h a (.tail _ ha) c (.tail _ hc)
  ·rw [if_neg (by simpa using hl), if_neg hl]
   have up : ∀ a ∈ b :: t, a ∈ b :: m :: t := fun a ha => by
    rcases List.mem_cons.mp ha with rfl | ha
    ·exact .head _
    ·exact .tail _ (.tail _ ha)
   exact bestOf_map fun a ha c hc => h a (up a ha) c (up c hc)
theorem bestA_min {α : Type} {κ : α -> Int} : ∀ {xs : List α} {b : α}, bestA κ b xs ∈ b :: xs ∧ ∀ y ∈ b :: xs, κ (bestA κ b xs) ≤ κ y
 | [], b => ⟨.head _, fun y hy => by rw [List.mem_singleton.mp hy]; exact Int.le_refl _⟩
 | m :: t, b => by
  unfold bestA
  by_cases hl : κ m < κ b
  ·rw [if_pos hl]
   obtain ⟨h1, h2⟩ := bestA_min (κ := κ) (xs := t) (b := m)
   refine ⟨.tail _ h1, fun y hy => ?_⟩
   rcases List.mem_cons.mp hy with rfl | hy
   ·exact Int.le_trans (h2 m (.head _)) (Int.le_of_lt hl)
   ·exact h2 y hy
  ·rw [if_neg hl]
   obtain ⟨h1, h2⟩ := bestA_min (κ := κ) (xs := t) (b := b)
   refine ⟨?_, fun y hy => ?_⟩
   ·rcases List.mem_cons.mp h1 with h1 | h1
    ·rw [h1]; exact .head _
    ·exact .tail _ (.tail _ h1)
   ·rcases List.mem_cons.mp hy with rfl | hy
    ·exact h2 _ (.head _)
    ·rcases List.mem_cons.mp hy with rfl | hy
     ·exact Int.le_trans (h2 b (.head _)) (Int.not_lt.mp hl)
     ·exact h2 y (.tail _ hy)
theorem srt_head {α : Type} {κ : α -> Int} {xs t : List α} {x : α} (h : srt κ xs = x :: t) : x ∈ xs ∧ ∀ y ∈ xs, κ x ≤ κ y := by
 have hp : (x :: t).Perm xs := h ▸ srt_perm
 have hs : (x :: t).Pairwise fun a b => κ a ≤ κ b := h ▸ srt_le
 refine ⟨hp.mem_iff.mp (.head _), fun y hy => ?_⟩
 rcases List.mem_cons.mp (hp.mem_iff.mpr hy) with rfl | hy
 ·exact Int.le_refl _
 ·exact (List.pairwise_cons.mp hs).1 y hy
noncomputable def frm (q : Nat -> Bool) : Nat -> List Nat -> List (D × Bool)
 | _, [] => []
 | p, k :: t => (zV (zA k) (p : Nat), q k) :: frm q (p + 1) t
theorem frm_fst {q : Nat -> Bool} : ∀ {ks : List Nat} {p : Nat}, (frm q p ks).map (·.1) = fsD p (ks.map zA)
 | [], _ => rfl
 | k :: t, p => by simp only [frm, List.map_cons, fsD, frm_fst (ks := t)]
theorem frm_len {q : Nat -> Bool} : ∀ {ks : List Nat} {p : Nat}, (frm q p ks).length = ks.length
 | [], _ => rfl
 | k :: t, p => by simp only [frm, List.length_cons, frm_len (ks := t)]
theorem frm_keep {q : Nat -> Bool} : ∀ {ks : List Nat} {p : Nat}, keepF (frm q p ks) = (fits q p ks).map fun x => zV (zA x.1) (x.2 : Nat)
 | [], _ => rfl
 | k :: t, p => by
  unfold frm fits
  cases q k with
  | true => simp only [keepF, if_true, List.map_cons, frm_keep (ks := t)]
  | false => simp only [keepF, Bool.false_eq_true, if_false, frm_keep (ks := t)]
theorem frm_mem {q : Nat -> Bool} : ∀ {ks : List Nat} {p : Nat} {x : D × Bool}, x ∈ frm q p ks -> ∃ k ∈ ks, ∃ i : Nat, x = (zV (zA k) (i : Nat), q k)
 | [], _, _, h => by cases h
 | k :: t, p, x, h => by
  rcases List.mem_cons.mp h with rfl | h
  ·exact ⟨k, .head _, p, rfl⟩
  ·obtain ⟨k', hk, i, e⟩ := frm_mem h
   exact ⟨k', .tail _ hk, i, e⟩
noncomputable abbrev isD (ks : List Nat) : D := isetD (ks.map zA)
theorem fsD_len : ∀ {rs} {i : Nat}, (fsD i rs).length = rs.length
 | [], _ => rfl
 | r :: t, i => by simp only [fsD, List.length_cons, fsD_len (rs := t)]
theorem ff_of {ks : List Nat} {q : Nat -> Bool} {A B} (h0 : 0 < ks.length) (hl : ks.length ≤ 4) (hc : ∀ k ∈ ks, ∀ i : Nat, zF 96 268 [zV (zA k) (i : Nat), zAn A B] (.bool (q k))) (h5 : ∀ fs, zF 96 931 [.lst fs, zAn A B] (.lst [])) :
  (fits q 0 ks ≠ [] -> zF 97 936 [isD ks, zAn A B] (.lst ((fits q 0 ks).map fun x => zV (zA x.1) (x.2 : Nat)))) ∧ (fits q 0 ks = [] -> CallR 97 936 [isD ks, zAn A B]) := by
 have hfl := fits_len (q := q) (ks := ks) (p := 0)
 have hlen : (frm q 0 ks).length ≤ 100 := by rw [frm_len]; exact le_k hl rfl
 have hne : frm q 0 ks ≠ [] := fun e => Nat.ne_of_gt h0 ((frm_len (q := q) (ks := ks) (p := 0)).symm.trans (congrArg List.length e))
 have h1 : zF 96 1000 [isD ks, strD "deed"] (.lst ((frm q 0 ks).map (·.1))) := by
  rw [frm_fst]
  exact (call_find (by rw [fsD_len, List.length_map]; exact le_k hl rfl)).up (by decide)
 have hc' : ∀ p ∈ frm q 0 ks, zF 96 268 [p.1, zAn A B] (.bool p.2) := fun p hp => by
  obtain ⟨k, hk, i, rfl⟩ := frm_mem hp
  exact hc k hk i
 refine ⟨fun hf => ?_, fun hf => ?_⟩
 ·rw [← frm_keep]
  refine call_ff hlen hne ?_ ?_ h1 hc' (h5 _)
  ·rw [frm_keep]; simpa using hf
  ·rw [frm_keep, List.length_map]; exact le_k (Nat.le_trans hfl hl) rfl
 ·exact call_ffr hlen hne (by rw [frm_keep, hf]; rfl) h1 hc'
noncomputable abbrev lnR (n : Nat) (w : Int) : D := zAn (regOp (reg32 n)) (immOp w)
noncomputable abbrev fR (n : Nat) (w : Int) (ks : List Nat) : List (Nat × Nat) := fits (fun k => fitR (zA k) n w) 0 ks
noncomputable def encX (n : Nat) (w : Int) (x : Nat × Nat) : D := encR (zA x.1) (x.2 : Nat) n w
noncomputable def fitX (n : Nat) (w : Int) (x : Nat × Nat) : Fit := ⟨zA x.1, (x.2 : Nat), [(regShape (zA x.1) n, zBp (zA x.1) n w)]⟩
noncomputable def quadX (n : Nat) (w : Int) (x : Nat × Nat) : D × D × D × D := (.int ((zBp (zA x.1) n w).length : Nat), .int (x.2 : Nat), .int (0 : Nat), encX n w x)
noncomputable def lfX (n : Nat) (w : Int) (x : Nat × Nat) : LF := ⟨zA x.1, (x.2 : Nat), regShape (zA x.1) n, zBp (zA x.1) n w⟩
theorem leB_len {k : Nat} {a : Int} : (leB k a).length = k := (List.length_map zAt).trans leI_len
theorem tailB_len {k : Nat} {w : Int} (_ : k < 9) : (tailB (zA k).k2 w).length ≤ 4 := by
 unfold tailB
 split
 ·exact Nat.zero_le 4
 ·split
  ·exact Nat.le_of_eq leB_len
  ·exact le_k (Nat.le_of_eq leB_len) rfl
theorem regOct_len {k n : Nat} {w : Int} (hk : k < 9) : (zBp (zA k) n w).length ≤ 100 := by
 rw [octH_eq]
 exact le_k (lenP (lenP (lenP (lenP len1 len1) (Nat.le_of_eq leB_len)) len1) (tailB_len (w := w) hk)) rfl
theorem allRows_X {n : Nat} {w : Int} : ∀ {xs : List (Nat × Nat)}, zBs (xs.map (fitX n w)) = (xs.map (quadX n w)).map quadT
 | [] => rfl
 | x :: t => by
  simp only [List.map_cons, zBs, allRows_X (xs := t)]
  rfl
theorem okR_of {k n : Nat} {w : Int} (h : fitR (zA k) n w = true) : okR (zA k).k1 n = true := by
 unfold fitR at h
 exact (Bool.and_eq_true_iff.mp h).1
theorem keyX_lt {n : Nat} {w : Int} {a b : Nat × Nat} (h1 : a.2 < 1000) (h2 : b.2 < 1000) : keyLt (keyT (quadX n w a)) (keyT (quadX n w b)) = some (decide (keyR n w a < keyR n w b)) := by
 show keyLt (.tup [.int ((zBp (zA a.1) n w).length : Nat), .int (a.2 : Nat), .int (0 : Nat)]) (.tup [.int ((zBp (zA b.1) n w).length : Nat), .int (b.2 : Nat), .int (0 : Nat)]) = _
 rw [keyLt_three h1 h2 (by decide) (by decide)]
 refine congrArg some (decide_eq_decide.mpr ?_)
 unfold keyR
 generalize ((zBp (zA a.1) n w).length : Int) = x
 generalize ((zBp (zA b.1) n w).length : Int) = y
 lia
theorem keysR_nodup {n : Nat} {w : Int} {ks : List Nat} (hl : ks.length ≤ 4) : ((fR n w ks).map (keyR n w)).Nodup := keys_nodup fun a ha b hb e => by
 have h1 := (zBj ha).2.2.2
 have h2 := (zBj hb).2.2.2
 simp only [keyR] at e
 generalize ((zBp (zA a.1) n w).length : Int) = x at e
 generalize ((zBp (zA b.1) n w).length : Int) = y at e
 lia
noncomputable def leastR (n : Nat) (w : Int) : List (Nat × Nat) -> D
 | [] => .none
 | x :: _ => .tup [.int (x.2 : Nat), .bytes (zBp (zA x.1) n w)]
theorem ltLF_key {a b : LF} {i j : Nat} (h1 : i < 1000) (h2 : j < 1000) (e1 : a.num = (i : Nat) := by rfl) (e2 : b.num = (j : Nat) := by rfl) : ltLF a b = decide ((a.oct.length : Int) * 1000 + i < (b.oct.length : Int) * 1000 + j) := by
 unfold ltLF
 rw [e1, e2]
 generalize (a.oct.length : Int) = x
 generalize (b.oct.length : Int) = y
 by_cases hxy : x = y
 ·subst hxy
  simp
 ·have : (x == y) = false := by simpa using hxy
  rw [this, Bool.false_and, Bool.or_false, decide_eq_decide]
  lia
theorem line_R {n : Nat} {w : Int} {ks : List Nat} (hn : n < 16) (hw : w ∈ zAo) (hks : ∀ k ∈ ks, k < 9) (h0 : 0 < ks.length) (hl : ks.length ≤ 4) :
  CallZ 99 1178 [isD ks, lnR n w] (.lst ((srt (keyR n w) (fR n w ks)).map (encX n w))) ∧ CallZ 99 1185 [isD ks, lnR n w] (leastR n w (srt (keyR n w) (fR n w ks))) := by
 obtain ⟨ok, no⟩ := ff_of (q := fun k => fitR (zA k) n w) (A := regOp (reg32 n)) (B := immOp w) h0 hl (fun k hk i => (call_matR (hks k hk) hn hw).up (by decide)) fun fs => (call_of (som_reg fs (reg32 n) w)).up (by decide)
 have hmem : ∀ x ∈ fR n w ks, x.1 < 9 ∧ okR (zA x.1).k1 n = true ∧ x.2 < 4 := fun x hx => by
  obtain ⟨a, b, _, c⟩ := zBj hx
  exact ⟨hks _ b, okR_of a, lt_4 c hl rfl⟩
 have hfl : (fR n w ks).length ≤ 4 := Nat.le_trans fits_len hl
 cases hxs : fR n w ks with
 | nil =>
  have h := no hxs
  have e : srt (keyR n w) ([] : List (Nat × Nat)) = [] := srt_short (by simp)
  rw [e]
  exact ⟨call_heardr (call_encr h), call_lawleastr (call_leastr h)⟩
 | cons x0 t =>
  have h936 := ok (by rw [show fits (fun k => fitR (zA k) n w) 0 ks = x0 :: t from hxs]; simp)
  rw [show fits (fun k => fitR (zA k) n w) 0 ks = x0 :: t from hxs] at h936
  have nd := keysR_nodup (n := n) (w := w) hl
  rw [hxs] at hmem hfl nd
  refine ⟨zF.z (call_heard ?_), zF.z ?_⟩
  ·have h := call_encodings (is := isD ks) (I := lnR n w) (M := (x0 :: t).map (fitX n w)) (qs := (x0 :: t).map (quadX n w)) (outs := (srt (keyR n w) (x0 :: t)).map (quadX n w)) (by rw [List.map_map]; exact h936) (fun m hm => ?_) allRows_X (by simp) (by rw [List.length_map]; exact Nat.lt_of_le_of_lt hfl (by decide)) (.inl ?_) (by rw [List.length_map, srt_len]; exact le_k hfl rfl)
   ·rw [List.map_map] at h
    exact h
   ·obtain ⟨x, hx, rfl⟩ := List.mem_map.mp hm
    obtain ⟨a, b, c⟩ := hmem x hx
    refine ⟨(call_shfR a hn).up (by decide), fun q hq => ?_, by simp [fitX]⟩
    obtain rfl := List.mem_singleton.mp hq
    refine ⟨Nat.le_trans (regOct_len a) (by decide), call_tried ?_⟩
    show zF 96 924 [zV (zA x.1) (x.2 : Nat), lnR n w, regShape (zA x.1) n] _
    unfold regShape
    by_cases hr : ((zA x.1).k1 == "rm32") = true
    ·rw [if_pos hr]
     have := call_encRS (num := (x.2 : Nat)) (w := w) ((rm_of a).mp hr) hn
     unfold encR regShape at this
     rw [if_pos hr] at this
     exact this.up (by decide)
    ·rw [if_neg hr]
     have := call_encR (num := (x.2 : Nat)) (w := w) a hn b
     unfold encR regShape at this
     rw [if_neg hr] at this
     exact this.up (by decide)
   ·rw [List.map_map, List.map_map, List.map_map]
    exact sortOK_map nd (fun a ha b hb => keyX_lt (lt_k (hmem a ha).2.2 rfl) (lt_k (hmem b hb).2.2 rfl)) fun a ha => rfl
  ·have hlf : ∀ m ∈ lfX n w x0 :: t.map (lfX n w), LFOK 96 (lnR n w) m := fun m hm => by
    have hm : m ∈ (x0 :: t).map (lfX n w) := hm
    obtain ⟨x, hx, rfl⟩ := List.mem_map.mp hm
    obtain ⟨a, b, c⟩ := hmem x hx
    exact ⟨Nat.le_trans (regOct_len a) (by decide), call_tried ((call_encR (num := (x.2 : Nat)) (w := w) a hn b).up (by decide))⟩
   have h := call_least (is := isD ks) (I := lnR n w) (m0 := lfX n w x0) (M := t.map (lfX n w)) (by rw [show lfX n w x0 :: t.map (lfX n w) = (x0 :: t).map (lfX n w) from rfl, List.map_map]; exact h936) hlf (by rw [List.length_map]; exact le_k (Nat.le_of_succ_le hfl) rfl)
   have hb := bestOf_map (κ := keyR n w) (f := lfX n w) (b := x0) (xs := x0 :: t) (fun a ha c hc => ?_)
   ·rw [List.map_cons] at hb
    rw [hb] at h
    have hd := call_lawleast h
    obtain ⟨m1, m2⟩ := bestA_min (κ := keyR n w) (xs := x0 :: t) (b := x0)
    have m1 : bestA (keyR n w) x0 (x0 :: t) ∈ x0 :: t := by
     rcases List.mem_cons.mp m1 with e | m1
     ·rw [e]; exact .head _
     ·exact m1
    cases hs : srt (keyR n w) (x0 :: t) with
    | nil => have := srt_len (κ := keyR n w) (xs := x0 :: t); rw [hs] at this; simp at this
    | cons x t' =>
     obtain ⟨s1, s2⟩ := srt_head hs
     have : bestA (keyR n w) x0 (x0 :: t) = x := nodup_inj nd _ m1 _ s1 (Int.le_antisymm (m2 x (.tail _ s1)) (s2 _ m1))
     rw [this] at hd
     exact hd
   ·have ha' : a ∈ x0 :: t := by
     rcases List.mem_cons.mp ha with rfl | ha
     ·exact .head _
     ·exact ha
    have hc' : c ∈ x0 :: t := by
     rcases List.mem_cons.mp hc with rfl | hc
     ·exact .head _
     ·exact hc
    have h1 := (hmem a ha').2.2
    have h2 := (hmem c hc').2.2
    exact ltLF_key (lt_k h1 rfl) (lt_k h2 rfl)
noncomputable abbrev lnM (n : Nat) (d w : Int) : D := zAn (memOp n d) (immOp w)
noncomputable abbrev fM (w : Int) (ks : List Nat) : List (Nat × Nat) := fits (fun k => fitM (zA k) w) 0 ks
noncomputable def octQ (n : Nat) (d w : Int) (x : Nat × Nat) (q : Quad) : List UInt8 := memOct (zA x.1) (hi n) w (layB q (zA x.1).dig d)
noncomputable def encQ (n : Nat) (d w : Int) (x : Nat × Nat) (q : Quad) : D := encM (zA x.1) (x.2 : Nat) (hi n) w (layB q (zA x.1).dig d) (quadD q (hi n))
noncomputable def fitQ (n : Nat) (d w : Int) (x : Nat × Nat) : Fit := ⟨zA x.1, (x.2 : Nat), (zY n d).map fun q => (quadD q (hi n), octQ n d w x q)⟩
noncomputable def quadQ (n : Nat) (d w : Int) (m : MI) : D × D × D × D := (.int ((octQ n d w m.1 m.2.1).length : Nat), .int (m.1.2 : Nat), .int (m.2.2 : Nat), encQ n d w m.1 m.2.1)
noncomputable def lfQ (n : Nat) (d w : Int) (q : Quad) (x : Nat × Nat) : LF := ⟨zA x.1, (x.2 : Nat), quadD q (hi n), octQ n d w x q⟩
theorem layB_len {n : Nat} {d g : Int} {q : Quad} (hq : q ∈ zY n d) : ((layB q g d).length : Int) = lenQ q := by
 have h := quad_w hq
 rw [layB_eq h]
 unfold lenQ
 cases decide (0 ≤ q.2.2.1) <;> rcases h with h | h | h <;> rw [h] <;> rfl
theorem esc_01 {k : Nat} (hk : k < 9) : (zA k).esc = 0 ∨ (zA k).esc = 1 := by
 have : ∀ k ∈ List.range 9, ((zA k).esc == 0 || (zA k).esc == 1) = true := List.all_eq_true.mp (by rfl')
 have := this k (List.mem_range.mpr hk)
 simpa using this
theorem octQ_len {n : Nat} {d w : Int} {x : Nat × Nat} {q : Quad} {i : Nat} (hk : x.1 < 9) (hq : q ∈ zY n d) : ((octQ n d w x q).length : Int) = lenM n w (x, q, i) := by
 have h1 := layB_len (g := (zA x.1).dig) hq
 have ht : octQ n d w x q = ((if decide (hi n = 1) then [65] else []) ++ (if (zA x.1).esc == 1 then [15] else []) ++ leB 1 ((zA x.1).op + 0) ++ layB q (zA x.1).dig d) ++ tailB (zA x.1).k2 w := by
  unfold octQ memOct tailB
  simp only
  split <;> simp
 rw [ht]
 unfold lenM
 simp only [List.length_append, Int.natCast_add, h1]
 have h2 : (leB 1 ((zA x.1).op + 0)).length = 1 := by simp [leB, leI_len]
 rw [h2]
 have h3 : (((if decide (hi n = 1) then [65] else [] : List UInt8).length : Nat) : Int) = hi n := by
  rcases List.mem_cons.mp (hi_mem n) with e | e
  ·rw [e]; rfl
  ·rw [List.mem_singleton.mp e]; rfl
 have h4 : (((if (zA x.1).esc == 1 then [15] else [] : List UInt8).length : Nat) : Int) = (zA x.1).esc := by
  rcases esc_01 hk with e | e <;> rw [e] <;> rfl
 rw [h3, h4]
 simp only [Int.natCast_one]
theorem rows_Q {n : Nat} {d w : Int} {x : Nat × Nat} : ∀ {qs : List Quad} {i : Nat}, rowsOf (x.2 : Nat) (zV (zA x.1) (x.2 : Nat)) i (qs.map fun q => (quadD q (hi n), octQ n d w x q)) = ((spots x i qs).map (quadQ n d w)).map quadT
 | [], _ => rfl
 | q :: t, i => by
  simp only [List.map_cons, rowsOf, spots, rows_Q (qs := t)]
  rfl
theorem allRows_Q {n : Nat} {d w : Int} : ∀ {xs : List (Nat × Nat)}, zBs (xs.map (fitQ n d w)) = ((zAq n d xs).map (quadQ n d w)).map quadT
 | [] => rfl
 | x :: t => by
  simp only [List.map_cons, zBs, allRows_Q (xs := t), zAq, List.flatMap_cons, List.map_append]
  congr 1
  exact rows_Q
theorem keyQ_lt {n : Nat} {d w : Int} {a b : MI} (ha : a.1.1 < 9) (hb : b.1.1 < 9) (qa : a.2.1 ∈ zY n d) (qb : b.2.1 ∈ zY n d) (h1 : a.1.2 < 1000) (h2 : b.1.2 < 1000) (h3 : a.2.2 < 1000) (h4 : b.2.2 < 1000) : keyLt (keyT (quadQ n d w a)) (keyT (quadQ n d w b)) = some (decide (keyM n w a < keyM n w b)) := by
 show keyLt (.tup [.int ((octQ n d w a.1 a.2.1).length : Nat), .int (a.1.2 : Nat), .int (a.2.2 : Nat)]) (.tup [.int ((octQ n d w b.1 b.2.1).length : Nat), .int (b.1.2 : Nat), .int (b.2.2 : Nat)]) = _
 rw [keyLt_three h1 h2 h3 h4, octQ_len (i := a.2.2) ha qa, octQ_len (i := b.2.2) hb qb]
 rfl
theorem q0_all : (List.range 16).all (fun n => zBk.all fun d => match zY n d with
  | [] => false
  | q :: qs => qs.all fun r => decide (lenQ q ≤ lenQ r)) = true := by rfl'
theorem q0_min {n : Nat} {d : Int} (hn : n < 16) (hd : d ∈ zBk) : ∃ q qs, zY n d = q :: qs ∧ ∀ r ∈ zY n d, lenQ q ≤ lenQ r := by
 have h := List.all_eq_true.mp (List.all_eq_true.mp q0_all n (List.mem_range.mpr hn)) d hd
 cases hs : zY n d with
 | nil => rw [hs] at h; cases h
 | cons q qs =>
  rw [hs] at h
  refine ⟨q, qs, rfl, fun r hr => ?_⟩
  rcases List.mem_cons.mp hr with rfl | hr
  ·exact Int.le_refl _
  ·exact of_decide_eq_true (List.all_eq_true.mp h r hr)
theorem rm_fits {k : Nat} {w : Int} (hk : k < 9) (h : fitM (zA k) w = true) : k ∈ zBt := by
 unfold fitM at h
 exact (rm_of hk).mp (Bool.and_eq_true_iff.mp h).1
noncomputable def leastQ (n : Nat) (d w : Int) : List MI -> D
 | [] => .none
 | m :: _ => .tup [.int (m.1.2 : Nat), .bytes (octQ n d w m.1 m.2.1)]
theorem octQ_le {n : Nat} {d w : Int} {x : Nat × Nat} {q : Quad} (hk : x.1 < 9) (hq : q ∈ zY n d) : (octQ n d w x q).length ≤ 1000 := by
 have h := octQ_len (w := w) (i := 0) hk hq
 have h1 : hi n ≤ 1 := by
  rcases List.mem_cons.mp (hi_mem n) with e | e
  ·lia
  ·rw [List.mem_singleton.mp e]; decide
 have h2 : (zA x.1).esc ≤ 1 := by rcases esc_01 hk with e | e <;> lia
 have h3 := tailB_len (w := w) hk
 have h4 : lenQ q ≤ 6 := by
  unfold lenQ
  rcases quad_w hq with e | e | e <;> rw [e] <;> split <;> decide
 unfold lenM at h
 simp only at h
 lia
theorem line_M {n : Nat} {d w : Int} {ks : List Nat} (hn : n < 16) (hd : d ∈ zBk) (hw : w ∈ zAo) (hks : ∀ k ∈ ks, k < 9) (h0 : 0 < ks.length) (hl : ks.length ≤ 4) :
  CallZ 99 1178 [isD ks, lnM n d w] (.lst ((srt (keyM n w) (zAq n d (fM w ks))).map fun m => encQ n d w m.1 m.2.1)) ∧ CallZ 99 1185 [isD ks, lnM n d w] (leastQ n d w (srt (keyM n w) (zAq n d (fM w ks)))) ∧
   ∀ m t, srt (keyM n w) (zAq n d (fM w ks)) = m :: t -> zF 99 969 [isD ks, lnM n d w] (.int ((octQ n d w m.1 m.2.1).length : Nat)) := by
 obtain ⟨ok, no⟩ := ff_of (q := fun k => fitM (zA k) w) (A := memOp n d) (B := immOp w) h0 hl (fun k hk i => (call_matM (hks k hk) hw).up (by decide)) fun fs => (call_of (som_mem fs (reg64 n) w d)).up (by decide)
 have hmem : ∀ x ∈ fM w ks, x.1 < 9 ∧ x.1 ∈ zBt ∧ x.2 < 4 := fun x hx => by
  obtain ⟨a, b, _, c⟩ := zBj hx
  exact ⟨hks _ b, rm_fits (hks _ b) a, lt_4 c hl rfl⟩
 have hfl : (fM w ks).length ≤ 4 := Nat.le_trans fits_len hl
 have nd := keysM_nodup (n := n) (d := d) (w := w) (q := fun k => fitM (zA k) w) hl
 obtain ⟨q0, qs, hq0, hmin⟩ := q0_min hn hd
 have hq6 := zCl n d
 cases hxs : fM w ks with
 | nil =>
  have h := no hxs
  have e : srt (keyM n w) (zAq n d []) = [] := srt_short (by simp [zAq])
  rw [e]
  exact ⟨call_heardr (call_encr h), call_lawleastr (call_leastr h), fun m t h => by cases h⟩
 | cons x0 t =>
  have h936 := ok (by rw [show fits (fun k => fitM (zA k) w) 0 ks = x0 :: t from hxs]; simp)
  rw [show fits (fun k => fitM (zA k) w) 0 ks = x0 :: t from hxs] at h936 nd
  rw [hxs] at hmem hfl
  have hml := memAll_len (n := n) (d := d) (xs := x0 :: t)
  have hml2 : (zAq n d (x0 :: t)).length ≤ 24 := by rw [hml]; exact Nat.le_trans (Nat.mul_le_mul hfl hq6) (by decide)
  have hml1 : 0 < (zAq n d (x0 :: t)).length := by rw [hml, hq0]; exact Nat.mul_pos (Nat.succ_pos _) (Nat.succ_pos _)
  have fitOK : ∀ m ∈ (x0 :: t).map (fitQ n d w), FitOK 96 (lnM n d w) m := fun m hm => by
   obtain ⟨x, hx, rfl⟩ := List.mem_map.mp hm
   obtain ⟨a, b, c⟩ := hmem x hx
   refine ⟨?_, fun p hp => ?_, (List.length_map _).symm ▸ le_k hq6 rfl⟩
   ·have h := call_shfM (num := (x.2 : Nat)) (w := w) a ((rm_of a).mpr b) hn hd
    have e : ((zY n d).map fun q => (quadD q (hi n), octQ n d w x q)).map (·.1) = shapesM n d := by rw [List.map_map]; rfl
    show zF 97 862 [zV (zA x.1) (x.2 : Nat), lnM n d w] (.lst (((zY n d).map fun q => (quadD q (hi n), octQ n d w x q)).map (·.1)))
    rw [e]
    exact h.up (by decide)
   ·obtain ⟨q, hq, rfl⟩ := List.mem_map.mp hp
    exact ⟨octQ_le a hq, call_tried (call_encM (num := (x.2 : Nat)) (w := w) hn hd hq b)⟩
  have hall := allRows_Q (n := n) (d := d) (w := w) (xs := x0 :: t)
  refine ⟨zF.z (call_heard ?_), ?_⟩
  ·have h := call_encodings (is := isD ks) (I := lnM n d w) (M := (x0 :: t).map (fitQ n d w)) (qs := (zAq n d (x0 :: t)).map (quadQ n d w)) (outs := (srt (keyM n w) (zAq n d (x0 :: t))).map (quadQ n d w)) (by rw [List.map_map]; exact h936) fitOK hall (fun e => ?_) (by rw [List.length_map]; exact Nat.lt_of_le_of_lt hml2 (by decide)) (.inl ?_) (by rw [List.length_map, srt_len]; exact le_k hml2 rfl)
   ·rw [List.map_map] at h
    exact h
   ·rw [List.map_eq_nil_iff] at e
    rw [e] at hml1
    simp at hml1
   ·rw [List.map_map, List.map_map, List.map_map]
    refine sortOK_map nd (fun a ha b hb => ?_) fun a ha => rfl
    obtain ⟨a1, a2, a3⟩ := zBo ha
    obtain ⟨b1, b2, b3⟩ := zBo hb
    have c1 := hmem _ a1
    have c2 := hmem _ b1
    exact keyQ_lt c1.1 c2.1 a2 b2 (lt_k c1.2.2 rfl) (lt_k c2.2.2 rfl) (lt_k a3 rfl) (lt_k b3 rfl)
  ·have q0m : q0 ∈ zY n d := by rw [hq0]; exact .head _
   have hlf : ∀ m ∈ lfQ n d w q0 x0 :: t.map (lfQ n d w q0), LFOK 96 (lnM n d w) m := fun m hm => by
    have hm : m ∈ (x0 :: t).map (lfQ n d w q0) := hm
    obtain ⟨x, hx, rfl⟩ := List.mem_map.mp hm
    obtain ⟨a, b, c⟩ := hmem x hx
    exact ⟨octQ_le a q0m, call_tried (call_encM0 (num := (x.2 : Nat)) (w := w) hn hd hq0 b)⟩
   have h := call_least (is := isD ks) (I := lnM n d w) (m0 := lfQ n d w q0 x0) (M := t.map (lfQ n d w q0)) (by rw [show lfQ n d w q0 x0 :: t.map (lfQ n d w q0) = (x0 :: t).map (lfQ n d w q0) from rfl, List.map_map]; exact h936) hlf (by rw [List.length_map]; exact le_k (Nat.le_of_succ_le hfl) rfl)
   have lt' : ∀ a ∈ x0 :: x0 :: t, ∀ c ∈ x0 :: x0 :: t, ltLF (lfQ n d w q0 a) (lfQ n d w q0 c) = decide (keyM n w (a, q0, 0) < keyM n w (c, q0, 0)) := fun a ha c hc => by
    have ha' : a ∈ x0 :: t := by
     rcases List.mem_cons.mp ha with rfl | ha
     ·exact .head _
     ·exact ha
    have hc' : c ∈ x0 :: t := by
     rcases List.mem_cons.mp hc with rfl | hc
     ·exact .head _
     ·exact hc
    have h1 := hmem a ha'
    have h2 := hmem c hc'
    rw [ltLF_key (a := lfQ n d w q0 a) (b := lfQ n d w q0 c) (i := a.2) (j := c.2) (lt_k h1.2.2 rfl) (lt_k h2.2.2 rfl)]
    refine decide_eq_decide.mpr ?_
    show ((octQ n d w a q0).length : Int) * 1000 + (a.2 : Nat) < ((octQ n d w c q0).length : Int) * 1000 + (c.2 : Nat) ↔ _
    rw [octQ_len (i := 0) h1.1 q0m, octQ_len (i := 0) h2.1 q0m]
    unfold keyM
    generalize lenM n w (a, q0, 0) = x
    generalize lenM n w (c, q0, 0) = y
    simp only
    lia
   have hb := bestOf_map (κ := fun x => keyM n w (x, q0, 0)) (f := lfQ n d w q0) (b := x0) (xs := x0 :: t) lt'
   rw [List.map_cons] at hb
   rw [hb] at h
   obtain ⟨m1, m2⟩ := bestA_min (κ := fun x => keyM n w (x, q0, 0)) (xs := x0 :: t) (b := x0)
   have m1 : bestA (fun x => keyM n w (x, q0, 0)) x0 (x0 :: t) ∈ x0 :: t := by
    rcases List.mem_cons.mp m1 with e | m1
    ·rw [e]; exact .head _
    ·exact m1
   have same : ∀ m t', srt (keyM n w) (zAq n d (x0 :: t)) = m :: t' -> m = (bestA (fun x => keyM n w (x, q0, 0)) x0 (x0 :: t), q0, 0) := fun m t' hs => by
    obtain ⟨s1, s2⟩ := srt_head hs
    obtain ⟨b1, b2, b3⟩ := zBo s1
    have in0 : ∀ x ∈ x0 :: t, ((x, q0, 0) : MI) ∈ zAq n d (x0 :: t) := fun x hx => List.mem_flatMap.mpr ⟨x, hx, by rw [hq0]; exact .head _⟩
    refine nodup_inj nd _ s1 _ (in0 _ m1) ?_
    have e1 := s2 _ (in0 _ m1)
    have e2 := m2 m.1 (.tail _ b1)
    have e3 : keyM n w (m.1, q0, 0) ≤ keyM n w m := by
     have := hmin _ b2
     unfold keyM lenM
     simp only
     lia
    lia
   cases hs : srt (keyM n w) (zAq n d (x0 :: t)) with
   | nil => have := srt_len (κ := keyM n w) (xs := zAq n d (x0 :: t)); rw [hs] at this; simp at this; lia
   | cons m t' =>
    obtain rfl := same m t' hs
    refine ⟨zF.z (call_lawleast h), fun m t h' => ?_⟩
    cases h'
    exact call_ilen h (octQ_le (hmem _ m1).1 q0m)
noncomputable abbrev RootP : PeT := fun w A _ h₀ L => Root w A h₀ L
theorem EvE.q {Pe} {sc ρ n e d} (h : EvE sc ρ n e d) : EvEq Pe sc ρ n e d := fun prog w A env h₀ L s m ko led news Q E _ => h prog w A env h₀ L s m ko led news Q E
noncomputable def EvTq (Pe : PeT) (sc : zT) (ρ : Loc) (n : Nat) (e : Expr) (b : Bool) : Prop :=
 ∀ (prog : Program) (w : World) (A : Around) (env : Env) (h₀ : Heap) (L : Addr) (s : Shared) (m : Str -> Option Value) (ko led news : Led) (Q : Bool -> Shared -> Prop) (E : Value -> Shared -> Prop), Pe w A env h₀ L ->
  env.scope.names = sc -> Sit w A env h₀ L n -> St env h₀ L s.heap m ρ ko led news ->
  (∀ h' tk led' news', St env h₀ L h' m ρ ko led' news' -> Inc led led' -> Q b (sw s h' tk)) -> wpAny (model prog w) A (isTrue e env (eval e env)) Q E s
section
variable {Pe : PeT} {sc : zT} {ρ ρ1 ρ2 : Loc} {n : Nat}
theorem EvT.q {e b} (h : EvT sc ρ n e b) : EvTq Pe sc ρ n e b := fun prog w A env h₀ L s m ko led news Q E _ => h prog w A env h₀ L s m ko led news Q E
theorem evq_callz {x xp pos e es ds d} {a : Nat} {r} (hr : r ∈ zAk) (hf : r.f = a) (c1 : zZ sc x = true) (c2 : zM x = true) (hg : fnd x gTab = some (.ref a)) (c4 : (e :: es).all zP = true) (h : evL noO ft n sc ρ (e :: es) = some ds) (hc : CallZ n a ds d) : EvEq RootP sc ρ n (.Call (.Name x xp) (e :: es) [] pos) d := by
 intro prog w A env h₀ L s m ko led news Q E Ro hs Si S K
 refine Rows.Call_ (zBl hs Si S c1 c2 hg ?_)
 have hst := c4
 simp only [List.all_cons, Bool.and_eq_true] at hst
 refine callWith_K (h₀ := h₀) Si.X (zAv _ hr hf) ?_ (zB hst.1) (by rw [zAr]; exact zAa hst.2)
 refine l_of h prog w A env h₀ L s m ko led news _ E _ hs Si S fun vs h' tk led' news' S' i r => ?_
 refine ⟨Si.X.keeps S'.F.keep, wpAny_call (hc prog w A env h₀ L (sw s h' tk) m ρ ko led' news' vs _ Ro Si S' r fun v h2 tk2 led2 news2 S2 i2 r2 => ?_)⟩
 exact K v h2 tk2 led2 news2 S2 (Inc.trans i i2) r2
theorem evTq_cmp1 {l op r pos a b c} (hn : zBe r = true) (h1 : EvEq Pe sc ρ (n + 1) l a) (h2 : EvE sc ρ (n + 1) r b) (e : cmpD op a b = some c) : EvTq Pe sc ρ (n + 1) (.Compare l [op] [r] pos) c := by
 intro prog w A env h₀ L s m ko led news Q E hp hs Si S K
 refine wpAny_isTrue_Compare1 (h1 prog w A env h₀ L s m ko led news _ E hp hs Si S fun v h' tk led' news' S' i ra => ?_) (zBg hn)
 refine h2 prog w A env h₀ L _ m ko led' news' _ E hs Si S' fun v2 h2' tk2 led2 news2 S2 i2 rb => ?_
 exact zBv (led := news2) S2.nd (fun p hp => (S2.N p hp).1) Si.u4 e (R.mono (fun p hp => S2.sub p (i2 p hp)) ra) (R.mono S2.sub rb) (wpAny_truthy_bool (K h2' tk2 led2 news2 S2 (Inc.trans i i2)))
theorem evq_cmp1 {l op r pos a b c} (hn : zBe r = true) (h1 : EvEq Pe sc ρ (n + 1) l a) (h2 : EvE sc ρ (n + 1) r b) (e : cmpD op a b = some c) : EvEq Pe sc ρ (n + 1) (.Compare l [op] [r] pos) (.bool c) := by
 intro prog w A env h₀ L s m ko led news Q E hp hs Si S K
 refine wpAny_Compare1 (h1 prog w A env h₀ L s m ko led news _ E hp hs Si S fun v h' tk led' news' S' i ra => ?_) (zBg hn)
 refine h2 prog w A env h₀ L _ m ko led' news' _ E hs Si S' fun v2 h2' tk2 led2 news2 S2 i2 rb => ?_
 exact zBv (led := news2) S2.nd (fun p hp => (S2.N p hp).1) Si.u4 e (R.mono (fun p hp => S2.sub p (i2 p hp)) ra) (R.mono S2.sub rb) (K _ h2' tk2 led2 news2 S2 (Inc.trans i i2) R_bool)
theorem evq_and {x y pos d} (h1 : EvEq Pe sc ρ n x (.bool true)) (h2 : EvE sc ρ n y d) : EvEq Pe sc ρ n (.BoolOp .And [x, y] pos) d := by
 intro prog w A env h₀ L s m ko led news Q E hp hs Si S K
 refine BoolOp_and (h1 prog w A env h₀ L s m ko led news _ E hp hs Si S fun v h' tk led' news' S' i r => ?_)
 rw [zBd r]
 exact wpAny_truthy_bool (ev_bool1 h2 prog w A env h₀ L _ m ko led' news' _ E hs Si S' fun v2 h2' tk2 led2 news2 S2 i2 => K v2 h2' tk2 led2 news2 S2 (Inc.trans i i2))
theorem ex1q_if {t a b pos c fl} (h1 : EvTq Pe sc ρ n t c) (h2 : ExSq Pe sc ρ n (if c then a else b) fl ρ1) : Ex1q Pe sc ρ n (.If t a b pos) fl ρ1 := by
 intro prog w A env h₀ L s m ko led news Q hp hs hl Si S K
 refine wpAny_If (h1 prog w A env h₀ L s m ko led news _ _ hp hs Si S fun h' tk led' news' S' i => ?_)
 cases c with
 | true => exact h2 prog w A env h₀ L _ m ko led' news' _ hp hs hl Si S' fun f2 h2' tk2 m2 led2 news2 S2 i2 hf2 => K f2 h2' tk2 m2 led2 news2 S2 (Inc.trans i i2) hf2
 | false => exact h2 prog w A env h₀ L _ m ko led' news' _ hp hs hl Si S' fun f2 h2' tk2 m2 led2 news2 S2 i2 hf2 => K f2 h2' tk2 m2 led2 news2 S2 (Inc.trans i i2) hf2
theorem exsq_nil : ExSq Pe sc ρ n [] .next ρ := ExS.q zAh
theorem zAs {st rest fl} (h1 : Ex1q Pe sc ρ n st .next ρ1) (h2 : ExSq Pe sc ρ1 n rest fl ρ2) : ExSq Pe sc ρ n (st :: rest) fl ρ2 := by
 intro prog w A env h₀ L s m ko led news Q hp hs hl Si S K
 refine wpAny_execs_cons (h1 prog w A env h₀ L s m ko led news _ hp hs hl Si S fun f h' tk m' led' news' S' i hf => ?_)
 have : f = .next := hf
 subst this
 exact h2 prog w A env h₀ L _ m' ko led' news' _ hp hs hl Si S' fun f2 h2' tk2 m2 led2 news2 S2 i2 hf2 => K f2 h2' tk2 m2 led2 news2 S2 (Inc.trans i i2) hf2
theorem ex1q_two {elts k tpos e1 e2 k' vpos pos x y d1 d2} (hsw : swapNames sc elts [e1, e2] = some [x, y]) (hx : zAu sc x = true) (hy : zAu sc y = true) (hst : [e1, e2].all zP = true) (h1 : EvE sc ρ n e1 d1) (h2 : EvEq Pe sc ρ n e2 d2) : Ex1q Pe sc ρ n (.Assign [.Tuple elts k tpos] (.Tuple [e1, e2] k' vpos) pos) .next (put x (.val d1) (put y (.val d2) ρ)) := by
 intro prog w A env h₀ L s m ko led news Q hp hs hl Si S K
 simp only [List.all_cons, List.all_nil, Bool.and_true, Bool.and_eq_true] at hst
 refine Rows.Assign_Tuple_swapped (names := [x, y]) ?_ rfl (swap_of hsw hs Si.kd)
 refine Tuple_ (args_cons (h1 prog w A env h₀ L s m ko led news _ _ hs Si S fun v1 h' tk led' news' S' i r1 => ?_) (zB hst.1))
 refine args_cons (h2 prog w A env h₀ L _ m ko led' news' _ _ hp hs Si S' fun v2 h2' tk2 led2 news2 S2 i2 r2 => args_nil ?_) (zB hst.2)
 refine newTuple_N S2.F S2.N (fun h3 F N => ?_) (by have : sizeLine = 2 ^ 24 := rfl; simp; lia)
 have lt : ∀ p ∈ news2, p.1 < h2'.objs.size := fun p hp => Heap.lt_size (S2.N p hp).1
 have S3 := S2.apart (new := [(h2'.objs.size, tupOf [v1, v2])]) F N (zQ S2.nd lt)
 have hi : h3.IsTuple h2'.objs.size [v1, v2].toArray := ⟨_, (S3.N _ (.head _)).1, rfl, _, rfl⟩
 show wpAny _ A (unpackItems (.ref h2'.objs.size) [v1, v2].toArray.size none) _ _ _
 refine wpAny_unpackItems_tuple Si.hd (s := (sw s h3 tk2)) hi fun h4 he => ?_
 have S4 : St env h₀ L h4 m ρ ko led2 ([(h2'.objs.size, tupOf [v1, v2])] ++ news2) := S3.re (S3.F.extBut he (Nat.le_refl _)) fun p hp => by
  have z := S3.N p hp
  exact ⟨he p.1 p.2 (Nat.ne_of_lt (Heap.lt_size z.1)) z.1, z.2⟩
 show wpAny _ A (assignInOrder [bindName env y, bindName env x] [v2, v1]) _ _ _
 refine assignInOrder_cons (t := bindName env y) (wpAny_bindName (store_ Si.kd hl (zL hs hy) S4.F S4.N fun h5 F5 N5 => ?_))
 have S5 := S4.putVal hl (zL hs hy) F5 N5 r2
 refine assignInOrder_cons (t := bindName env x) (wpAny_bindName (store_ Si.kd hl (zL hs hx) S5.F S5.N fun h6 F6 N6 => ?_))
 exact assignInOrder_nil (K .next h6 _ _ led2 _ (S5.putVal hl (zL hs hx) F6 N6 (R.mono i2 r1)) (Inc.trans i i2) rfl)
end
theorem eqDs_self {n : Nat} : ∀ {ds}, (∀ d ∈ ds, eqD n d d = some true) -> eqDs n ds ds = some true
 | [], _ => rfl
 | d :: t, h => by
  show ((eqD n d d).bind fun x => (eqDs n t t).map fun y => x && y) = _
  rw [h d (.head _), eqDs_self fun d hd => h d (.tail _ hd)]
  rfl
theorem ne_self {ds} (h : ∀ d ∈ ds, eqD 3 d d = some true) : cmpD .NotEq (.lst ds) (.lst ds) = some false := by
 have : eqD 4 (.lst ds) (.lst ds) = some true := eqDs_self h
 unfold cmpD
 rw [this]
 rfl
theorem tup_self {n : Nat} {ds} (h : ∀ d ∈ ds, eqD n d d = some true) : eqD (n + 1) (.tup ds) (.tup ds) = some true := eqDs_self h
theorem cp_mem {α : Type} {sc ρ} {n : Nat} {t elt} {f g : α -> D} {ρ1 : α -> Loc} (h1 : ∀ x, bindT sc t (f x) ρ = some (ρ1 x)) : ∀ {xs : List α}, (∀ x ∈ xs, EvE sc (ρ1 x) n elt (g x)) -> Cp sc n t elt [] ρ (xs.map f) (xs.map g)
 | [], _ => .nil
 | x :: t, h => .keep (h1 x) (fun c hc => nomatch hc) (h x (.head _)) (cp_mem h1 fun y hy => h y (.tail _ hy))
theorem call_eln {oct : List UInt8} {f sh} (ho : oct.length ≤ 1000) : zF 3 829 [encD oct f sh] (.int (oct.length : Nat)) := by
 have hlen : lenD (.bytes oct) = some oct.length := rfl
 have hb : zG r829.st = [stAt r829 0] := by rfl'
 have key : ExS (zD r829.st).names [(S' "self", .val (encD oct f sh))] 2 (zG r829.st) (.ret (.int (oct.length : Nat))) [(S' "self", .val (encD oct f sh))] := by
  rw [hb]
  exact zAj rfl (zBy (zAx (by rfl') (by rfl') (bv := .builtin "len") (by rfl') rfl rfl (zH rfl (ev_attr rfl (zJ (d := encD oct f sh) (by rfl') (by rfl')) (by rfl') (by rfl')) zO) (blt_len hlen (Nat.ble_eq_true_of_le (by lia)))))
 exact zR (n := 2) (ds := [encD oct f sh]) g829 rfl @key rfl
theorem rowL_ok {p ap cp sc ρ} {n : Nat} {oct : List UInt8} {f sh} (h : zCf (.Name (S' "row") p) ap cp [] = true) (hr : fnd (S' "row") ρ = some (.val (encD oct f sh))) (ho : oct.length ≤ 1000) : EvE sc ρ (n + 3) (.Call (.Attribute (.Name (S' "row") p) (S' "length") ap) [] [] cp) (.int (oct.length : Nat)) :=
 ev_meth (zJ hr (by rfl')) (f := 829) (by rfl') (by rfl') (fun P => zAv P mem_fn829 rfl) h zO (fun _ => rfl) ((call_eln ho).up (by lia))
theorem rowF_ok {p q p' sc ρ} {n : Nat} {oct : List UInt8} {r} {num : Int} {sh} (hr : fnd (S' "row") ρ = some (.val (encD oct (zV r num) sh))) : EvE sc ρ n (.Attribute (.Attribute (.Name (S' "row") p) (S' "form") q) (S' "number") p') (.int num) :=
 ev_attr rfl (ev_attr (d := zV r num) rfl (zJ hr (by rfl')) (by rfl') (by rfl')) (by rfl') (by rfl')
theorem rowO_ok {p q sc ρ} {n : Nat} {oct : List UInt8} {f sh} (hr : fnd (S' "row") ρ = some (.val (encD oct f sh))) : EvE sc ρ n (.Attribute (.Name (S' "row") p) (S' "octets") q) (.bytes oct) :=
 ev_attr rfl (zJ hr (by rfl')) (by rfl') (by rfl')
noncomputable def RootS (a : Addr) (vs : List Value) (S : List Int) : PeT := fun w A _ h₀ L => Root w A h₀ L ∧ h₀.IsList a vs.toArray ∧ IntsAre vs S
theorem ints_rs {led vs} {S : List Int} (h : IntsAre vs S) : Rs led (S.map D.int) vs := by
 induction h with
 | nil => exact Rs.nil
 | cons _ _ _ ih => exact Rs.cons R_int ih
theorem EvEq.of {Pe Pf} {sc ρ n e d} (hp : ∀ w A env h₀ L, Pf w A env h₀ L -> Pe w A env h₀ L) (h : EvEq Pe sc ρ n e d) : EvEq Pf sc ρ n e d := fun prog w A env h₀ L s m ko led news Q E p => h prog w A env h₀ L s m ko led news Q E (hp _ _ _ _ _ p)
theorem ExSq.of {Pe Pf} {sc ρ n e d ρ'} (hp : ∀ w A env h₀ L, Pf w A env h₀ L -> Pe w A env h₀ L) (h : ExSq Pe sc ρ n e d ρ') : ExSq Pf sc ρ n e d ρ' := fun prog w A env h₀ L s m ko led news Q p => h prog w A env h₀ L s m ko led news Q (hp _ _ _ _ _ p)
theorem Ex1q.of {Pe Pf} {sc ρ n e d ρ'} (hp : ∀ w A env h₀ L, Pf w A env h₀ L -> Pe w A env h₀ L) (h : Ex1q Pe sc ρ n e d ρ') : Ex1q Pf sc ρ n e d ρ' := fun prog w A env h₀ L s m ko led news Q p => h prog w A env h₀ L s m ko led news Q (hp _ _ _ _ _ p)
theorem EvEq.up {Pe} {sc ρ n k e d} (h : EvEq Pe sc ρ n e d) (hk : n ≤ k) : EvEq Pe sc ρ k e d := fun prog w A env h₀ L s m ko led news Q E hp hs Si S K => h prog w A env h₀ L s m ko led news Q E hp hs (Si.le hk) S K
theorem Ex1q.up {Pe} {sc ρ n k e d ρ'} (h : Ex1q Pe sc ρ n e d ρ') (hk : n ≤ k) : Ex1q Pe sc ρ k e d ρ' := fun prog w A env h₀ L s m ko led news Q hp hs hl Si S K => h prog w A env h₀ L s m ko led news Q hp hs hl (Si.le hk) S K
section
variable {a : Addr} {vs0 : List Value} {S0 : List Int} {Pe : PeT} {sc : zT} {ρ : Loc} {n : Nat}
theorem evq_slice {x xp u p pos} {k : Nat} (hx : fnd x ρ = some (.val (.at a))) (hd : zM x = true) (hl : S0.length ≤ 1000) (h2 : EvE sc ρ n u (.int (k : Nat))) : EvEq (RootS a vs0 S0) sc ρ n (.Subscript (.Name x xp) (.Slice none (some u) none p) pos) (.lst ((S0.take k).map D.int)) := by
 intro prog w A env h₀ L s m ko led news Q E hp hsc Si S K
 refine Rows.Subscript_ (zJ hx hd prog w A env h₀ L s m ko led news _ E hsc Si S fun v h' tk led' news' S' i1 ra => ?_)
 refine wpAny_Slice (evalPart_none_step (evalPart_some_step (h2 prog w A env h₀ L _ m ko led' news' _ E hsc Si S' fun v2 h2' tk2 led2 news2 S2 i2 rb => evalPart_none_step ?_)))
 obtain ⟨t, rfl⟩ := zS rb
 have ra : R led' (.at a) v := ra
 obtain rfl : _ = Value.ref _ := ra
 obtain ⟨_, hi0, ia⟩ := hp
 have hi : h2'.IsList a vs0.toArray := hi0.at fun o e => S2.F.keep _ o e
 have rr : Rs led2 (S0.map D.int) vs0 := ints_rs ia
 have hlen := Rs.length rr
 rw [List.length_map] at hlen
 refine kmk_slice_lit (s := (sw s h2' tk2)) (zs := vs0.take k) S2.F S2.N hi .none (.int _ t) ?_ (fun D h3 F3 N3 lt => ?_) rfl (fun r => rfl) (by have : sizeLine = 2 ^ 24 := rfl; simp; lia)
 ·have hb : sliceBounds none (some ((k : Nat) : Int)) none vs0.toArray.size = (((0 : Nat) : Int), ((min k vs0.length : Nat) : Int), 1) := slice_b _ _
  rw [kmk_pick_nat _ hb]
  simp [kmk_take_min]
 ·obtain ⟨led3, i3, S3, r3⟩ : ∃ led3, (Inc led2 led3) ∧ St env h₀ L h3 m ρ ko led3 ((D, listOf (vs0.take k).toArray 0) :: news2) ∧ R led3 (.lst ((S0.take k).map Mine.D.int)) (.ref D) := by
   refine ⟨_, fun p hp => .tail _ hp, S2.grow (new := [(D, listOf (vs0.take k).toArray 0)]) F3 N3 (zQ S2.nd lt), ?_⟩
   refine R_lst (.head _) ?_
   rw [List.map_take]
   exact Rs.mono (fun p hp => .tail _ hp) (Rs.take rr)
  exact K _ h3 tk2 led3 _ S3 (Inc.trans i1 (Inc.trans i2 i3)) r3
theorem evq_slen {x xp l lp pos} (hg : zZ sc l = true) (hd : zM l = true) (hl : eqS l (S' "len") = true) (hx : fnd x ρ = some (.val (.at a))) (hdx : zM x = true) (hz : S0.length ≤ 1000) : EvEq (RootS a vs0 S0) sc ρ n (.Call (.Name l lp) [.Name x xp] [] pos) (.int (S0.length : Nat)) := by
 intro prog w A env h₀ L s m ko led news Q E hp hs Si S K
 obtain rfl := zW.mp hl
 obtain ⟨_, hi0, ia⟩ := hp
 refine Rows.Call_ (zAl hs Si S hg hd (v := .builtin "len") (by rfl') ?_)
 refine callWith_builtin1 (args_cons (zJ hx hdx prog w A env h₀ L s m ko led news _ E hs Si S fun v h' tk led' news' S' i ra => args_nil ?_) rfl) rfl rfl
 have ra : R led' (.at a) v := ra
 obtain rfl : _ = Value.ref _ := ra
 have hi : h'.IsList a vs0.toArray := hi0.at fun o e => S'.F.keep _ o e
 have hlen := IntsAre.length ia
 refine Rows.len_list (s := (sw s h' tk)) hi (by simp only [List.size_toArray]; lia) ?_
 simp only [List.size_toArray]
 rw [hlen]
 exact K _ h' _ led' news' S' i R_int
noncomputable def EvLq (Pe : PeT) (sc : zT) (ρ : Loc) (n : Nat) (e : Expr) (d : D) : Prop :=
 ∀ (prog : Program) (w : World) (A : Around) (env : Env) (h₀ : Heap) (L : Addr) (s : Shared) (m : Str -> Option Value) (ko led news : Led) (Q : List Value -> Shared -> Prop) (E : Value -> Shared -> Prop) (pos : Pos), Pe w A env h₀ L ->
  env.scope.names = sc -> Sit w A env h₀ L n -> St env h₀ L s.heap m ρ ko led news -> (∀ vs h' tk led' news', St env h₀ L h' m ρ ko led' news' -> Inc led led' -> Rs led' [d] vs -> Q vs (sw s h' tk)) ->
  wpAny (model prog w) A (spliced (backTo pos (starEach [e] env))) Q E s
theorem evlq_one {e d} (hn : zP e = true) (h1 : EvEq Pe sc ρ n e d) : EvLq Pe sc ρ n e d := by
 intro prog w A env h₀ L s m ko led news Q E pos hp hs Si S K
 exact args_cons (h1 prog w A env h₀ L s m ko led news _ E hp hs Si S fun v h' tk led' news' S' i r => args_nil (K _ h' tk led' news' S' i (Rs.one r))) (zB hn)
theorem evq_bcall {x xpos pos e bv d1 d} (hk : zZ sc x = true) (hd : zM x = true) (eb : fnd x bTab = some bv) (hb : isB bv = true) (hst : zP e = true) (ha : EvEq Pe sc ρ n e d1) (hc : BltOK n bv [d1] d) : EvEq Pe sc ρ n (.Call (.Name x xpos) [e] [] pos) d := by
 intro prog w A env h₀ L s m ko led news Q E hp hs Si S K
 refine Rows.Call_ (zAl hs Si S hk hd eb ?_)
 have fin : wpAny (model prog w) A (spliced (backTo pos (starEach [e] env))) (fun vs s₁ => wpAny (model prog w) A (call bv vs) Q E s₁) E s := by
  refine evlq_one hst @ha prog w A env h₀ L s m ko led news _ E pos hp hs Si S fun vs h' tk led' news' S' i r => ?_
  exact hc prog w A env h₀ L _ m ρ ko led' news' vs Q E Si S' r fun v h2 tk2 led2 news2 S2 i2 r2 => K v h2 tk2 led2 news2 S2 (Inc.trans i i2) r2
 cases bv with
 | builtin id => exact callWith_builtin1 fin (zB hst) rfl
 | type T => exact Rows.callWith_type1 fin (zB hst) rfl
 | _ => cases hb
theorem evq_call {x xpos pos e d1 f d} (hk : zZ sc x = true) (hd : zM x = true) (eg : fnd x gTab = some (.ref f)) (hkeep : ∀ P, keepIn (KW P) (.ref f) = true) (hst : zP e = true) (ha : EvEq Pe sc ρ n e d1) (hc : zF n f [d1] d) : EvEq Pe sc ρ n (.Call (.Name x xpos) [e] [] pos) d := by
 intro prog w A env h₀ L s m ko led news Q E hp hs Si S K
 refine Rows.Call_ (zBl hs Si S hk hd eg ?_)
 refine callWith_K (h₀ := h₀) Si.X (hkeep _) ?_ (zB hst) rfl
 refine evlq_one hst @ha prog w A env h₀ L s m ko led news _ E pos hp hs Si S fun vs h' tk led' news' S' i r => ?_
 exact ⟨Si.X.keeps S'.F.keep, call_fin Si hc K S' i r⟩
theorem evq_list1 {e pos d} (hst : zP e = true) (ha : EvEq Pe sc ρ n e d) : EvEq Pe sc ρ n (.List [e] pos) (.lst [d]) := by
 intro prog w A env h₀ L s m ko led news Q E hp hs Si S K
 refine List_ (evlq_one hst @ha prog w A env h₀ L s m ko led news _ E pos hp hs Si S fun vs h' tk led' news' S' i r => ?_)
 refine new_own S' (by rw [← Rs.length r]; have : sizeLine = 2 ^ 24 := rfl; simp only [List.length_cons, List.length_nil]; lia) fun a h2 news2 S2 hm n1 n2 ⟨mm, X, ap⟩ => ?_
 refine K _ h2 tk _ news2 (S2.shareList X hm n2 ap) (fun p hp => .tail _ (i p hp)) ?_
 show R _ _ _
 exact R_lst (.head _) (Rs.mono (fun p hp => .tail _ hp) r)
theorem evq_binl {l op r pos a b d} (h1 : EvEq Pe sc ρ n l a) (h2 : EvE sc ρ n r b) (e : binD op a b = some d) : EvEq Pe sc ρ n (.BinOp l op r pos) d := by
 intro prog w A env h₀ L s m ko led news Q E hp hs Si S K
 refine wpAny_BinOp (h1 prog w A env h₀ L s m ko led news _ E hp hs Si S fun v h' tk led' news' S' i ra => ?_)
 refine h2 prog w A env h₀ L _ m ko led' news' _ E hs Si S' fun v2 h2' tk2 led2 news2 S2 i2 rb => ?_
 exact bin_sound e (R.mono i2 ra) rb fun v3 tk3 r3 => K v3 h2' tk3 led2 news2 S2 (Inc.trans i i2) r3
theorem evq_addl {l r pos a b} (h1 : EvEq Pe sc ρ n l (.lst a)) (h2 : EvEq Pe sc ρ n r (.lst b)) (hz : Nat.ble (a.length + b.length) 10000 = true) : EvEq Pe sc ρ n (.BinOp l .Add r pos) (.lst (a ++ b)) := by
 intro prog w A env h₀ L s m ko led news Q E hp hs Si S K
 refine wpAny_BinOp (h1 prog w A env h₀ L s m ko led news _ E hp hs Si S fun v h' tk led' news' S' i ra => ?_)
 refine h2 prog w A env h₀ L _ m ko led' news' _ E hp hs Si S' fun v2 h2' tk2 led2 news2 S2 i2 rb => ?_
 obtain ⟨x, vs, c, rfl, m1, hi1, r1⟩ := S2.isLst (R.mono i2 ra)
 obtain ⟨y, ws, c', rfl, m2, hi2, r2⟩ := S2.isLst rb
 have hl1 := Rs.length r1
 have hl2 := Rs.length r2
 have hz' := Nat.le_of_ble_eq_true hz
 refine add_lists (s := (sw s h2' tk2)) S2.F S2.N hi1 hi2 (fun h3 F3 N3 => ?_) (by have : sizeLine = 2 ^ 24 := rfl; lia)
 obtain ⟨led3, i3, S3, r3⟩ := S2.newList F3 N3 (Rs.append r1 r2)
 exact K _ h3 tk2 led3 _ S3 (Inc.trans i (Inc.trans i2 i3)) r3
theorem ex1q_assign {x px e pos d} (hx : zAu sc x = true) (hn : zBx e = true) (h : EvEq Pe sc ρ n e d) : Ex1q Pe sc ρ n (.Assign [.Name x px] e pos) .next (put x (.val d) ρ) := by
 intro prog w A env h₀ L s m ko led news Q hp hs hl Si S K
 refine wpAny_Assign_Name (h prog w A env h₀ L s m ko led news _ _ hp hs Si S fun v h' tk led' news' S' i r => ?_) (noSwap hn _ _ _)
 refine store_ Si.kd hl (zL hs hx) S'.F S'.N fun h2 F2 N2 => ?_
 exact K .next h2 _ _ led' news' (S'.putVal hl (zL hs hx) F2 N2 r) i rfl
theorem ex1q_for_listq {Pf} {ρ' x px it body pos ds fl} (hp : ∀ w A env h₀ L, Pf w A env h₀ L -> Pe w A env h₀ L) (hx : zAu sc x = true) (hn : zBe it = true) (h : EvEq Pf sc ρ n it (.lst ds)) (lp : Lp Pe sc n x body ρ ds fl ρ') : Ex1q Pf sc ρ n (.For (.Name x px) it body [] pos) fl ρ' := by
 intro prog w A env h₀ L s m ko led news Q hPf hs hl Si S K
 have hPe := hp _ _ _ _ _ hPf
 refine For_invV h₀ (zL hs hx) (by rw [Si.kd]; rfl) (h prog w A env h₀ L s m ko led news _ _ hPf hs Si S fun v h' tk led' news' S' i rv => ?_) (fun _ => zBm hn _) PassesOwn.never
 obtain ⟨a, vs, c, rfl, hm, hi, rr⟩ := S'.isLst rv
 refine wpAny_pyIter_list hi ?_
 obtain ⟨f1, f2, f3⟩ := S'.fresh
 have hne : a ≠ h'.objs.size := Nat.ne_of_lt (Heap.lt_size (S'.held _ hm))
 have W := Walks.list (prog := prog) (w := w) Si.hd h'.objs.size a hne vs.toArray
 have hlen : vs.toArray.size = ds.length := by rw [List.size_toArray, Rs.length rr]
 rw [hlen] at W
 have S2 := S'.pushed { cls := .type "list_iterator", data := .fields #[.ref a, .int 0 0] }
 refine loop_go hPe hs hl Si (zL hs hx) W (fun b hb => ?_) ⟨⟨_, Heap.get?_push_size _ rfl, rfl, rfl⟩, hi.at fun o e => Heap.get?_push_of_some _ e⟩ S2 f1 f2 f3 (fun i h hst => ?_) (fun i v hin hP => ?_) lp
  fun f h2 tk2 m2 led2 news2 S3 i3 hf => K f h2 tk2 m2 led2 news2 S3 (Inc.trans i i3) hf
 ·rcases List.mem_cons.mp hb with e | hb
  ·exact .inl e
  ·rw [List.mem_singleton.mp hb]; exact .inr ⟨_, hm⟩
 ·obtain ⟨⟨o, ho, hc, hd⟩, _⟩ := hst
  exact ⟨o, ho, (fun C dx e => by rw [e] at hc; cases hc), (fun mm h => by obtain ⟨es, ep, e, _⟩ := h; rw [hd] at e; cases e), (fun v e => by rw [hd] at e; cases e)⟩
 ·have hd : ds[i]? = some ds[i] := List.getElem?_eq_getElem hin
  obtain ⟨u, hu, ru⟩ := Rs.get rr hd
  simp only [List.getElem?_toArray] at hP
  rw [hu] at hP
  cases hP
  exact ⟨_, hd, ru⟩
end
noncomputable abbrev scL : zT := (zD (zX 122)).names
noncomputable def stL (i : Nat) : Stmt := (zG (zX 122)).getD i noSt
theorem bodyL : zG (zX 122) = [stL 0, stL 1, stL 2, stL 3, stL 4, stL 5, stL 6, stL 7, stL 8] := by rfl'
noncomputable def stB (i : Nat) : Stmt := (stB1 (stL 3)).getD i noSt
theorem bodyB : stB1 (stL 3) = [stB 0, stB 1, stB 2, stB 3, stB 4, stB 5] := by rfl'
noncomputable abbrev lstI (S : Addr) : LV := .val (.at S)
noncomputable abbrev rowsL (ks : List Nat) : D := .lst (ks.map fun k => rowD (zA k))
noncomputable abbrev rhoS (S : Addr) : Loc := [(S' "script", lstI S)]
noncomputable abbrev rhoV (S : Addr) (ks : List Nat) : Loc := [(S' "script", lstI S), (S' "rows", .val (rowsL ks))]
noncomputable abbrev rhoJ (S : Addr) (ks : List Nat) : Loc := [(S' "script", lstI S), (S' "rows", .val (rowsL ks)), (S' "iset", .val (isD ks))]
noncomputable abbrev rhoL (S : Addr) (ks : List Nat) (n w d : D) : Loc := [(S' "script", lstI S), (S' "rows", .val (rowsL ks)), (S' "iset", .val (isD ks)), (S' "number", .val n), (S' "worth", .val w), (S' "disp", .val d)]
noncomputable abbrev rhoT (S : Addr) (ks : List Nat) (n w d c : D) : Loc := [(S' "script", lstI S), (S' "rows", .val (rowsL ks)), (S' "iset", .val (isD ks)), (S' "number", .val n), (S' "worth", .val w), (S' "disp", .val d), (S' "cell", .val c)]
noncomputable abbrev rhoB (S : Addr) (ks : List Nat) (n w d c r : D) : Loc := [(S' "script", lstI S), (S' "rows", .val (rowsL ks)), (S' "iset", .val (isD ks)), (S' "number", .val n), (S' "worth", .val w), (S' "disp", .val d), (S' "cell", .val c), (S' "rest", .val r)]
noncomputable abbrev rhoD (S : Addr) (ks : List Nat) (n w d c r due line : D) : Loc := [(S' "script", lstI S), (S' "rows", .val (rowsL ks)), (S' "iset", .val (isD ks)), (S' "number", .val n), (S' "worth", .val w), (S' "disp", .val d), (S' "cell", .val c), (S' "rest", .val r), (S' "due", .val due), (S' "line", .val line)]
theorem codes_run (i : Int) : (List.range 9).map (fun k => bodyOf 30 r974 [(S' "form", .val (zV (zA k) i))]) = (List.range 9).map fun k => some (.lst (codesD (zA k))) := by rfl'
theorem call_codes {k : Nat} (hk : k < 9) (i : Int) : zF 31 974 [zV (zA k) i] (.lst (codesD (zA k))) := by
 obtain ⟨fl, ρ', h, hf⟩ := bodyOf_ok (List.map_inj_left.mp (codes_run i) k (List.mem_range.mpr hk))
 exact call_of_bodyC (y := S' "form") (n := 30) (ds := [zV (zA k) i]) mem_fn974 (by rfl') (by rfl') (by rfl') b974 rfl (by rfl') rfl (fun n => by rfl') (by rfl') (by rfl') (ExS.bodyC @h) hf
noncomputable def absI (c : Int) : Int := if c < 0 then -c else c
theorem intsOfI {S : List Int} : intsOf (S.map D.int) = some S := ints_of
theorem law_g0 {S vs} {xs : List Int} (hl : xs.length ≤ 63) : ∃ ks : List Nat, ks.Nodup ∧ (∀ k ∈ ks, k < 9) ∧ 2 ≤ ks.length ∧ ks.length ≤ 4 ∧ Ex1q (RootS S vs xs) scL (rhoS S) 63 (stL 0) .next (rhoV S ks) := by
 obtain ⟨ks, nd, h9, h2, h4, hc⟩ := call_chosen (absI (xs.take 12).sum)
 refine ⟨ks, nd, h9, h2, h4, ?_⟩
 show Ex1q (RootS S vs xs) scL (rhoS S) 63 _ .next (put (S' "rows") (.val (rowsL ks)) (rhoS S))
 exact ex1q_assign (by rfl') rfl (evq_call (by rfl') (by rfl') (by rfl') (fun P => zAv P mem_fn1140 rfl) rfl (evq_bcall (by rfl') (by rfl') (bv := .builtin "abs") (by rfl') rfl rfl (evq_bcall (by rfl') (by rfl') (bv := .builtin "sum") (by rfl') rfl rfl (evq_slice (k := 12) (by rfl') (by rfl') (by lia) (zAb rfl)) (blt_sum intsOfI)) blt_abs) hc)
noncomputable def lcE : Expr := hdE (kx (stE (stL 1)))
noncomputable def lcElt : Expr := hdE (kx lcE)
noncomputable def lcSc : zT := match lcE with
 | .ListComp _ _ s _ => zAg scL s
 | _ => []
theorem formE : (List.range 9).map (fun k => evE noO ft 60 lcSc [(S' "row", .val (rowD (zA k)))] lcElt) = (List.range 9).map fun k => some (zV (zA k) (-1)) := by rfl'
theorem law_forms {S} {ks : List Nat} (h9 : ∀ k ∈ ks, k < 9) (h4 : ks.length ≤ 4) : EvE scL (rhoV S ks) 60 lcE (.lst (ks.map fun k => zV (zA k) (-1))) :=
 ev_own (evo_comp (by rfl') (by rfl') (by rfl') (.list (ds := ks.map fun k => rowD (zA k)) rfl (zJ (by rfl') (by rfl'))) (Nat.ble_eq_true_of_le (by rw [List.length_map]; lia)) (cp_mem (ρ1 := fun k => [(S' "row", .val (rowD (zA k)))]) (fun k => by rfl') fun k hk => e_of (List.map_inj_left.mp formE k (List.mem_range.mpr (h9 k hk)))))
theorem law_g2 {S} {ks : List Nat} : Ex1 scL (rhoJ S ks) 63 (stL 2) .next (rhoL S ks (.int 0) (.int 1) (.int 0)) := s1_of (by rfl')
theorem mul17 (a : Int) : binD .Mult (.int a) (.int (.ofNat 17)) = some (.int (a * .ofNat 17)) := gd_true (Bool.or_eq_true_iff.mpr (.inr (by rfl')))
theorem law_it {S vs} {xs : List Int} {ks : List Nat} {n w d} (hl : xs.length ≤ 63) : ∃ cs : List Int, EvEq (RootS S vs xs) scL (rhoL S ks n w d) 63 (stE (stL 3)) (.lst (cs.map D.int)) := by
 refine ⟨[(xs.length : Int) * .ofNat 17] ++ xs.take 2, ?_⟩
 have hz : ((xs.take 2).map D.int).length ≤ 2 := by rw [List.length_map, List.length_take]; lia
 show EvEq (RootS S vs xs) scL (rhoL S ks n w d) 63 (stE (stL 3)) (.lst ([D.int ((xs.length : Int) * .ofNat 17)] ++ (xs.take 2).map D.int))
 refine evq_addl ?_ ?_ (Nat.ble_eq_true_of_le (by simp only [List.length_cons, List.length_nil]; lia))
 ·refine evq_list1 rfl ?_
  exact evq_binl (evq_slen (by rfl') (by rfl') (by rfl') (by rfl') (by rfl') (by lia)) (zAb (d := .int (.ofNat 17)) rfl) (mul17 _)
 ·exact evq_bcall (by rfl') (by rfl') (bv := .type "list") (by rfl') rfl rfl (evq_slice (k := 2) (by rfl') (by rfl') (by lia) (zAb rfl)) (blt_list rfl (Nat.ble_eq_true_of_le (by lia)))
section
variable {S : Addr} {ks : List Nat} {n w d c r : D}
theorem law_b0 {a : Int} : Ex1 scL (rhoT S ks n w d (.int a)) 100 (stB 0) .next (rhoB S ks n w d (.int a) (.int (absI a))) := s1_of (by rfl')
noncomputable def twoE (i : Nat) (s : Stmt) : Expr := (kx (stE s)).getD i noE
theorem law_b1 {a : Int} : ∃ w' ∈ zAo, ∃ r' : Int, Ex1 scL (rhoB S ks n w d c (.int a)) 100 (stB 1) .next (rhoB S ks n (.int w') d c (.int r')) := by
 obtain ⟨w', hw, hc⟩ := call_worth a
 refine ⟨w', hw, a.fdiv (.ofNat 17), ?_⟩
 have h : Ex1 scL (rhoB S ks n w d c (.int a)) 100 (stB 1) .next (put (S' "worth") (.val (.int w')) (put (S' "rest") (.val (.int (a.fdiv (.ofNat 17)))) (rhoB S ks n w d c (.int a)))) := ex1_two (l1 := .val (.int w')) (l2 := .val (.int (a.fdiv (.ofNat 17)))) (by rfl') (by rfl') (by rfl') rfl (zAp (ds := [.int a]) mem_fn1147 rfl (by rfl') (by rfl') (by rfl') rfl (by rfl') (hc.up (by decide))) (ev_bin (zJ (d := .int a) (by rfl') (by rfl')) (zAb rfl) (fdivD a 17 rfl))
 rw [show put (S' "worth") (.val (.int w')) (put (S' "rest") (.val (.int (a.fdiv (.ofNat 17)))) (rhoB S ks n w d c (.int a))) = rhoB S ks n (.int w') d c (.int (a.fdiv (.ofNat 17))) from by rfl'] at h
 exact h
theorem law_b2 {a : Int} : ∃ n' d', n' < 16 ∧ d' ∈ zBk ∧ Ex1 scL (rhoB S ks n w d c (.int a)) 100 (stB 2) .next (rhoB S ks (.int (n' : Nat)) w (.int d') c (.int a)) := by
 obtain ⟨n', hn, en⟩ := mod_of (rest := a) (m := 16) (by decide)
 obtain ⟨d', hd, hi⟩ := itemAt_modI (ws := zBk) (a := a.fdiv (.ofNat 16)) (m := 6) (by decide) (by rfl') (by decide)
 refine ⟨n', d', hn, hd, ?_⟩
 have hr : ∀ p, EvE scL (rhoB S ks n w d c (.int a)) 100 (.Name (S' "rest") p) (.int a) := fun p => zJ (by rfl') (by rfl')
 have h : Ex1 scL (rhoB S ks n w d c (.int a)) 100 (stB 2) .next (put (S' "number") (.val (.int (n' : Nat))) (put (S' "disp") (.val (.int d')) (rhoB S ks n w d c (.int a)))) := by
  rw [← en]
  exact ex1_two (l1 := .val (.int (a.fmod (.ofNat 16)))) (l2 := .val (.int d')) (by rfl') (by rfl') (by rfl') rfl (zAx (by rfl') (by rfl') (bv := .type "int") (by rfl') rfl rfl (zH rfl (ev_bin @(hr _) (zAb rfl) (modD a 16 rfl)) zO) (blt_int rfl))
   (ev_idx rfl (e_of (d := .lst (zBk.map D.int)) (by rfl')) (zAx (by rfl') (by rfl') (bv := .type "int") (by rfl') rfl rfl (zH rfl (ev_bin (ev_bin @(hr _) (zAb rfl) (fdivD a 16 rfl)) (zAb rfl) (modD _ 6 rfl)) zO) (blt_int rfl)) hi)
 rw [show put (S' "number") (.val (.int (n' : Nat))) (put (S' "disp") (.val (.int d')) (rhoB S ks n w d c (.int a))) = rhoB S ks (.int (n' : Nat)) w (.int d') c (.int a) from by rfl'] at h
 exact h
theorem b3_1 {w : Int} : (List.range 16).map (fun n => evE noO ft 100 scL (rhoB S ks (.int (n : Nat)) (.int w) d c r) (twoE 0 (stB 3))) = (List.range 16).map fun n => some (lnR n w) := by rfl'
noncomputable abbrev fitsR (n : Nat) (w : Int) (ks : List Nat) : List (Nat × Nat) := srt (keyR n w) (fR n w ks)
noncomputable abbrev dueRD (n : Nat) (w : Int) (ks : List Nat) : D := .lst ((fitsR n w ks).map (dueR n w))
theorem law_b3 {n : Nat} {w : Int} (hn : n < 16) (hw : w ∈ zAo) (hks : ∀ k ∈ ks, k < 9) (hl : ks.length ≤ 4) : Ex1 scL (rhoB S ks (.int (n : Nat)) (.int w) d c r) 100 (stB 3) .next (rhoD S ks (.int (n : Nat)) (.int w) d c r (dueRD n w ks) (lnR n w)) := by
 have h : Ex1 scL (rhoB S ks (.int (n : Nat)) (.int w) d c r) 100 (stB 3) .next (put (S' "line") (.val (lnR n w)) (put (S' "due") (.val (dueRD n w ks)) (rhoB S ks (.int (n : Nat)) (.int w) d c r))) :=
  ex1_two (l1 := .val (lnR n w)) (l2 := .val (dueRD n w ks)) (by rfl') (by rfl') (by rfl') rfl (e_of (List.map_inj_left.mp b3_1 n (List.mem_range.mpr hn))) (zAp (ds := [rowsL ks, .int (n : Nat), .int w]) mem_fn1159 rfl (by rfl') (by rfl') (by rfl') rfl (by rfl') ((call_regRows hn hw hks hl).up (by decide)))
 rw [show put (S' "line") (.val (lnR n w)) (put (S' "due") (.val (dueRD n w ks)) (rhoB S ks (.int (n : Nat)) (.int w) d c r)) = rhoD S ks (.int (n : Nat)) (.int w) d c r (dueRD n w ks) (lnR n w) from by rfl'] at h
 exact h
end
theorem exsq_fewer {Pe} {sc ρ n ss fl ρ1 ρ2} (h : ExSq Pe sc ρ n ss fl ρ1) (hs : Sub ρ1 ρ2) : ExSq Pe sc ρ n ss fl ρ2 := fun prog w A env h₀ L s m ko led news Q hp h1 h2 Si S K => h prog w A env h₀ L s m ko led news Q hp h1 h2 Si S fun f h' tk m' led' news' S' => K f h' tk m' led' news' (S'.forget hs)
theorem Ex1.q {Pe} {sc ρ n st fl ρ'} (h : Ex1 sc ρ n st fl ρ') : Ex1q Pe sc ρ n st fl ρ' := fun prog w A env h₀ L s m ko led news Q _ => h prog w A env h₀ L s m ko led news Q
theorem CallZ.up {n k f ds d} (h : CallZ n f ds d) (hk : n ≤ k) : CallZ k f ds d := fun prog w A env h₀ L s m ρ ko led news vs Rr Ro Si S r K => h prog w A env h₀ L s m ρ ko led news vs Rr Ro (Si.le hk) S r K
theorem eq_int {n : Nat} {i : Int} : eqD (n + 1) (.int i) (.int i) = some true := congrArg some (beq_self_eq_true i)
theorem eq_bytes {n : Nat} {b : List UInt8} : eqD (n + 1) (.bytes b) (.bytes b) = some true := congrArg some (beq_self_eq_true b)
theorem ifq_not {Pe sc ρ} {n : Nat} {op : CmpOp} {l r p q body a b} (hn : zBe r = true) (h1 : EvEq Pe sc ρ (n + 1) l a) (h2 : EvE sc ρ (n + 1) r b) (e : cmpD op a b = some false) : Ex1q Pe sc ρ (n + 1) (.If (.Compare l [op] [r] p) body [] q) .next ρ :=
 ex1q_if (c := false) (evTq_cmp1 hn @h1 @h2 e) exsq_nil
section
variable {S : Addr} {ks : List Nat} {n w d c r : D}
theorem fitsR_mem {n : Nat} {w : Int} {x : Nat × Nat} (hks : ∀ k ∈ ks, k < 9) (h : x ∈ fitsR n w ks) : x.1 < 9 := hks _ (zBj (srt_perm.mem_iff.mp h)).2.1
theorem fitsR_len {n : Nat} {w : Int} (hl : ks.length ≤ 4) : (fitsR n w ks).length ≤ 4 := by rw [srt_len]; exact Nat.le_trans fits_len hl
theorem law_b4 {n : Nat} {w : Int} (hn : n < 16) (hw : w ∈ zAo) (hks : ∀ k ∈ ks, k < 9) (h0 : 0 < ks.length) (hl : ks.length ≤ 4) {n' w'} : Ex1q RootP scL (rhoD S ks n' w' d c r (dueRD n w ks) (lnR n w)) 100 (stB 4) .next (rhoD S ks n' w' d c r (dueRD n w ks) (lnR n w)) := by
 have hc := (line_R hn hw hks h0 hl).1
 refine ifq_not (n := 99) (a := dueRD n w ks) (b := dueRD n w ks) rfl (evq_comp (ds := (fitsR n w ks).map (encX n w)) (by rfl') (by rfl') (by rfl') (.listq rfl (evq_callz (ds := [isD ks, lnR n w]) mem_fn1178 rfl (by rfl') (by rfl') (by rfl') rfl (by rfl') (CallZ.up hc (by decide)))) (Nat.ble_eq_true_of_le (by have := fitsR_len (n := n) (w := w) hl; rw [List.length_map]; exact Nat.le_trans this (by decide)))
  (cp_mem (ρ1 := fun x => [(S' "row", .val (encX n w x))]) (fun x => by rfl') fun x hx => ?_)) (zJ (by rfl') (by rfl')) (ne_self fun z hz => ?_)
 ·have hr : fnd (S' "row") ([(S' "row", LV.val (encX n w x))] : Loc) = some (LV.val (encD (zBp (zA x.1) n w) (zV (zA x.1) (x.2 : Nat)) (regShape (zA x.1) n))) := by rfl'
  exact ev_tuple (zH rfl (rowL_ok (n := 97) (by rfl') hr (Nat.le_trans (regOct_len (fitsR_mem hks hx)) (by decide))) (zH rfl (rowF_ok hr) (zH rfl (rowO_ok hr) zO))) rfl
 obtain ⟨x, _, rfl⟩ := List.mem_map.mp hz
 refine tup_self fun u hu => ?_
 rcases List.mem_cons.mp hu with rfl | hu
 ·exact eq_int
 rcases List.mem_cons.mp hu with rfl | hu
 ·exact eq_int
 rcases List.mem_cons.mp hu with rfl | hu
 ·exact eq_bytes
 ·cases hu
theorem law_b5 {n : Nat} {w : Int} (hn : n < 16) (hw : w ∈ zAo) (hks : ∀ k ∈ ks, k < 9) (h0 : 0 < ks.length) (hl : ks.length ≤ 4) {n' w'} : Ex1q RootP scL (rhoD S ks n' w' d c r (dueRD n w ks) (lnR n w)) 100 (stB 5) .next (rhoD S ks n' w' d c r (dueRD n w ks) (lnR n w)) := by
 have hc : CallZ 99 1185 [isD ks, lnR n w] (leastR n w (fitsR n w ks)) := (line_R hn hw hks h0 hl).2
 unfold dueRD
 cases hx : fitsR n w ks with
 | nil =>
  rw [hx] at hc
  exact ifq_not (n := 99) (a := .none) (b := .none) rfl (evq_callz (ds := [isD ks, lnR n w]) mem_fn1185 rfl (by rfl') (by rfl') (by rfl') rfl (by rfl') (CallZ.up hc (by decide))) (e_of (by rfl')) (by rfl')
 | cons x t =>
  rw [hx] at hc
  refine ifq_not (n := 99) (a := .tup [.int (x.2 : Nat), .bytes (zBp (zA x.1) n w)]) (b := .tup [.int (x.2 : Nat), .bytes (zBp (zA x.1) n w)]) rfl (evq_callz (ds := [isD ks, lnR n w]) mem_fn1185 rfl (by rfl') (by rfl') (by rfl') rfl (by rfl') (CallZ.up hc (by decide))) (e_of (by rfl')) ?_
  have h2 : eqD 4 (.tup [.int (x.2 : Nat), .bytes (zBp (zA x.1) n w)]) (.tup [.int (x.2 : Nat), .bytes (zBp (zA x.1) n w)]) = some true := tup_self fun u hu => by
   rcases List.mem_cons.mp hu with rfl | hu
   ·exact eq_int
   rcases List.mem_cons.mp hu with rfl | hu
   ·exact eq_bytes
   ·cases hu
  show cmpD .NotEq (.tup [.int (x.2 : Nat), .bytes (zBp (zA x.1) n w)]) _ = _
  unfold cmpD
  rw [h2]
  rfl
theorem law_turn {a : Int} (hks : ∀ k ∈ ks, k < 9) (h0 : 0 < ks.length) (hl : ks.length ≤ 4) : ∃ (n' : Nat) (w' d' : Int), n' < 16 ∧ w' ∈ zAo ∧ d' ∈ zBk ∧ ExSq RootP scL (rhoT S ks n w d (.int a)) 100 (stB1 (stL 3)) .next (rhoL S ks (.int (n' : Nat)) (.int w') (.int d')) := by
 obtain ⟨w', hw, r', h1⟩ := law_b1 (S := S) (ks := ks) (n := n) (w := w) (d := d) (c := .int a) (a := absI a)
 obtain ⟨n', d', hn, hd, h2⟩ := law_b2 (S := S) (ks := ks) (n := n) (w := .int w') (d := d) (c := .int a) (a := r')
 refine ⟨n', w', d', hn, hw, hd, ?_⟩
 have hs : Sub (rhoD S ks (.int (n' : Nat)) (.int w') (.int d') (.int a) (.int r') (dueRD n' w' ks) (lnR n' w')) (rhoL S ks (.int (n' : Nat)) (.int w') (.int d')) :=
  .cons (by rfl') (.cons (by rfl') (.cons (by rfl') (.cons (by rfl') (.cons (by rfl') (.cons (by rfl') .nil)))))
 rw [bodyB]
 refine exsq_fewer ?_ hs
 refine zAs law_b0.q (zAs (Ex1.q @h1) (zAs (Ex1.q @h2) (zAs (law_b3 hn hw hks hl).q (zAs (law_b4 hn hw hks h0 hl) (zAs (law_b5 hn hw hks h0 hl) exsq_nil)))))
end
theorem law_loop {S} {ks : List Nat} (hks : ∀ k ∈ ks, k < 9) (h0 : 0 < ks.length) (hl : ks.length ≤ 4) : ∀ {cs : List Int} {n : Nat} {w d : Int}, n < 16 -> w ∈ zAo -> d ∈ zBk -> ∃ (n' : Nat) (w' d' : Int), n' < 16 ∧ w' ∈ zAo ∧ d' ∈ zBk ∧ Lp RootP scL 100 (S' "cell") (stB1 (stL 3)) (rhoL S ks (.int (n : Nat)) (.int w) (.int d)) (cs.map D.int) .next (rhoL S ks (.int (n' : Nat)) (.int w') (.int d'))
 | [], n, w, d, hn, hw, hd => ⟨n, w, d, hn, hw, hd, .nil⟩
 | a :: t, n, w, d, hn, hw, hd => by
  obtain ⟨n1, w1, d1, hn1, hw1, hd1, h⟩ := law_turn (S := S) (n := .int (n : Nat)) (w := .int w) (d := .int d) (a := a) hks h0 hl
  obtain ⟨n2, w2, d2, hn2, hw2, hd2, lp⟩ := law_loop (cs := t) hks h0 hl hn1 hw1 hd1
  refine ⟨n2, w2, d2, hn2, hw2, hd2, ?_⟩
  have hp : put (S' "cell") (.val (.int a)) (rhoL S ks (.int (n : Nat)) (.int w) (.int d)) = rhoT S ks (.int (n : Nat)) (.int w) (.int d) (.int a) := by rfl'
  have h2 : ExSq RootP scL (put (S' "cell") (.val (.int a)) (rhoL S ks (.int (n : Nat)) (.int w) (.int d))) 100 (stB1 (stL 3)) .next (rhoL S ks (.int (n1 : Nat)) (.int w1) (.int d1)) := by
   rw [hp]; exact @h
  exact .next @h2 (.inl rfl) lp
theorem rootS_root {S vs} {xs : List Int} : ∀ w A env h₀ L, RootS S vs xs w A env h₀ L -> RootP w A env h₀ L := fun _ _ _ _ _ h => h.1
theorem law_g3 {S vs} {xs : List Int} {ks : List Nat} (hS : xs.length ≤ 63) (hks : ∀ k ∈ ks, k < 9) (h0 : 0 < ks.length) (hl : ks.length ≤ 4) : ∃ (n' : Nat) (w' d' : Int), n' < 16 ∧ w' ∈ zAo ∧ d' ∈ zBk ∧ Ex1q (RootS S vs xs) scL (rhoL S ks (.int 0) (.int 1) (.int 0)) 100 (stL 3) .next (rhoL S ks (.int (n' : Nat)) (.int w') (.int d')) := by
 obtain ⟨cs, hi⟩ := law_it (S := S) (vs := vs) (ks := ks) (n := .int 0) (w := .int 1) (d := .int 0) hS
 obtain ⟨n', w', d', a, b, c, lp⟩ := law_loop (S := S) (cs := cs) (n := 0) (w := 1) (d := 0) hks h0 hl (by decide) (by decide) (by decide)
 refine ⟨n', w', d', a, b, c, ?_⟩
 have hi' : EvEq (RootS S vs xs) scL (rhoL S ks (.int 0) (.int 1) (.int 0)) 100 (stE (stL 3)) (.lst (cs.map D.int)) := EvEq.up @hi (by decide)
 exact ex1q_for_listq rootS_root (by rfl') rfl @hi' lp
noncomputable abbrev rhoP (S : Addr) (ks : List Nat) (n w d p : D) : Loc := [(S' "script", lstI S), (S' "rows", .val (rowsL ks)), (S' "iset", .val (isD ks)), (S' "number", .val n), (S' "worth", .val w), (S' "disp", .val d), (S' "place", .val p)]
noncomputable abbrev rhoF (S : Addr) (ks : List Nat) (n w d p fo du : D) : Loc := [(S' "script", lstI S), (S' "rows", .val (rowsL ks)), (S' "iset", .val (isD ks)), (S' "number", .val n), (S' "worth", .val w), (S' "disp", .val d), (S' "place", .val p), (S' "found", .val fo), (S' "due", .val du)]
section
variable {S : Addr} {ks : List Nat} {p : D}
theorem g4_run {w : Int} : (List.range 16).map (fun n => zBk.map fun d => ev1 noO ft 100 scL (rhoL S ks (.int (n : Nat)) (.int w) (.int d)) (stL 4)) = (List.range 16).map fun n => zBk.map fun d => some (.next, rhoP S ks (.int (n : Nat)) (.int w) (.int d) (lnM n d w)) := by rfl'
theorem law_g4 {n : Nat} {w d : Int} (hn : n < 16) (hd : d ∈ zBk) : Ex1 scL (rhoL S ks (.int (n : Nat)) (.int w) (.int d)) 100 (stL 4) .next (rhoP S ks (.int (n : Nat)) (.int w) (.int d) (lnM n d w)) :=
 s1_of (List.map_inj_left.mp (List.map_inj_left.mp g4_run n (List.mem_range.mpr hn)) d hd)
noncomputable abbrev mQ (n : Nat) (d w : Int) (ks : List Nat) : List MI := srt (keyM n w) (zAq n d (fM w ks))
noncomputable abbrev dueMD (n : Nat) (d w : Int) (ks : List Nat) : D := .lst ((mQ n d w ks).map (dueM n w))
noncomputable abbrev foMD (n : Nat) (d w : Int) (ks : List Nat) : D := .lst ((mQ n d w ks).map fun m => encQ n d w m.1 m.2.1)
theorem law_g5 {n : Nat} {w d : Int} (hn : n < 16) (hd : d ∈ zBk) (hw : w ∈ zAo) (hks : ∀ k ∈ ks, k < 9) (h0 : 0 < ks.length) (hl : ks.length ≤ 4) : Ex1q RootP scL (rhoP S ks (.int (n : Nat)) (.int w) (.int d) (lnM n d w)) 100 (stL 5) .next (rhoF S ks (.int (n : Nat)) (.int w) (.int d) (lnM n d w) (foMD n d w ks) (dueMD n d w ks)) := by
 have h : Ex1q RootP scL (rhoP S ks (.int (n : Nat)) (.int w) (.int d) (lnM n d w)) 100 (stL 5) .next (put (S' "due") (.val (dueMD n d w ks)) (put (S' "found") (.val (foMD n d w ks)) (rhoP S ks (.int (n : Nat)) (.int w) (.int d) (lnM n d w)))) :=
  ex1q_two (by rfl') (by rfl') (by rfl') rfl (zAp (ds := [rowsL ks, .int (n : Nat), .int d, .int w]) mem_fn1171 rfl (by rfl') (by rfl') (by rfl') rfl (by rfl') ((call_memRows hn hd hw hks hl).up (by decide))) (evq_callz (ds := [isD ks, lnM n d w]) mem_fn1178 rfl (by rfl') (by rfl') (by rfl') rfl (by rfl') (CallZ.up (line_M hn hd hw hks h0 hl).1 (by decide)))
 rw [show put (S' "due") (.val (dueMD n d w ks)) (put (S' "found") (.val (foMD n d w ks)) (rhoP S ks (.int (n : Nat)) (.int w) (.int d) (lnM n d w))) = rhoF S ks (.int (n : Nat)) (.int w) (.int d) (lnM n d w) (foMD n d w ks) (dueMD n d w ks) from by rfl'] at h
 exact h
theorem mQ_mem {n : Nat} {d w : Int} {m : MI} (hks : ∀ k ∈ ks, k < 9) (h : m ∈ mQ n d w ks) : m.1.1 < 9 ∧ m.2.1 ∈ zY n d := by
 obtain ⟨a, b, _⟩ := zBo (srt_perm.mem_iff.mp h)
 exact ⟨hks _ (zBj a).2.1, b⟩
theorem mQ_len {n : Nat} {d w : Int} (hl : ks.length ≤ 4) : (mQ n d w ks).length ≤ 1000 := by
 rw [srt_len, memAll_len]
 exact Nat.le_trans (Nat.mul_le_mul (Nat.le_trans fits_len hl) (zCl n d)) (by decide)
noncomputable def pairM (n : Nat) (w : Int) (m : MI) : D := .tup [.int (lenM n w m), .int (m.1.2 : Nat)]
theorem law_g6 {n : Nat} {w d : Int} (hks : ∀ k ∈ ks, k < 9) (hl : ks.length ≤ 4) {n' w' d'} : Ex1q RootP scL (rhoF S ks n' w' d' p (foMD n d w ks) (dueMD n d w ks)) 100 (stL 6) .next (rhoF S ks n' w' d' p (foMD n d w ks) (dueMD n d w ks)) := by
 have hlen := mQ_len (n := n) (d := d) (w := w) hl
 refine ifq_not (n := 99) (a := .lst ((mQ n d w ks).map (pairM n w))) (b := .lst ((mQ n d w ks).map (pairM n w))) rfl (EvE.q (ev_own (evo_comp (by rfl') (by rfl') (by rfl') (.list (ds := (mQ n d w ks).map fun m => encQ n d w m.1 m.2.1) rfl (zJ (by rfl') (by rfl'))) (Nat.ble_eq_true_of_le (by rw [List.length_map]; exact Nat.le_trans hlen (by decide))) (cp_mem (ρ1 := fun m => [(S' "row", .val (encQ n d w m.1 m.2.1))]) (fun m => by rfl') fun m hm => ?_))))
  (ev_own (evo_comp (by rfl') (by rfl') (by rfl') (.list (ds := (mQ n d w ks).map (dueM n w)) rfl (zJ (by rfl') (by rfl'))) (Nat.ble_eq_true_of_le (by rw [List.length_map]; exact Nat.le_trans hlen (by decide))) (cp_mem (ρ1 := fun m => [(S' "length", .val (.int (lenM n w m))), (S' "form", .val (.int (m.1.2 : Nat))), (S' "spot", .val (.int (m.2.2 : Nat)))]) (fun m => by rfl') fun m hm => e_of (by rfl')))) (ne_self fun z hz => ?_)
 ·obtain ⟨h9, hq⟩ := mQ_mem hks hm
  have hr : fnd (S' "row") ([(S' "row", LV.val (encQ n d w m.1 m.2.1))] : Loc) = some (LV.val (encD (octQ n d w m.1 m.2.1) (zV (zA m.1.1) (m.1.2 : Nat)) (quadD m.2.1 (hi n)))) := by rfl'
  unfold pairM
  rw [← octQ_len (d := d) (i := m.2.2) h9 hq]
  exact ev_tuple (zH rfl (rowL_ok (n := 97) (by rfl') hr (octQ_le h9 hq)) (zH rfl (rowF_ok hr) zO)) rfl
 obtain ⟨m, _, rfl⟩ := List.mem_map.mp hz
 refine tup_self fun u hu => ?_
 rcases List.mem_cons.mp hu with rfl | hu
 ·exact eq_int
 rcases List.mem_cons.mp hu with rfl | hu
 ·exact eq_int
 ·cases hu
theorem law_end {n : Nat} {w d : Int} (hn : n < 16) (hd : d ∈ zBk) (hw : w ∈ zAo) (hks : ∀ k ∈ ks, k < 9) (h0 : 0 < ks.length) (hl : ks.length ≤ 4) {n' w' d'} : ExSq RootP scL (rhoF S ks n' w' d' (lnM n d w) (foMD n d w ks) (dueMD n d w ks)) 100 [stL 7, stL 8] (.ret (.bool true)) (rhoF S ks n' w' d' (lnM n d w) (foMD n d w ks) (dueMD n d w ks)) := by
 obtain ⟨_, hls, hil⟩ := line_M hn hd hw hks h0 hl
 have cls : CallZ 100 1185 [isD ks, lnM n d w] (leastQ n d w (mQ n d w ks)) := CallZ.up hls (by decide)
 unfold foMD dueMD
 have hmem : ∀ m ∈ mQ n d w ks, m.1.1 < 9 ∧ m.2.1 ∈ zY n d := fun m hm => mQ_mem hks hm
 cases hx : mQ n d w ks with
 | nil =>
  rw [hx] at cls
  exact exsq_stop rfl (ex1q_if (c := true) (EvT.q (t_of (by rfl'))) (exsq_stop rfl (ex1q_ret (evq_cmp1 (n := 99) (a := .none) (b := .none) rfl (evq_callz (ds := [isD ks, lnM n d w]) mem_fn1185 rfl (by rfl') (by rfl') (by rfl') rfl (by rfl') cls) (e_of (by rfl')) (by rfl')))))
 | cons m t =>
  rw [hx] at cls hmem
  obtain ⟨h9, hq⟩ := hmem m (.head _)
  have hoc := octQ_len (n := n) (d := d) (w := w) (x := m.1) (i := m.2.2) h9 hq
  have hc2 := hil m t hx
  rw [hoc] at hc2
  refine zAs (ex1q_if (c := false) (EvT.q (t_of (by rfl'))) exsq_nil) (exsq_stop rfl (ex1q_ret (evq_and (evq_cmp1 (n := 99) (a := .tup [.int (m.1.2 : Nat), .bytes (octQ n d w m.1 m.2.1)]) (b := .tup [.int (m.1.2 : Nat), .bytes (octQ n d w m.1 m.2.1)]) rfl (evq_callz (ds := [isD ks, lnM n d w]) mem_fn1185 rfl (by rfl') (by rfl') (by rfl') rfl (by rfl') cls) (e_of (by rfl')) ?_)
   (ev_cmp1 (n := 99) (a := .int (lenM n w m)) (b := .int (lenM n w m)) rfl (zAp (ds := [isD ks, lnM n d w]) mem_fn969 rfl (by rfl') (by rfl') (by rfl') rfl (by rfl') (hc2.up (by decide))) (e_of (by rfl')) ?_))))
  ·have h2 : eqD 4 (.tup [.int (m.1.2 : Nat), .bytes (octQ n d w m.1 m.2.1)]) (.tup [.int (m.1.2 : Nat), .bytes (octQ n d w m.1 m.2.1)]) = some true := tup_self fun u hu => by
    rcases List.mem_cons.mp hu with rfl | hu
    ·exact eq_int
    rcases List.mem_cons.mp hu with rfl | hu
    ·exact eq_bytes
    ·cases hu
   show cmpD .Eq (.tup [.int (m.1.2 : Nat), .bytes (octQ n d w m.1 m.2.1)]) _ = _
   unfold cmpD
   rw [h2]
  ·have h2 : eqD 4 (.int (lenM n w m)) (.int (lenM n w m)) = some true := eq_int
   unfold cmpD
   rw [h2]
end
theorem law_rest {S vs} {xs : List Int} {ks : List Nat} (hS : xs.length ≤ 63) (hks : ∀ k ∈ ks, k < 9) (h0 : 0 < ks.length) (hl : ks.length ≤ 4) : ∃ ρ', ExSq (RootS S vs xs) scL (rhoJ S ks) 100 [stL 2, stL 3, stL 4, stL 5, stL 6, stL 7, stL 8] (.ret (.bool true)) ρ' := by
 obtain ⟨n, w, d, hn, hw, hd, h3⟩ := law_g3 (S := S) (vs := vs) (ks := ks) hS hks h0 hl
 exact ⟨_, zAs ((law_g2 (S := S) (ks := ks)).up (by decide)).q (zAs @h3 (ExSq.of rootS_root (zAs (law_g4 hn hd).q (zAs (law_g5 hn hd hw hks h0 hl) (zAs (law_g6 hks hl) (law_end hn hd hw hks h0 hl))))))⟩
end
end Mine
end
section
open PySem PySem.W PyProof.Rows PySem.Calls PyProof PySem.SeqAt
set_option Elab.async false
set_option maxRecDepth 100000
set_option linter.all false
namespace Mine
noncomputable section
section
variable [hF : HashFn]
theorem noDs_rows : ∀ {ks : List Nat}, noDs (ks.map fun k => rowD (zA k)) = true
 | [] => rfl
 | k :: t => by
  have : noD (rowD (zA k)) = true := rfl
  simp only [List.map_cons, noDs, this, noDs_rows (ks := t), Bool.and_self]
theorem ops_inj : (List.range 9).all (fun i => (List.range 9).all fun j => Nat.beq i j || !((zA i).op == (zA j).op)) = true := by rfl'
theorem ops_nodup {ks : List Nat} (nd : ks.Nodup) (h9 : ∀ k ∈ ks, k < 9) : ((ks.map zA).map (·.op)).Nodup := by
 rw [List.map_map]
 refine List.pairwise_map.mpr (nd.imp_of_mem fun {i j} hi hj hne he => hne ?_)
 have h := List.all_eq_true.mp (List.all_eq_true.mp ops_inj i (List.mem_range.mpr (h9 i hi))) j (List.mem_range.mpr (h9 j hj))
 have he : (zA i).op = (zA j).op := he
 rw [he] at h
 simp only [beq_self_eq_true, Bool.not_true, Bool.or_false] at h
 exact Nat.eq_of_beq_eq_true h
theorem law_run {prog w A env h₀ L s m news a vs} {xs : List Int} {Q} (hp : RootS a vs xs w A env h₀ L) (hs : env.scope.names = scL) (hl : env.locals = L) (Si : Sit w A env h₀ L 100)
  (S0 : St env h₀ L s.heap m (rhoS a) [] [] news) (hx : xs.length ≤ 63) (K : ∀ h' tk m' ρ' led' news', St env h₀ L h' m' ρ' [] led' news' -> Q (.ret (.bool true)) (sw s h' tk)) : wpAny (model prog w) A (execs (zG (zX 122)) env) Q (fun _ _ => False) s := by
 obtain ⟨ks, nd, h9, h2, h4, h0⟩ := law_g0 (S := a) (vs := vs) hx
 obtain ⟨ρ', hr⟩ := law_rest (S := a) (vs := vs) (ks := ks) hx h9 (by lia) h4
 rw [bodyL]
 refine wpAny_execs_cons (h0 prog w A env h₀ L s m [] [] news _ hp hs hl (Si.le (by decide)) S0 fun f h1 tk1 m1 led1 news1 S1 i1 hf => ?_)
 have : f = .next := hf
 subst this
 refine wpAny_execs_cons (exec_iset (s := (sw s h1 tk1)) (rs := ks.map zA) (n := 30) hs hl (Si.le (by decide)) S1 (by rfl') (by rfl') (by rfl') (by rfl') rfl (fun s' led' news' Q' E' S' K' => ?_) ?_ (ops_nodup nd h9) (by rw [List.length_map]; lia) (by rw [List.length_map]; lia) (fun i r hr => ?_) fun h2' tk2 m2 led2 news2 S2 i2 => ?_)
 ·rw [List.map_map] at K'
  exact law_forms h9 h4 prog w A env h₀ L s' m1 [] led' news' Q' E' hs (Si.le (by decide)) S' K'
 ·simp [okRho, noD, noDs_rows]
 ·rw [List.getElem?_map] at hr
  obtain ⟨k, hk, rfl⟩ := Option.map_eq_some_iff.mp hr
  exact call_codes (h9 k (List.mem_of_getElem? hk)) i
 ·have S2 : St env h₀ L h2' m2 (rhoJ a ks) [] led2 news2 := S2
  exact hr prog w A env h₀ L (sw s h2' tk2) m2 [] led2 news2 _ hp hs hl Si S2 fun f h3 tk3 m3 led3 news3 S3 i3 hf => by
   obtain ⟨v, rfl, rv⟩ := hf
   rw [zBd rv]
   exact K h3 tk3 m3 ρ' led3 news3 S3
end
noncomputable def tabsL : List (Addr × Addr) := [(680, 676), (954, 952)]
theorem noTabs_k (P : Params) : noTabs (KW P) = true := by rfl'
theorem tabs_at {w h} (Y : YPW w h) : TabsAt tabsL h := by
 intro q hq
 rcases List.mem_cons.mp hq with rfl | hq
 ·exact ⟨codeHd_of_K Y.1 (hd_680 _), Y.2 (676, X.tableObj #[]) (.head _)⟩
 rcases List.mem_cons.mp hq with rfl | hq
 ·exact ⟨codeHd_of_K Y.1 (hd_954 _), Y.2 (952, X.tableObj #[]) (.tail _ (.head _))⟩
 ·cases hq
theorem law_walk : WalkO qv looseV (fun _ _ => True) YPW lawRow.toRowW dLaw [] (fun f vs => PySem.call f vs) := by
 intro w s₀ s₁ mg mb G Y fa o pm cd doc dV kV ho hd hcd hD hmg hg args vals as hpre hlay hrd hwl hlo
 have KX := Y.1
 have hT := tabs_at Y
 refine Ground.open G ?_
 intro T B D TE TW
 have he := Dflts.none hD rfl
 subst he
 wrow_args hpre hlay hrd hwl hlo
 rename List Int => xs
 rename List Value => vs
 rename IntsAre vs xs => hI
 rename ¬ _ => hlen
 rename Heap.IsList s₁.heap _ _ => hL
 rename Addr => la
 refine enter_call ?_
 refine kn_post hT (fun _ _ => rfl) ?_
 refine call_fullW (binds := [(S' "script", .ref la)]) (by decide) ho hd (Top.nolimit T) hcd (BindsTo.of_eq rfl) (locs rfl) fun h₁ F => ?_
 letI : HashFn := ⟨hashStr w⟩
 have hkd : dLaw.scope.kind = .function := by rfl'
 have Xg : (KW w.params).In (ghostOf s₁.heap tabsL) := ghost_K hT KX (noTabs_k _)
 have Tg : Top topProg looseT (ExcName.means s₀.heap) mg mb (ghostOf s₁.heap tabsL) := ghost_top hT T
 have Bg : Below callerA (ghostOf s₁.heap tabsL) [] (ghostOf s₁.heap tabsL) := ghost_below hT
 have Ng : News (ghostOf s₁.heap tabsL) s₁.heap.objs.size h₁ [(676, X.tableObj #[]), (952, X.tableObj #[])] := ghost_news hT F News.nil
 have Si : Sit w (callerA.deeper (envOf dLaw.name dLaw.scope s₁.heap.objs.size fa cd)) (envOf dLaw.name dLaw.scope s₁.heap.objs.size fa cd) (ghostOf s₁.heap tabsL) s₁.heap.objs.size 100 :=
  ⟨⟨callerA, _, [], _, Bg, Around.frames_deeper rfl, rfl, hkd⟩, hkd, rfl, rfl, Xg, ⟨_, _, _, Tg⟩, rfl, (by show callerA.depth + 1 + 100 < recursionLimit; decide), (by show callerA.units + 3 + 8 * 100 < cLine; decide), fun x => rfl⟩
 have S0 : St (envOf dLaw.name dLaw.scope s₁.heap.objs.size fa cd) (ghostOf s₁.heap tabsL) s₁.heap.objs.size h₁ (fun x => List.lookup x [(S' "script", Value.ref la)].reverse) (rhoS la) [] [] [(676, X.tableObj #[]), (952, X.tableObj #[])] := by
  refine ⟨ghost_fr hT F, Ng, by decide, (fun p hp => nomatch hp), (fun p hp => nomatch hp), (fun a ha => nomatch ha), fun P hP => ⟨(fun hn => nomatch hn), #[], ?_, .inl rfl⟩, _, .fn rfl rfl, fun x lv e => ?_, fun x y lx ly v e1 e2 g1 => ?_⟩
  ·rcases List.mem_cons.mp hP with rfl | hP
   ·exact .head _
   rcases List.mem_cons.mp hP with rfl | hP
   ·exact .tail _ (.head _)
   ·cases hP
  ·unfold rhoS fnd at e
   split at e
   ·rename_i q
    obtain rfl := zW.mp q
    cases e
    refine ⟨.ref la, .loc (zL rfl (by rfl')) (by simp), ?_, fun h => by cases h⟩
    exact show R [] (.at la) (.ref la) from R_at (led := [])
   ·cases e
  ·unfold rhoS fnd at e1
   split at e1
   ·cases e1; cases g1
   ·cases e1
 have hp : RootS la vs xs w (callerA.deeper (envOf dLaw.name dLaw.scope s₁.heap.objs.size fa cd)) (envOf dLaw.name dLaw.scope s₁.heap.objs.size fa cd) (ghostOf s₁.heap tabsL) s₁.heap.objs.size :=
  ⟨⟨callerA, _, dLaw.name, dLaw.scope, fa, cd, Bg, Around.frames_deeper rfl, hkd, Xg, _, _, _, Tg⟩, ghost_list hT hL, hI⟩
 refine wpAny_noRaise (law_run (s := (sw s₁ h₁ _)) hp rfl rfl Si S0 (by lia) fun h' tk m' ρ' led' news' Z => ⟨goodW_bool Z.F hg (fun _ => rfl) (by wrow_post), ?_, ?_, trivial⟩)
 ·obtain ⟨_, ps, h, _⟩ := Z.tab 676 (.head _)
  exact GrownAt.of Z.N h
 ·obtain ⟨_, ps, h, _⟩ := Z.tab 952 (.tail _ (.head _))
  exact GrownAt.of Z.N h
theorem law_holds : PySem.Challenge.rw_pb0433_01.Holds := hdA law_walk
end
end Mine
end
theorem PySem.Challenge.cw_pb0433_01_holds : PySem.Challenge.rw_pb0433_01.Holds :=
  Mine.law_holds
