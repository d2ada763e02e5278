import PyProof.Rows.All
import Wide.All
import OpenK.AllK
import Wide.FinOn
import Lean
import PySem.Challenge.RW_xm0181_01
set_option Elab.async false
set_option linter.all false
section
open PySem PySem.W PyProof.Rows
namespace Sx
set_option maxRecDepth 100000
/-- the top's run over a tree -/
noncomputable def runD (den : Code → Sem Fin) (stp : (Code → Sem Fin) → Program → World → SharedT → Thread → Option (SharedT × Thread)) (p : Program) (w : World) (n₀ : Nat) (ann : Option Value) : Nat → SharedT → Thread → Option SharedT
  | 0, _, _ => none
  | n + 1, s, t => match through t with
    | true => some s
    | false => match stepOk n₀ ann t with
      | false => none
      | true => match stp den p w s t with
        | some (s', t') => runD den stp p w n₀ ann n s' t'
        | none => none
theorem topRun_of {tb : String → Option Builtin} {p : Program} {w : World} {n₀ : Nat} {ann : Option Value} : ∀ {n : Nat} {s s' : SharedT} {t : Thread}, runD (denote tb) stepT p w n₀ ann n s t = some s' → topRun tb p w n₀ ann n s.abs t = some s'.abs
  | 0, _, _, _, h => by cases h
  | n + 1, s, s', t, h => by
    unfold runD at h
    unfold topRun
    cases he : through t with
    | true => rw [he] at h; cases h; rfl
    | false =>
      rw [he] at h
      cases hk : stepOk n₀ ann t with
      | false => rw [hk] at h; cases h
      | true =>
        rw [hk] at h
        cases hs : stepT (denote tb) p w s t with
        | none => rw [hs] at h; cases h
        | some r => obtain ⟨s₂, t₂⟩ := r; rw [hs] at h; dsimp only; rw [stepT_spec hs]; exact topRun_of h
noncomputable def bootT (P : Params) : BT := ((boot_heap P).objs.toList.foldl (fun (t : BT × Nat) o => (t.1.ins t.2 o, t.2 + 1)) (.nil, 0)).1
noncomputable def boot0 (P : Params) (os : OsState) : SharedT := ⟨bootT P, (boot_heap P).objs.size, (boot_heap P).life, #[], boot_drawn, boot_toks, os⟩
theorem boot_abs (P : Params) (os : OsState) : (boot0 P os).abs = ⟨boot_heap P, #[], boot_drawn, boot_toks, os⟩ := by kernel_rfl
theorem boot_ns (P : Params) : (boot_heap P).isNs mainGlobals = true := by kernel_rfl
noncomputable def pg : Program := PySem.Challenge.pw_xm0181_01
noncomputable def endOk (p q : Program) (loose : List Str) (h₀ : Heap) (s : Shared) := ((staticsOk (importedModules p.main.body) h₀ s.heap && namesBound p s.heap && gensDone s && laidKept h₀ s.heap), PySem.W.Fast.tw4187177175401517315 q loose (importedModules p.main.body) (fun _ => true) true s)
noncomputable abbrev topEnd (p : Program) (w : World) (os : OsState) : Option SharedT :=
  runD (PySem.W.Fast.tw11892475500146522536 PySem.W.Fast.tw14364793385576792824) PySem.W.Fast.tw10156331382660048174 p w (boot_heap w.params).objs.size ((boot_heap w.params).nsMap mainGlobals "__annotations__") 4600 (boot0 w.params os) (topStub p)
theorem topEnd_eq (p : Program) (w : World) (os : OsState) : topEnd p w os = runD (denote treeTable) stepT p w (boot_heap w.params).objs.size ((boot_heap w.params).nsMap mainGlobals "__annotations__") 4600 (boot0 w.params os) (topStub p) := by
  unfold topEnd
  rw [← PySem.W.Fast.te11892475500146522536, ← PySem.W.Fast.te14364793385576792824, ← PySem.W.Fast.te10156331382660048174]
theorem left_of {p q : Program} {loose : List Str} {α : Type} {Yf : Shared → α} {Ya : World → α} (e : opening p = plainProg p.main.scope.names) (f : ∀ s, fenceModules? p s = some s)
    (chk : ∀ (w : World) (os : OsState), (topEnd p w os).map (fun s => (endOk p q loose (boot_heap w.params) s.abs, Yf s.abs)) = some ((true, openGood q loose), Ya w)) : LeftO p q loose (fun _ => true) Yf Ya 4600 := fun w => by
  obtain ⟨⟨h, gs, d, k, os⟩, e1, e2⟩ := Option.map_eq_some_iff.mp (boot_open (p := p) (N := 4600) e rfl f w)
  obtain ⟨rfl, rfl, rfl, rfl⟩ : h = boot_heap w.params ∧ gs = Array.mk [] ∧ d = boot_drawn ∧ k = boot_toks := by simpa using e2
  obtain ⟨s, e3, e4⟩ := Option.map_eq_some_iff.mp (chk w os)
  rw [topEnd_eq] at e3
  have r := topRun_of e3
  rw [boot_abs] at r
  obtain ⟨e5, e6⟩ := Prod.mk.inj e4
  unfold endOk at e5
  rw [← PySem.W.Fast.te4187177175401517315] at e5
  obtain ⟨e7, e8⟩ := Prod.mk.inj e5
  have t : topFrom treeTable p w 4600 ⟨boot_heap w.params, #[], boot_drawn, boot_toks, os⟩ = some s.abs := by
    unfold topFrom
    dsimp only
    rw [boot_ns, r]
    show (match staticsOk (importedModules p.main.body) (boot_heap w.params) s.abs.heap && namesBound p s.abs.heap && gensDone s.abs && laidKept (boot_heap w.params) s.abs.heap with | true => _ | false => _) = _
    rw [e7]
  unfold openEnds
  rw [e1]
  show (topFrom treeTable p w 4600 _).map _ = _
  rw [t]
  exact congrArg some (Prod.ext e8 e6)
end Sx
end
section
open PySem PySem.W PyProof.Rows
namespace Sx
set_option maxRecDepth 100000
/-! what the top has left, as far as the walk looks at it -/
noncomputable def stAt (i : Nat) : Stmt := (pg.main.body[i]?).getD (.Pass default)
noncomputable def meAt (i j : Nat) : Stmt := match stAt i with
  | .ClassDef _ _ _ b _ _ _ _ _ _ _ => (b[j]?).getD (.Pass default)
  | _ => .Pass default
noncomputable def ent (P : Params) (n : Str) (t : Tok) (v : Value) : DictEntry := ⟨PyData.keyHash P n, .str n t, v⟩
noncomputable def fnO (s : Stmt) (qn : Str) (c : Addr) (d m : Value) : Obj := match s with
  | .FunctionDef nm ar b _ _ _ sc _ _ _ => { cls := .type "function", data := .func { name := nm, qualname := qn, params := ar, body := .stmts b, scope := sc, globals := 3, closure := [], defaults := d, kwdefaults := .none, pyModule := m, code := .ref c } }
  | _ => default
noncomputable def cdO (vs : List Value) : Obj := { cls := .type "code", data := .fields vs.toArray }
noncomputable def tpO (vs : List Value) : Obj := { cls := .type "tuple", data := .seq vs.toArray }
noncomputable def dcO (es : List DictEntry) (n : Nat) : Obj := { cls := .type "dict", data := .dict es.toArray n }
noncomputable def csO (nm qn : Str) (bs mro : List Value) (ns : Addr) (sl : List (Option Value)) : Obj := { cls := .type "type", data := .cls { name := nm, bases := bs, mro := mro, ns := ns, qualname := qn }, slots := sl.toArray }
noncomputable def KT (P : Params) : Frag := [
  (3, dcO [ent P "__name__" 165 (.str "law_xm0181_01" 1056), ent P "__doc__" 166 .none, ent P "__package__" 167 .none, ent P "__loader__" 168 (.builtin "__main__.__loader__#opaque"), ent P "__spec__" 169 .none, ent P "__annotations__" 170 (.ref 6), ent P "__builtins__" 171 (.ref 4), ent P "__file__" 173 (.str "/claim/cut.py" 172), ent P "__cached__" 174 .none, ent P "_wall" 193 (.ref 21), ent P "TypedFn" 236 (.ref 38), ent P "Code" 303 (.ref 79), ent P "next_blocks" 310 (.ref 90), ent P "blocks_reached" 321 (.ref 97), ent P "led_elsewhere" 329 (.ref 104), ent P "with_kept_blocks" 343 (.ref 111), ent P "underlying_of" 353 (.ref 118), ent P "zero_value" 359 (.ref 123), ent P "LowerState" 582 (.ref 294), ent P "INT_lower_calls" 587 (.ref 299), ent P "BOOL_lower_calls" 589 (.ref 300), ent P "SYNCS" 595 (.ref 301), ent P "result_types" 602 (.ref 308), ent P "called_of" 611 (.ref 315), ent P "call_values" 617 (.ref 320), ent P "builtin_values" 623 (.ref 325), ent P "builtin_with" 633 (.ref 332), ent P "builtin_deed" 639 (.ref 337), ent P "made_value" 650 (.ref 528), ent P "made_value_lower_calls" 651 (.ref 344), ent P "chosen_value" 666 (.ref 351), ent P "later_call" 672 (.ref 356), ent P "builtin_code" 678 (.ref 361), ent P "ChanError" 712 (.ref 379), ent P "NameFault" 728 (.ref 392), ent P "TypeFault" 744 (.ref 404), ent P "base_kind" 754 (.ref 413), ent P "is_in_memory" 763 (.ref 420), ent P "global_pointer" 770 (.ref 427), ent P "way_to" 780 (.ref 434), ent P "pointer_along" 793 (.ref 441), ent P "new_variable" 803 (.ref 448), ent P "load_place" 812 (.ref 455), ent P "BOOL_lower_exprs" 816 (.ref 456), ent P "INT_lower_exprs" 819 (.ref 457), ent P "READ" 824 (.ref 458), ent P "PAIRS" 828 (.ref 459), ent P "value_of" 837 (.ref 466), ent P "values_of" 845 (.ref 473), ent P "operands_of" 851 (.ref 478), ent P "constant_of" 859 (.ref 485), ent P "function_value" 865 (.ref 490), ent P "worked_value" 877 (.ref 497), ent P "lazy_value" 888 (.ref 504), ent P "asked_values" 901 (.ref 511), ent P "cut_value" 907 (.ref 516), ent P "struct_operands" 913 (.ref 521), ent P "made_value_lower_exprs" 926 (.ref 528), ent P "slice_value" 932 (.ref 533), ent P "table_value" 938 (.ref 538), ent P "PLAIN" 942 (.ref 541), ent P "NamedRow" 977 (.ref 558), ent P "known_rows" 990 (.ref 569), ent P "World" 1055 (.ref 601), ent P "_law_pool" 1066 (.ref 612), ent P "_law_take" 1075 (.ref 619), ent P "_law_one" 1083 (.ref 626), ent P "_law_whole" 1089 (.ref 633), ent P "_law_local" 1097 (.ref 640), ent P "_law_state" 1103 (.ref 645), ent P "_law_operands" 1119 (.ref 652), ent P "_law_callee" 1126 (.ref 659), ent P "_law_call_right" 1132 (.ref 664), ent P "_law_builtins" 1150 (.ref 671), ent P "_law_builtin_right" 1156 (.ref 676), ent P "_law_chosen_right" 1162 (.ref 681), ent P "_law_later_right" 1168 (.ref 686), ent P "law" 1178 (.ref 693)] 78),
  (20, cdO [(.str "_wall" 187), (.str "_wall" 188), (.str "/claim/cut.py" 189), (.int 1 0), (.int 1 0), (.int 0 0), (.int 0 0), (.int 3 0), (.ref 15), (.bool true), (.int 181 0), (.ref 16), .none, (.ref 17), (.ref 18), (.ref 19), (.int 191 0), (.int 1 0), (.str "/claim/cut.py" 192)]),
  (21, fnO (stAt 0) "_wall" 20 .none (.str "__main__" 164)),
  (34, cdO [(.str "__init__" 208), (.str "TypedFn.__init__" 209), (.str "/claim/cut.py" 210), (.int 7 0), (.int 8 0), (.int 0 0), (.int 0 0), (.int 3 0), (.ref 29), (.bool true), (.int 181 0), (.ref 30), .none, (.ref 31), (.ref 32), (.ref 33), (.int 219 0), (.int 7 0), (.str "/claim/cut.py" 220)]),
  (35, fnO (meAt 2 0) "TypedFn.__init__" 34 .none (.str "chancore.check_state" 194)),
  (37, dcO [ent P "__module__" 203 (.str "chancore.check_state" 194), ent P "__firstlineno__" 207 (.int 5 206), ent P "__init__" 221 (.ref 35), ent P "__static_attributes__" 229 (.ref 36), ent P "__dict__" 231 (.ref 39), ent P "__weakref__" 233 (.ref 40), ent P "__doc__" 234 .none] 4),
  (38, csO "TypedFn" "TypedFn" [(.type "object")] [(.ref 38), (.type "object")] 37 [none, none, some (.str "TypedFn" 196), some (.str "TypedFn" 204), some (.builtin "object.__new__"), some (.bool true)]),
  (50, tpO [(.int 0 251), (.int 0 252), .none]),
  (56, cdO [(.str "__init__" 253), (.str "Code.__init__" 254), (.str "/claim/cut.py" 255), (.int 18 0), (.int 8 0), (.int 0 0), (.int 0 0), (.int 3 0), (.ref 51), (.bool true), (.int 181 0), (.ref 52), .none, (.ref 53), (.ref 54), (.ref 55), (.int 264 0), (.int 18 0), (.str "/claim/cut.py" 265)]),
  (57, fnO (meAt 4 0) "Code.__init__" 56 (.ref 50) (.str "chancore.code" 237)),
  (63, cdO [(.str "instructions" 267), (.str "Code.instructions" 268), (.str "/claim/cut.py" 269), (.int 27 0), (.int 2 0), (.int 0 0), (.int 0 0), (.int 3 0), (.ref 58), (.bool true), (.int 181 0), (.ref 59), .none, (.ref 60), (.ref 61), (.ref 62), (.int 272 0), (.int 27 0), (.str "/claim/cut.py" 273)]),
  (64, fnO (meAt 4 1) "Code.instructions" 63 .none (.str "chancore.code" 237)),
  (70, cdO [(.str "terminator" 275), (.str "Code.terminator" 276), (.str "/claim/cut.py" 277), (.int 30 0), (.int 2 0), (.int 0 0), (.int 0 0), (.int 3 0), (.ref 65), (.bool true), (.int 181 0), (.ref 66), .none, (.ref 67), (.ref 68), (.ref 69), (.int 280 0), (.int 30 0), (.str "/claim/cut.py" 281)]),
  (71, fnO (meAt 4 2) "Code.terminator" 70 .none (.str "chancore.code" 237)),
  (75, cdO [(.str "row" 283), (.str "Code.row" 284), (.str "/claim/cut.py" 285), (.int 33 0), (.int 1 0), (.int 0 0), (.int 0 0), (.int 3 0), (.ref 72), (.bool true), (.int 181 0), (.ref 73), .none, .none, .none, (.ref 74), (.int 286 0), (.int 33 0), (.str "/claim/cut.py" 287)]),
  (76, fnO (meAt 4 3) "Code.row" 75 .none (.str "chancore.code" 237)),
  (78, dcO [ent P "__module__" 246 (.str "chancore.code" 237), ent P "__firstlineno__" 250 (.int 16 249), ent P "__init__" 266 (.ref 57), ent P "instructions" 274 (.ref 64), ent P "terminator" 282 (.ref 71), ent P "row" 288 (.ref 76), ent P "__static_attributes__" 296 (.ref 77), ent P "__dict__" 298 (.ref 80), ent P "__weakref__" 300 (.ref 81), ent P "__doc__" 301 .none] 4),
  (79, csO "Code" "Code" [(.type "object")] [(.ref 79), (.type "object")] 78 [none, none, some (.str "Code" 239), some (.str "Code" 247), some (.builtin "object.__new__"), some (.bool true)]),
  (89, cdO [(.str "next_blocks" 304), (.str "next_blocks" 305), (.str "/claim/cut.py" 306), (.int 36 0), (.int 1 0), (.int 0 0), (.int 0 0), (.int 3 0), (.ref 84), (.bool true), (.int 181 0), (.ref 85), .none, (.ref 86), (.ref 87), (.ref 88), (.int 308 0), (.int 36 0), (.str "/claim/cut.py" 309)]),
  (90, fnO (stAt 5) "next_blocks" 89 .none (.str "chancore.code" 237)),
  (96, cdO [(.str "blocks_reached" 311), (.str "blocks_reached" 312), (.str "/claim/cut.py" 313), (.int 42 0), (.int 1 0), (.int 0 0), (.int 0 0), (.int 3 0), (.ref 91), (.bool true), (.int 181 0), (.ref 92), .none, (.ref 93), (.ref 94), (.ref 95), (.int 319 0), (.int 42 0), (.str "/claim/cut.py" 320)]),
  (97, fnO (stAt 6) "blocks_reached" 96 .none (.str "chancore.code" 237)),
  (103, cdO [(.str "led_elsewhere" 322), (.str "led_elsewhere" 323), (.str "/claim/cut.py" 324), (.int 51 0), (.int 2 0), (.int 0 0), (.int 0 0), (.int 3 0), (.ref 98), (.bool true), (.int 181 0), (.ref 99), .none, (.ref 100), (.ref 101), (.ref 102), (.int 327 0), (.int 51 0), (.str "/claim/cut.py" 328)]),
  (104, fnO (stAt 7) "led_elsewhere" 103 .none (.str "chancore.code" 237)),
  (110, cdO [(.str "with_kept_blocks" 330), (.str "with_kept_blocks" 331), (.str "/claim/cut.py" 332), (.int 57 0), (.int 2 0), (.int 0 0), (.int 0 0), (.int 3 0), (.ref 105), (.bool true), (.int 181 0), (.ref 106), .none, (.ref 107), (.ref 108), (.ref 109), (.int 341 0), (.int 57 0), (.str "/claim/cut.py" 342)]),
  (111, fnO (stAt 8) "with_kept_blocks" 110 .none (.str "chancore.code" 237)),
  (117, cdO [(.str "underlying_of" 346), (.str "underlying_of" 347), (.str "/claim/cut.py" 348), (.int 68 0), (.int 2 0), (.int 0 0), (.int 0 0), (.int 3 0), (.ref 112), (.bool true), (.int 181 0), (.ref 113), .none, (.ref 114), (.ref 115), (.ref 116), (.int 351 0), (.int 68 0), (.str "/claim/cut.py" 352)]),
  (118, fnO (stAt 10) "underlying_of" 117 .none (.str "chancore.types" 344)),
  (122, cdO [(.str "zero_value" 354), (.str "zero_value" 355), (.str "/claim/cut.py" 356), (.int 70 0), (.int 2 0), (.int 0 0), (.int 0 0), (.int 3 0), (.ref 119), (.bool true), (.int 181 0), (.ref 120), .none, .none, .none, (.ref 121), (.int 357 0), (.int 70 0), (.str "/claim/cut.py" 358)]),
  (123, fnO (stAt 11) "zero_value" 122 .none (.str "chancore.types" 344)),
  (136, cdO [(.str "__init__" 374), (.str "LowerState.__init__" 375), (.str "/claim/cut.py" 376), (.int 86 0), (.int 5 0), (.int 0 0), (.int 0 0), (.int 3 0), (.ref 131), (.bool true), (.int 181 0), (.ref 132), .none, (.ref 133), (.ref 134), (.ref 135), (.int 382 0), (.int 86 0), (.str "/claim/cut.py" 383)]),
  (137, fnO (meAt 13 0) "LowerState.__init__" 136 .none (.str "chancore.lower_state" 360)),
  (143, cdO [(.str "new_register" 385), (.str "LowerState.new_register" 386), (.str "/claim/cut.py" 387), (.int 99 0), (.int 2 0), (.int 0 0), (.int 0 0), (.int 3 0), (.ref 138), (.bool true), (.int 181 0), (.ref 139), .none, (.ref 140), (.ref 141), (.ref 142), (.int 390 0), (.int 99 0), (.str "/claim/cut.py" 391)]),
  (144, fnO (meAt 13 1) "LowerState.new_register" 143 .none (.str "chancore.lower_state" 360)),
  (150, cdO [(.str "new_block" 393), (.str "LowerState.new_block" 394), (.str "/claim/cut.py" 395), (.int 103 0), (.int 1 0), (.int 0 0), (.int 0 0), (.int 3 0), (.ref 145), (.bool true), (.int 181 0), (.ref 146), .none, (.ref 147), (.ref 148), (.ref 149), (.int 397 0), (.int 103 0), (.str "/claim/cut.py" 398)]),
  (151, fnO (meAt 13 2) "LowerState.new_block" 150 .none (.str "chancore.lower_state" 360)),
  (157, cdO [(.str "put" 400), (.str "LowerState.put" 401), (.str "/claim/cut.py" 402), (.int 107 0), (.int 2 0), (.int 0 0), (.int 0 0), (.int 3 0), (.ref 152), (.bool true), (.int 181 0), (.ref 153), .none, (.ref 154), (.ref 155), (.ref 156), (.int 405 0), (.int 107 0), (.str "/claim/cut.py" 406)]),
  (158, fnO (meAt 13 3) "LowerState.put" 157 .none (.str "chancore.lower_state" 360)),
  (164, cdO [(.str "fresh" 408), (.str "LowerState.fresh" 409), (.str "/claim/cut.py" 410), (.int 110 0), (.int 3 0), (.int 0 0), (.int 0 0), (.int 3 0), (.ref 159), (.bool true), (.int 181 0), (.ref 160), .none, (.ref 161), (.ref 162), (.ref 163), (.int 415 0), (.int 110 0), (.str "/claim/cut.py" 416)]),
  (165, fnO (meAt 13 4) "LowerState.fresh" 164 .none (.str "chancore.lower_state" 360)),
  (171, cdO [(.str "close" 418), (.str "LowerState.close" 419), (.str "/claim/cut.py" 420), (.int 115 0), (.int 2 0), (.int 0 0), (.int 0 0), (.int 3 0), (.ref 166), (.bool true), (.int 181 0), (.ref 167), .none, (.ref 168), (.ref 169), (.ref 170), (.int 423 0), (.int 115 0), (.str "/claim/cut.py" 424)]),
  (172, fnO (meAt 13 5) "LowerState.close" 171 .none (.str "chancore.lower_state" 360)),
  (178, cdO [(.str "end" 426), (.str "LowerState.end" 427), (.str "/claim/cut.py" 428), (.int 118 0), (.int 2 0), (.int 0 0), (.int 0 0), (.int 3 0), (.ref 173), (.bool true), (.int 181 0), (.ref 174), .none, (.ref 175), (.ref 176), (.ref 177), (.int 431 0), (.int 118 0), (.str "/claim/cut.py" 432)]),
  (179, fnO (meAt 13 6) "LowerState.end" 178 .none (.str "chancore.lower_state" 360)),
  (185, cdO [(.str "go" 434), (.str "LowerState.go" 435), (.str "/claim/cut.py" 436), (.int 122 0), (.int 2 0), (.int 0 0), (.int 0 0), (.int 3 0), (.ref 180), (.bool true), (.int 181 0), (.ref 181), .none, (.ref 182), (.ref 183), (.ref 184), (.int 439 0), (.int 122 0), (.str "/claim/cut.py" 440)]),
  (186, fnO (meAt 13 7) "LowerState.go" 185 .none (.str "chancore.lower_state" 360)),
  (192, cdO [(.str "next_site" 442), (.str "LowerState.next_site" 443), (.str "/claim/cut.py" 444), (.int 126 0), (.int 1 0), (.int 0 0), (.int 0 0), (.int 3 0), (.ref 187), (.bool true), (.int 181 0), (.ref 188), .none, (.ref 189), (.ref 190), (.ref 191), (.int 446 0), (.int 126 0), (.str "/claim/cut.py" 447)]),
  (193, fnO (meAt 13 8) "LowerState.next_site" 192 .none (.str "chancore.lower_state" 360)),
  (199, cdO [(.str "type_of_local" 449), (.str "LowerState.type_of_local" 450), (.str "/claim/cut.py" 451), (.int 130 0), (.int 2 0), (.int 0 0), (.int 0 0), (.int 3 0), (.ref 194), (.bool true), (.int 181 0), (.ref 195), .none, (.ref 196), (.ref 197), (.ref 198), (.int 454 0), (.int 130 0), (.str "/claim/cut.py" 455)]),
  (200, fnO (meAt 13 9) "LowerState.type_of_local" 199 .none (.str "chancore.lower_state" 360)),
  (206, cdO [(.str "is_boxed" 457), (.str "LowerState.is_boxed" 458), (.str "/claim/cut.py" 459), (.int 133 0), (.int 2 0), (.int 0 0), (.int 0 0), (.int 3 0), (.ref 201), (.bool true), (.int 181 0), (.ref 202), .none, (.ref 203), (.ref 204), (.ref 205), (.int 462 0), (.int 133 0), (.str "/claim/cut.py" 463)]),
  (207, fnO (meAt 13 10) "LowerState.is_boxed" 206 .none (.str "chancore.lower_state" 360)),
  (213, cdO [(.str "take_register" 465), (.str "LowerState.take_register" 466), (.str "/claim/cut.py" 467), (.int 136 0), (.int 2 0), (.int 0 0), (.int 0 0), (.int 3 0), (.ref 208), (.bool true), (.int 181 0), (.ref 209), .none, (.ref 210), (.ref 211), (.ref 212), (.int 471 0), (.int 136 0), (.str "/claim/cut.py" 472)]),
  (214, fnO (meAt 13 11) "LowerState.take_register" 213 .none (.str "chancore.lower_state" 360)),
  (220, cdO [(.str "begin_local" 474), (.str "LowerState.begin_local" 475), (.str "/claim/cut.py" 476), (.int 141 0), (.int 2 0), (.int 0 0), (.int 0 0), (.int 3 0), (.ref 215), (.bool true), (.int 181 0), (.ref 216), .none, (.ref 217), (.ref 218), (.ref 219), (.int 479 0), (.int 141 0), (.str "/claim/cut.py" 480)]),
  (221, fnO (meAt 13 12) "LowerState.begin_local" 220 .none (.str "chancore.lower_state" 360)),
  (227, cdO [(.str "pointer_of" 482), (.str "LowerState.pointer_of" 483), (.str "/claim/cut.py" 484), (.int 144 0), (.int 2 0), (.int 0 0), (.int 0 0), (.int 3 0), (.ref 222), (.bool true), (.int 181 0), (.ref 223), .none, (.ref 224), (.ref 225), (.ref 226), (.int 487 0), (.int 144 0), (.str "/claim/cut.py" 488)]),
  (228, fnO (meAt 13 13) "LowerState.pointer_of" 227 .none (.str "chancore.lower_state" 360)),
  (234, cdO [(.str "local_value" 490), (.str "LowerState.local_value" 491), (.str "/claim/cut.py" 492), (.int 147 0), (.int 2 0), (.int 0 0), (.int 0 0), (.int 3 0), (.ref 229), (.bool true), (.int 181 0), (.ref 230), .none, (.ref 231), (.ref 232), (.ref 233), (.int 495 0), (.int 147 0), (.str "/claim/cut.py" 496)]),
  (235, fnO (meAt 13 14) "LowerState.local_value" 234 .none (.str "chancore.lower_state" 360)),
  (241, cdO [(.str "set_local" 498), (.str "LowerState.set_local" 499), (.str "/claim/cut.py" 500), (.int 152 0), (.int 3 0), (.int 0 0), (.int 0 0), (.int 3 0), (.ref 236), (.bool true), (.int 181 0), (.ref 237), .none, (.ref 238), (.ref 239), (.ref 240), (.int 504 0), (.int 152 0), (.str "/claim/cut.py" 505)]),
  (242, fnO (meAt 13 15) "LowerState.set_local" 241 .none (.str "chancore.lower_state" 360)),
  (248, cdO [(.str "kept" 507), (.str "LowerState.kept" 508), (.str "/claim/cut.py" 509), (.int 155 0), (.int 3 0), (.int 0 0), (.int 0 0), (.int 3 0), (.ref 243), (.bool true), (.int 181 0), (.ref 244), .none, (.ref 245), (.ref 246), (.ref 247), (.int 513 0), (.int 155 0), (.str "/claim/cut.py" 514)]),
  (249, fnO (meAt 13 16) "LowerState.kept" 248 .none (.str "chancore.lower_state" 360)),
  (255, cdO [(.str "zero_operand" 516), (.str "LowerState.zero_operand" 517), (.str "/claim/cut.py" 518), (.int 158 0), (.int 2 0), (.int 0 0), (.int 0 0), (.int 3 0), (.ref 250), (.bool true), (.int 181 0), (.ref 251), .none, (.ref 252), (.ref 253), (.ref 254), (.int 521 0), (.int 158 0), (.str "/claim/cut.py" 522)]),
  (256, fnO (meAt 13 17) "LowerState.zero_operand" 255 .none (.str "chancore.lower_state" 360)),
  (262, cdO [(.str "value" 524), (.str "LowerState.value" 525), (.str "/claim/cut.py" 526), (.int 161 0), (.int 2 0), (.int 0 0), (.int 0 0), (.int 3 0), (.ref 257), (.bool true), (.int 181 0), (.ref 258), .none, (.ref 259), (.ref 260), (.ref 261), (.int 529 0), (.int 161 0), (.str "/claim/cut.py" 530)]),
  (263, fnO (meAt 13 18) "LowerState.value" 262 .none (.str "chancore.lower_state" 360)),
  (269, cdO [(.str "values" 532), (.str "LowerState.values" 533), (.str "/claim/cut.py" 534), (.int 164 0), (.int 2 0), (.int 0 0), (.int 0 0), (.int 3 0), (.ref 264), (.bool true), (.int 181 0), (.ref 265), .none, (.ref 266), (.ref 267), (.ref 268), (.int 537 0), (.int 164 0), (.str "/claim/cut.py" 538)]),
  (270, fnO (meAt 13 19) "LowerState.values" 269 .none (.str "chancore.lower_state" 360)),
  (276, cdO [(.str "address" 540), (.str "LowerState.address" 541), (.str "/claim/cut.py" 542), (.int 167 0), (.int 2 0), (.int 0 0), (.int 0 0), (.int 3 0), (.ref 271), (.bool true), (.int 181 0), (.ref 272), .none, (.ref 273), (.ref 274), (.ref 275), (.int 545 0), (.int 167 0), (.str "/claim/cut.py" 546)]),
  (277, fnO (meAt 13 20) "LowerState.address" 276 .none (.str "chancore.lower_state" 360)),
  (283, cdO [(.str "block" 548), (.str "LowerState.block" 549), (.str "/claim/cut.py" 550), (.int 170 0), (.int 2 0), (.int 0 0), (.int 0 0), (.int 3 0), (.ref 278), (.bool true), (.int 181 0), (.ref 279), .none, (.ref 280), (.ref 281), (.ref 282), (.int 553 0), (.int 170 0), (.str "/claim/cut.py" 554)]),
  (284, fnO (meAt 13 21) "LowerState.block" 283 .none (.str "chancore.lower_state" 360)),
  (290, cdO [(.str "finished" 556), (.str "LowerState.finished" 557), (.str "/claim/cut.py" 558), (.int 173 0), (.int 1 0), (.int 0 0), (.int 0 0), (.int 3 0), (.ref 285), (.bool true), (.int 181 0), (.ref 286), .none, (.ref 287), (.ref 288), (.ref 289), (.int 561 0), (.int 173 0), (.str "/claim/cut.py" 562)]),
  (291, fnO (meAt 13 22) "LowerState.finished" 290 .none (.str "chancore.lower_state" 360)),
  (293, dcO [ent P "__module__" 369 (.str "chancore.lower_state" 360), ent P "__firstlineno__" 373 (.int 84 372), ent P "__init__" 384 (.ref 137), ent P "new_register" 392 (.ref 144), ent P "new_block" 399 (.ref 151), ent P "put" 407 (.ref 158), ent P "fresh" 417 (.ref 165), ent P "close" 425 (.ref 172), ent P "end" 433 (.ref 179), ent P "go" 441 (.ref 186), ent P "next_site" 448 (.ref 193), ent P "type_of_local" 456 (.ref 200), ent P "is_boxed" 464 (.ref 207), ent P "take_register" 473 (.ref 214), ent P "begin_local" 481 (.ref 221), ent P "pointer_of" 489 (.ref 228), ent P "local_value" 497 (.ref 235), ent P "set_local" 506 (.ref 242), ent P "kept" 515 (.ref 249), ent P "zero_operand" 523 (.ref 256), ent P "value" 531 (.ref 263), ent P "values" 539 (.ref 270), ent P "address" 547 (.ref 277), ent P "block" 555 (.ref 284), ent P "finished" 563 (.ref 291), ent P "__static_attributes__" 575 (.ref 292), ent P "__dict__" 577 (.ref 295), ent P "__weakref__" 579 (.ref 296), ent P "__doc__" 580 .none] 4),
  (294, csO "LowerState" "LowerState" [(.type "object")] [(.ref 294), (.type "object")] 293 [none, none, some (.str "LowerState" 362), some (.str "LowerState" 370), some (.builtin "object.__new__"), some (.bool true)]),
  (299, tpO [(.str "int" 585), (.str "int" 586)]),
  (300, tpO [(.str "bool" 588)]),
  (301, tpO [(.str "lock" 590), (.str "unlock" 591), (.str "add" 592), (.str "wait" 593), (.str "gosched" 594)]),
  (307, cdO [(.str "result_types" 596), (.str "result_types" 597), (.str "/claim/cut.py" 598), (.int 182 0), (.int 1 0), (.int 0 0), (.int 0 0), (.int 3 0), (.ref 302), (.bool true), (.int 181 0), (.ref 303), .none, (.ref 304), (.ref 305), (.ref 306), (.int 600 0), (.int 182 0), (.str "/claim/cut.py" 601)]),
  (308, fnO (stAt 18) "result_types" 307 .none (.str "chancore.lower_calls" 583)),
  (314, cdO [(.str "called_of" 603), (.str "called_of" 604), (.str "/claim/cut.py" 605), (.int 184 0), (.int 2 0), (.int 0 0), (.int 0 0), (.int 3 0), (.ref 309), (.bool true), (.int 181 0), (.ref 310), .none, (.ref 311), (.ref 312), (.ref 313), (.int 609 0), (.int 184 0), (.str "/claim/cut.py" 610)]),
  (315, fnO (stAt 19) "called_of" 314 .none (.str "chancore.lower_calls" 583)),
  (319, cdO [(.str "call_values" 612), (.str "call_values" 613), (.str "/claim/cut.py" 614), (.int 189 0), (.int 2 0), (.int 0 0), (.int 0 0), (.int 3 0), (.ref 316), (.bool true), (.int 181 0), (.ref 317), .none, .none, .none, (.ref 318), (.int 615 0), (.int 189 0), (.str "/claim/cut.py" 616)]),
  (320, fnO (stAt 20) "call_values" 319 .none (.str "chancore.lower_calls" 583)),
  (324, cdO [(.str "builtin_values" 618), (.str "builtin_values" 619), (.str "/claim/cut.py" 620), (.int 195 0), (.int 2 0), (.int 0 0), (.int 0 0), (.int 3 0), (.ref 321), (.bool true), (.int 181 0), (.ref 322), .none, .none, .none, (.ref 323), (.int 621 0), (.int 195 0), (.str "/claim/cut.py" 622)]),
  (325, fnO (stAt 21) "builtin_values" 324 .none (.str "chancore.lower_calls" 583)),
  (331, cdO [(.str "builtin_with" 624), (.str "builtin_with" 625), (.str "/claim/cut.py" 626), (.int 197 0), (.int 3 0), (.int 0 0), (.int 0 0), (.int 3 0), (.ref 326), (.bool true), (.int 181 0), (.ref 327), .none, (.ref 328), (.ref 329), (.ref 330), (.int 631 0), (.int 197 0), (.str "/claim/cut.py" 632)]),
  (332, fnO (stAt 22) "builtin_with" 331 .none (.str "chancore.lower_calls" 583)),
  (336, cdO [(.str "builtin_deed" 634), (.str "builtin_deed" 635), (.str "/claim/cut.py" 636), (.int 213 0), (.int 3 0), (.int 0 0), (.int 0 0), (.int 3 0), (.ref 333), (.bool true), (.int 181 0), (.ref 334), .none, .none, .none, (.ref 335), (.int 637 0), (.int 213 0), (.str "/claim/cut.py" 638)]),
  (337, fnO (stAt 23) "builtin_deed" 336 .none (.str "chancore.lower_calls" 583)),
  (343, cdO [(.str "made_value" 640), (.str "made_value" 641), (.str "/claim/cut.py" 642), (.int 227 0), (.int 3 0), (.int 0 0), (.int 0 0), (.int 3 0), (.ref 338), (.bool true), (.int 181 0), (.ref 339), .none, (.ref 340), (.ref 341), (.ref 342), (.int 648 0), (.int 227 0), (.str "/claim/cut.py" 649)]),
  (344, fnO (stAt 24) "made_value" 343 .none (.str "chancore.lower_calls" 583)),
  (350, cdO [(.str "chosen_value" 652), (.str "chosen_value" 653), (.str "/claim/cut.py" 654), (.int 238 0), (.int 4 0), (.int 0 0), (.int 0 0), (.int 3 0), (.ref 345), (.bool true), (.int 181 0), (.ref 346), .none, (.ref 347), (.ref 348), (.ref 349), (.int 664 0), (.int 238 0), (.str "/claim/cut.py" 665)]),
  (351, fnO (stAt 26) "chosen_value" 350 .none (.str "chancore.lower_calls" 583)),
  (355, cdO [(.str "later_call" 667), (.str "later_call" 668), (.str "/claim/cut.py" 669), (.int 248 0), (.int 3 0), (.int 0 0), (.int 0 0), (.int 3 0), (.ref 352), (.bool true), (.int 181 0), (.ref 353), .none, .none, .none, (.ref 354), (.int 670 0), (.int 248 0), (.str "/claim/cut.py" 671)]),
  (356, fnO (stAt 27) "later_call" 355 .none (.str "chancore.lower_calls" 583)),
  (360, cdO [(.str "builtin_code" 673), (.str "builtin_code" 674), (.str "/claim/cut.py" 675), (.int 257 0), (.int 3 0), (.int 0 0), (.int 0 0), (.int 3 0), (.ref 357), (.bool true), (.int 181 0), (.ref 358), .none, .none, .none, (.ref 359), (.int 676 0), (.int 257 0), (.str "/claim/cut.py" 677)]),
  (361, fnO (stAt 28) "builtin_code" 360 .none (.str "chancore.lower_calls" 583)),
  (375, cdO [(.str "__init__" 694), (.str "ChanError.__init__" 695), (.str "/claim/cut.py" 696), (.int 269 0), (.int 3 0), (.int 0 0), (.int 0 0), (.int 3 0), (.ref 370), (.bool true), (.int 181 0), (.ref 371), .none, (.ref 372), (.ref 373), (.ref 374), (.int 700 0), (.int 269 0), (.str "/claim/cut.py" 701)]),
  (376, fnO (meAt 30 0) "ChanError.__init__" 375 (.ref 369) (.str "chancore.errors" 679)),
  (412, cdO [(.str "base_kind" 747), (.str "base_kind" 748), (.str "/claim/cut.py" 749), (.int 278 0), (.int 2 0), (.int 0 0), (.int 0 0), (.int 3 0), (.ref 407), (.bool true), (.int 181 0), (.ref 408), .none, (.ref 409), (.ref 410), (.ref 411), (.int 752 0), (.int 278 0), (.str "/claim/cut.py" 753)]),
  (413, fnO (stAt 34) "base_kind" 412 .none (.str "chancore.lower_places" 745)),
  (419, cdO [(.str "is_in_memory" 755), (.str "is_in_memory" 756), (.str "/claim/cut.py" 757), (.int 280 0), (.int 2 0), (.int 0 0), (.int 0 0), (.int 3 0), (.ref 414), (.bool true), (.int 181 0), (.ref 415), .none, (.ref 416), (.ref 417), (.ref 418), (.int 761 0), (.int 280 0), (.str "/claim/cut.py" 762)]),
  (420, fnO (stAt 35) "is_in_memory" 419 .none (.str "chancore.lower_places" 745)),
  (426, cdO [(.str "global_pointer" 764), (.str "global_pointer" 765), (.str "/claim/cut.py" 766), (.int 289 0), (.int 1 0), (.int 0 0), (.int 0 0), (.int 3 0), (.ref 421), (.bool true), (.int 181 0), (.ref 422), .none, (.ref 423), (.ref 424), (.ref 425), (.int 768 0), (.int 289 0), (.str "/claim/cut.py" 769)]),
  (427, fnO (stAt 36) "global_pointer" 426 .none (.str "chancore.lower_places" 745)),
  (433, cdO [(.str "way_to" 771), (.str "way_to" 772), (.str "/claim/cut.py" 773), (.int 291 0), (.int 2 0), (.int 0 0), (.int 0 0), (.int 3 0), (.ref 428), (.bool true), (.int 181 0), (.ref 429), .none, (.ref 430), (.ref 431), (.ref 432), (.int 778 0), (.int 291 0), (.str "/claim/cut.py" 779)]),
  (434, fnO (stAt 37) "way_to" 433 .none (.str "chancore.lower_places" 745)),
  (440, cdO [(.str "pointer_along" 781), (.str "pointer_along" 782), (.str "/claim/cut.py" 783), (.int 306 0), (.int 2 0), (.int 0 0), (.int 0 0), (.int 3 0), (.ref 435), (.bool true), (.int 181 0), (.ref 436), .none, (.ref 437), (.ref 438), (.ref 439), (.int 791 0), (.int 306 0), (.str "/claim/cut.py" 792)]),
  (441, fnO (stAt 38) "pointer_along" 440 .none (.str "chancore.lower_places" 745)),
  (447, cdO [(.str "new_variable" 794), (.str "new_variable" 795), (.str "/claim/cut.py" 796), (.int 311 0), (.int 2 0), (.int 0 0), (.int 0 0), (.int 3 0), (.ref 442), (.bool true), (.int 181 0), (.ref 443), .none, (.ref 444), (.ref 445), (.ref 446), (.int 801 0), (.int 311 0), (.str "/claim/cut.py" 802)]),
  (448, fnO (stAt 39) "new_variable" 447 .none (.str "chancore.lower_places" 745)),
  (454, cdO [(.str "load_place" 804), (.str "load_place" 805), (.str "/claim/cut.py" 806), (.int 316 0), (.int 2 0), (.int 0 0), (.int 0 0), (.int 3 0), (.ref 449), (.bool true), (.int 181 0), (.ref 450), .none, (.ref 451), (.ref 452), (.ref 453), (.int 810 0), (.int 316 0), (.str "/claim/cut.py" 811)]),
  (455, fnO (stAt 40) "load_place" 454 .none (.str "chancore.lower_places" 745)),
  (456, tpO [(.str "bool" 815)]),
  (457, tpO [(.str "int" 817), (.str "int" 818)]),
  (458, tpO [(.str "global" 820), (.str "field" 821), (.str "deref" 822), (.str "index" 823)]),
  (459, tpO [(.str "assert" 825), (.str "key" 826), (.str "receive" 827)]),
  (465, cdO [(.str "value_of" 829), (.str "value_of" 830), (.str "/claim/cut.py" 831), (.int 330 0), (.int 2 0), (.int 0 0), (.int 0 0), (.int 3 0), (.ref 460), (.bool true), (.int 181 0), (.ref 461), .none, (.ref 462), (.ref 463), (.ref 464), (.int 835 0), (.int 330 0), (.str "/claim/cut.py" 836)]),
  (466, fnO (stAt 46) "value_of" 465 .none (.str "chancore.lower_exprs" 813)),
  (472, cdO [(.str "values_of" 838), (.str "values_of" 839), (.str "/claim/cut.py" 840), (.int 351 0), (.int 2 0), (.int 0 0), (.int 0 0), (.int 3 0), (.ref 467), (.bool true), (.int 181 0), (.ref 468), .none, (.ref 469), (.ref 470), (.ref 471), (.int 843 0), (.int 351 0), (.str "/claim/cut.py" 844)]),
  (473, fnO (stAt 47) "values_of" 472 .none (.str "chancore.lower_exprs" 813)),
  (477, cdO [(.str "operands_of" 846), (.str "operands_of" 847), (.str "/claim/cut.py" 848), (.int 361 0), (.int 2 0), (.int 0 0), (.int 0 0), (.int 3 0), (.ref 474), (.bool true), (.int 181 0), (.ref 475), .none, .none, .none, (.ref 476), (.int 849 0), (.int 361 0), (.str "/claim/cut.py" 850)]),
  (478, fnO (stAt 48) "operands_of" 477 .none (.str "chancore.lower_exprs" 813)),
  (484, cdO [(.str "constant_of" 852), (.str "constant_of" 853), (.str "/claim/cut.py" 854), (.int 363 0), (.int 2 0), (.int 0 0), (.int 0 0), (.int 3 0), (.ref 479), (.bool true), (.int 181 0), (.ref 480), .none, (.ref 481), (.ref 482), (.ref 483), (.int 857 0), (.int 363 0), (.str "/claim/cut.py" 858)]),
  (485, fnO (stAt 49) "constant_of" 484 .none (.str "chancore.lower_exprs" 813)),
  (489, cdO [(.str "function_value" 860), (.str "function_value" 861), (.str "/claim/cut.py" 862), (.int 369 0), (.int 2 0), (.int 0 0), (.int 0 0), (.int 3 0), (.ref 486), (.bool true), (.int 181 0), (.ref 487), .none, .none, .none, (.ref 488), (.int 863 0), (.int 369 0), (.str "/claim/cut.py" 864)]),
  (490, fnO (stAt 50) "function_value" 489 .none (.str "chancore.lower_exprs" 813)),
  (496, cdO [(.str "worked_value" 866), (.str "worked_value" 867), (.str "/claim/cut.py" 868), (.int 378 0), (.int 2 0), (.int 0 0), (.int 0 0), (.int 3 0), (.ref 491), (.bool true), (.int 181 0), (.ref 492), .none, (.ref 493), (.ref 494), (.ref 495), (.int 875 0), (.int 378 0), (.str "/claim/cut.py" 876)]),
  (497, fnO (stAt 51) "worked_value" 496 .none (.str "chancore.lower_exprs" 813)),
  (503, cdO [(.str "lazy_value" 878), (.str "lazy_value" 879), (.str "/claim/cut.py" 880), (.int 393 0), (.int 2 0), (.int 0 0), (.int 0 0), (.int 3 0), (.ref 498), (.bool true), (.int 181 0), (.ref 499), .none, (.ref 500), (.ref 501), (.ref 502), (.int 886 0), (.int 393 0), (.str "/claim/cut.py" 887)]),
  (504, fnO (stAt 52) "lazy_value" 503 .none (.str "chancore.lower_exprs" 813)),
  (510, cdO [(.str "asked_values" 889), (.str "asked_values" 890), (.str "/claim/cut.py" 891), (.int 405 0), (.int 2 0), (.int 0 0), (.int 0 0), (.int 3 0), (.ref 505), (.bool true), (.int 181 0), (.ref 506), .none, (.ref 507), (.ref 508), (.ref 509), (.int 899 0), (.int 405 0), (.str "/claim/cut.py" 900)]),
  (511, fnO (stAt 53) "asked_values" 510 .none (.str "chancore.lower_exprs" 813)),
  (515, cdO [(.str "cut_value" 902), (.str "cut_value" 903), (.str "/claim/cut.py" 904), (.int 420 0), (.int 2 0), (.int 0 0), (.int 0 0), (.int 3 0), (.ref 512), (.bool true), (.int 181 0), (.ref 513), .none, .none, .none, (.ref 514), (.int 905 0), (.int 420 0), (.str "/claim/cut.py" 906)]),
  (516, fnO (stAt 54) "cut_value" 515 .none (.str "chancore.lower_exprs" 813)),
  (520, cdO [(.str "struct_operands" 908), (.str "struct_operands" 909), (.str "/claim/cut.py" 910), (.int 425 0), (.int 2 0), (.int 0 0), (.int 0 0), (.int 3 0), (.ref 517), (.bool true), (.int 181 0), (.ref 518), .none, .none, .none, (.ref 519), (.int 911 0), (.int 425 0), (.str "/claim/cut.py" 912)]),
  (521, fnO (stAt 55) "struct_operands" 520 .none (.str "chancore.lower_exprs" 813)),
  (527, cdO [(.str "made_value" 914), (.str "made_value" 915), (.str "/claim/cut.py" 916), (.int 432 0), (.int 2 0), (.int 0 0), (.int 0 0), (.int 3 0), (.ref 522), (.bool true), (.int 181 0), (.ref 523), .none, (.ref 524), (.ref 525), (.ref 526), (.int 923 0), (.int 432 0), (.str "/claim/cut.py" 924)]),
  (528, fnO (stAt 56) "made_value" 527 .none (.str "chancore.lower_exprs" 813)),
  (532, cdO [(.str "slice_value" 927), (.str "slice_value" 928), (.str "/claim/cut.py" 929), (.int 445 0), (.int 3 0), (.int 0 0), (.int 0 0), (.int 3 0), (.ref 529), (.bool true), (.int 181 0), (.ref 530), .none, .none, .none, (.ref 531), (.int 930 0), (.int 445 0), (.str "/claim/cut.py" 931)]),
  (533, fnO (stAt 58) "slice_value" 532 .none (.str "chancore.lower_exprs" 813)),
  (537, cdO [(.str "table_value" 933), (.str "table_value" 934), (.str "/claim/cut.py" 935), (.int 453 0), (.int 2 0), (.int 0 0), (.int 0 0), (.int 3 0), (.ref 534), (.bool true), (.int 181 0), (.ref 535), .none, .none, .none, (.ref 536), (.int 936 0), (.int 453 0), (.str "/claim/cut.py" 937)]),
  (538, fnO (stAt 59) "table_value" 537 .none (.str "chancore.lower_exprs" 813)),
  (539, tpO []),
  (540, tpO []),
  (541, tpO [(.str "func" 941), (.ref 539), (.ref 540), (.bool false)]),
  (554, cdO [(.str "__init__" 955), (.str "NamedRow.__init__" 956), (.str "/claim/cut.py" 957), (.int 463 0), (.int 5 0), (.int 0 0), (.int 0 0), (.int 3 0), (.ref 549), (.bool true), (.int 181 0), (.ref 550), .none, (.ref 551), (.ref 552), (.ref 553), (.int 963 0), (.int 463 0), (.str "/claim/cut.py" 964)]),
  (555, fnO (meAt 62 0) "NamedRow.__init__" 554 .none (.str "chancore.world" 939)),
  (557, dcO [ent P "__module__" 950 (.str "chancore.world" 939), ent P "__firstlineno__" 954 (.int 461 953), ent P "__init__" 965 (.ref 555), ent P "__static_attributes__" 970 (.ref 556), ent P "__dict__" 972 (.ref 559), ent P "__weakref__" 974 (.ref 560), ent P "__doc__" 975 .none] 4),
  (558, csO "NamedRow" "NamedRow" [(.type "object")] [(.ref 558), (.type "object")] 557 [none, none, some (.str "NamedRow" 943), some (.str "NamedRow" 951), some (.builtin "object.__new__"), some (.bool true)]),
  (568, cdO [(.str "known_rows" 978), (.str "known_rows" 979), (.str "/claim/cut.py" 980), (.int 468 0), (.int 0 0), (.int 0 0), (.int 0 0), (.int 3 0), (.ref 563), (.bool true), (.int 181 0), (.ref 564), .none, (.ref 565), (.ref 566), (.ref 567), (.int 988 0), (.int 468 0), (.str "/claim/cut.py" 989)]),
  (569, fnO (stAt 63) "known_rows" 568 .none (.str "chancore.world" 939)),
  (577, tpO [.none]),
  (583, cdO [(.str "__init__" 1003), (.str "World.__init__" 1004), (.str "/claim/cut.py" 1005), (.int 479 0), (.int 2 0), (.int 0 0), (.int 0 0), (.int 3 0), (.ref 578), (.bool true), (.int 181 0), (.ref 579), .none, (.ref 580), (.ref 581), (.ref 582), (.int 1008 0), (.int 479 0), (.str "/claim/cut.py" 1009)]),
  (584, fnO (meAt 64 0) "World.__init__" 583 (.ref 577) (.str "chancore.world" 939)),
  (590, cdO [(.str "base_of" 1011), (.str "World.base_of" 1012), (.str "/claim/cut.py" 1013), (.int 501 0), (.int 2 0), (.int 0 0), (.int 0 0), (.int 3 0), (.ref 585), (.bool true), (.int 181 0), (.ref 586), .none, (.ref 587), (.ref 588), (.ref 589), (.int 1017 0), (.int 501 0), (.str "/claim/cut.py" 1018)]),
  (591, fnO (meAt 64 1) "World.base_of" 590 .none (.str "chancore.world" 939)),
  (597, cdO [(.str "settled" 1020), (.str "World.settled" 1021), (.str "/claim/cut.py" 1022), (.int 513 0), (.int 2 0), (.int 0 0), (.int 0 0), (.int 3 0), (.ref 592), (.bool true), (.int 181 0), (.ref 593), .none, (.ref 594), (.ref 595), (.ref 596), (.int 1025 0), (.int 513 0), (.str "/claim/cut.py" 1026)]),
  (598, fnO (meAt 64 2) "World.settled" 597 .none (.str "chancore.world" 939)),
  (600, dcO [ent P "__module__" 998 (.str "chancore.world" 939), ent P "__firstlineno__" 1002 (.int 477 1001), ent P "__init__" 1010 (.ref 584), ent P "base_of" 1019 (.ref 591), ent P "settled" 1027 (.ref 598), ent P "__static_attributes__" 1048 (.ref 599), ent P "__dict__" 1050 (.ref 602), ent P "__weakref__" 1052 (.ref 603), ent P "__doc__" 1053 .none] 4),
  (601, csO "World" "World" [(.type "object")] [(.ref 601), (.type "object")] 600 [none, none, some (.str "World" 991), some (.str "World" 999), some (.builtin "object.__new__"), some (.bool true)]),
  (611, cdO [(.str "_law_pool" 1058), (.str "_law_pool" 1059), (.str "/claim/cut.py" 1060), (.int 516 0), (.int 1 0), (.int 0 0), (.int 0 0), (.int 3 0), (.ref 606), (.bool true), (.int 181 0), (.ref 607), .none, (.ref 608), (.ref 609), (.ref 610), (.int 1064 0), (.int 516 0), (.str "/claim/cut.py" 1065)]),
  (612, fnO (stAt 66) "_law_pool" 611 .none (.str "law_xm0181_01" 1056)),
  (618, cdO [(.str "_law_take" 1067), (.str "_law_take" 1068), (.str "/claim/cut.py" 1069), (.int 520 0), (.int 2 0), (.int 0 0), (.int 0 0), (.int 3 0), (.ref 613), (.bool true), (.int 181 0), (.ref 614), .none, (.ref 615), (.ref 616), (.ref 617), (.int 1073 0), (.int 520 0), (.str "/claim/cut.py" 1074)]),
  (619, fnO (stAt 67) "_law_take" 618 .none (.str "law_xm0181_01" 1056)),
  (625, cdO [(.str "_law_one" 1076), (.str "_law_one" 1077), (.str "/claim/cut.py" 1078), (.int 527 0), (.int 2 0), (.int 0 0), (.int 0 0), (.int 3 0), (.ref 620), (.bool true), (.int 181 0), (.ref 621), .none, (.ref 622), (.ref 623), (.ref 624), (.int 1081 0), (.int 527 0), (.str "/claim/cut.py" 1082)]),
  (626, fnO (stAt 68) "_law_one" 625 .none (.str "law_xm0181_01" 1056)),
  (632, cdO [(.str "_law_whole" 1084), (.str "_law_whole" 1085), (.str "/claim/cut.py" 1086), (.int 529 0), (.int 0 0), (.int 0 0), (.int 0 0), (.int 3 0), (.ref 627), (.bool true), (.int 181 0), (.ref 628), .none, (.ref 629), (.ref 630), (.ref 631), (.int 1087 0), (.int 529 0), (.str "/claim/cut.py" 1088)]),
  (633, fnO (stAt 69) "_law_whole" 632 .none (.str "law_xm0181_01" 1056)),
  (639, cdO [(.str "_law_local" 1090), (.str "_law_local" 1091), (.str "/claim/cut.py" 1092), (.int 531 0), (.int 2 0), (.int 0 0), (.int 0 0), (.int 3 0), (.ref 634), (.bool true), (.int 181 0), (.ref 635), .none, (.ref 636), (.ref 637), (.ref 638), (.int 1095 0), (.int 531 0), (.str "/claim/cut.py" 1096)]),
  (640, fnO (stAt 70) "_law_local" 639 .none (.str "law_xm0181_01" 1056)),
  (644, cdO [(.str "_law_state" 1098), (.str "_law_state" 1099), (.str "/claim/cut.py" 1100), (.int 533 0), (.int 0 0), (.int 0 0), (.int 0 0), (.int 3 0), (.ref 641), (.bool true), (.int 181 0), (.ref 642), .none, .none, .none, (.ref 643), (.int 1101 0), (.int 533 0), (.str "/claim/cut.py" 1102)]),
  (645, fnO (stAt 71) "_law_state" 644 .none (.str "law_xm0181_01" 1056)),
  (651, cdO [(.str "_law_operands" 1104), (.str "_law_operands" 1105), (.str "/claim/cut.py" 1106), (.int 541 0), (.int 2 0), (.int 0 0), (.int 0 0), (.int 3 0), (.ref 646), (.bool true), (.int 181 0), (.ref 647), .none, (.ref 648), (.ref 649), (.ref 650), (.int 1117 0), (.int 541 0), (.str "/claim/cut.py" 1118)]),
  (652, fnO (stAt 72) "_law_operands" 651 .none (.str "law_xm0181_01" 1056)),
  (658, cdO [(.str "_law_callee" 1120), (.str "_law_callee" 1121), (.str "/claim/cut.py" 1122), (.int 559 0), (.int 1 0), (.int 0 0), (.int 0 0), (.int 3 0), (.ref 653), (.bool true), (.int 181 0), (.ref 654), .none, (.ref 655), (.ref 656), (.ref 657), (.int 1124 0), (.int 559 0), (.str "/claim/cut.py" 1125)]),
  (659, fnO (stAt 73) "_law_callee" 658 .none (.str "law_xm0181_01" 1056)),
  (663, cdO [(.str "_law_call_right" 1127), (.str "_law_call_right" 1128), (.str "/claim/cut.py" 1129), (.int 561 0), (.int 1 0), (.int 0 0), (.int 0 0), (.int 3 0), (.ref 660), (.bool true), (.int 181 0), (.ref 661), .none, .none, .none, (.ref 662), (.int 1130 0), (.int 561 0), (.str "/claim/cut.py" 1131)]),
  (664, fnO (stAt 74) "_law_call_right" 663 .none (.str "law_xm0181_01" 1056)),
  (670, cdO [(.str "_law_builtins" 1133), (.str "_law_builtins" 1134), (.str "/claim/cut.py" 1135), (.int 576 0), (.int 1 0), (.int 0 0), (.int 0 0), (.int 3 0), (.ref 665), (.bool true), (.int 181 0), (.ref 666), .none, (.ref 667), (.ref 668), (.ref 669), (.int 1148 0), (.int 576 0), (.str "/claim/cut.py" 1149)]),
  (671, fnO (stAt 75) "_law_builtins" 670 .none (.str "law_xm0181_01" 1056)),
  (675, cdO [(.str "_law_builtin_right" 1151), (.str "_law_builtin_right" 1152), (.str "/claim/cut.py" 1153), (.int 582 0), (.int 1 0), (.int 0 0), (.int 0 0), (.int 3 0), (.ref 672), (.bool true), (.int 181 0), (.ref 673), .none, .none, .none, (.ref 674), (.int 1154 0), (.int 582 0), (.str "/claim/cut.py" 1155)]),
  (676, fnO (stAt 76) "_law_builtin_right" 675 .none (.str "law_xm0181_01" 1056)),
  (680, cdO [(.str "_law_chosen_right" 1157), (.str "_law_chosen_right" 1158), (.str "/claim/cut.py" 1159), (.int 589 0), (.int 1 0), (.int 0 0), (.int 0 0), (.int 3 0), (.ref 677), (.bool true), (.int 181 0), (.ref 678), .none, .none, .none, (.ref 679), (.int 1160 0), (.int 589 0), (.str "/claim/cut.py" 1161)]),
  (681, fnO (stAt 77) "_law_chosen_right" 680 .none (.str "law_xm0181_01" 1056)),
  (685, cdO [(.str "_law_later_right" 1163), (.str "_law_later_right" 1164), (.str "/claim/cut.py" 1165), (.int 610 0), (.int 1 0), (.int 0 0), (.int 0 0), (.int 3 0), (.ref 682), (.bool true), (.int 181 0), (.ref 683), .none, .none, .none, (.ref 684), (.int 1166 0), (.int 610 0), (.str "/claim/cut.py" 1167)]),
  (686, fnO (stAt 78) "_law_later_right" 685 .none (.str "law_xm0181_01" 1056)),
  (692, cdO [(.str "law" 1169), (.str "law" 1170), (.str "/claim/cut.py" 1171), (.int 631 0), (.int 1 0), (.int 0 0), (.int 0 0), (.int 3 0), (.ref 687), (.bool true), (.int 181 0), (.ref 688), .none, (.ref 689), (.ref 690), (.ref 691), (.int 1176 0), (.int 631 0), (.str "/claim/cut.py" 1177)]),
  (693, fnO (stAt 79) "law" 692 .none (.str "law_xm0181_01" 1056))]
noncomputable def asK : List Addr := [3, 20, 21, 34, 35, 37, 38, 50, 56, 57, 63, 64, 70, 71, 75, 76, 78, 79, 89, 90, 96, 97, 103, 104, 110, 111, 117, 118, 122, 123, 136, 137, 143, 144, 150, 151, 157, 158, 164, 165, 171, 172, 178, 179, 185, 186, 192, 193, 199, 200, 206, 207, 213, 214, 220, 221, 227, 228, 234, 235, 241, 242, 248, 249, 255, 256, 262, 263, 269, 270, 276, 277, 283, 284, 290, 291, 293, 294, 299, 300, 301, 307, 308, 314, 315, 319, 320, 324, 325, 331, 332, 336, 337, 343, 344, 350, 351, 355, 356, 360, 361, 375, 376, 412, 413, 419, 420, 426, 427, 433, 434, 440, 441, 447, 448, 454, 455, 456, 457, 458, 459, 465, 466, 472, 473, 477, 478, 484, 485, 489, 490, 496, 497, 503, 504, 510, 511, 515, 516, 520, 521, 527, 528, 532, 533, 537, 538, 539, 540, 541, 554, 555, 557, 558, 568, 569, 577, 583, 584, 590, 591, 597, 598, 600, 601, 611, 612, 618, 619, 625, 626, 632, 633, 639, 640, 644, 645, 651, 652, 658, 659, 663, 664, 670, 671, 675, 676, 680, 681, 685, 686, 692, 693]
theorem asK_eq (P : Params) : asK = (KT P).map (·.1) := by kernel_rfl
noncomputable def q1 : Program := { pg with main := { pg.main with body := match pg.main.body.getLast? with | some s => [s] | none => [] } }
noncomputable def loose1 : List Str := pg.boundNames.filter fun x => x != ("law" : Str)
/-- and three more: the table of codes, a dict that is nobody's, the modules -/
noncomputable def KX (P : Params) : Frag := [(106, { cls := .none, data := .fields #[] }), (391, dcO [ent P "__module__" 720 (.str "chancore.errors" 679), ent P "__firstlineno__" 724 (.int 273 723), ent P "__static_attributes__" 725 (.ref 390), ent P "__doc__" 726 .none] 2)]
noncomputable def yf (s : Shared) : List (Option Obj) × List (Option Obj) × Bool := (asK.map s.heap.get?, [106, 391].map s.heap.get?, (s.heap.get? sysModules).isSome)
noncomputable def ya (w : World) : List (Option Obj) × List (Option Obj) × Bool := ((KT w.params).map fun p => some p.2, (KX w.params).map fun p => some p.2, true)
theorem chk1 (w : World) (os : OsState) : (topEnd pg w os).map (fun s => (endOk pg q1 loose1 (boot_heap w.params) s.abs, yf s.abs)) = some ((true, openGood q1 loose1), ya w) := by kernel_rfl
theorem left1 : LeftO PySem.Challenge.rw_xm0181_01.row.prog q1 loose1 (fun _ => true) yf ya 4600 :=
  have h : LeftO pg q1 loose1 (fun _ => true) yf ya 4600 := left_of (by kernel_rfl) (fun s => by kernel_rfl) chk1
  h
structure Seen1 (w : World) (h : Heap) : Prop where
  kt : (KT w.params).In h
  kx : (KX w.params).In h
  sm : ∃ o, h.get? sysModules = some o
theorem ya_in (w : World) (s : Shared) (e : yf s = ya w) : Seen1 w s.heap := by
  obtain ⟨e1, e2⟩ := Prod.mk.inj e
  obtain ⟨e2, e3⟩ := Prod.mk.inj e2
  exact ⟨Frag.in_of (asK_eq _) e1, Frag.in_of (as := [106, 391]) rfl e2, Option.isSome_iff_exists.mp e3⟩
theorem Seen1.keeps {w : World} {h h' : Heap} (x : Seen1 w h) (k : ∀ b o, h.get? b = some o → h'.get? b = some o) : Seen1 w h' := ⟨x.kt.keeps k, x.kx.keeps k, let ⟨o, e⟩ := x.sm; ⟨o, k _ _ e⟩⟩
end Sx
end
section
open PySem PySem.W PyProof.Rows
namespace Sx
set_option genSizeOf false
set_option genInjectivity false
noncomputable section

/-! quick choices: recursors of their own make, one step of the kernel's each -/
abbrev ifB {α : Type} (b : Bool) (t f : α) : α := @Bool.rec (fun _ => α) f t b
abbrev ifO {α β : Type} (o : Option α) (n : β) (f : α → β) : β := @Option.rec α (fun _ => β) n f o

/-- a text's number; texts of the plain kind are told apart by it -/
noncomputable def sidL : List Nat → Nat := @List.rec Nat (fun _ => Nat) 0 (fun c _ n => Nat.add (Nat.add c 1) (Nat.mul 2097152 n))
noncomputable def sid (s : Str) : Nat := sidL s.cps.toList
noncomputable def okL : List Nat → Bool := @List.rec Nat (fun _ => Bool) true (fun c _ ih => ifB (Nat.blt c 1114112) ih false)
noncomputable def okS (s : Str) : Bool := okL s.cps.toList
noncomputable def joinId (f a b : Nat) : Option Nat := @Nat.rec (fun _ => Nat → Option Nat) (fun _ => none) (fun _ ih a => ifB (Nat.beq a 0) (some b) (ifO (ih (Nat.div a 2097152)) none fun r => some (Nat.add (Nat.mod a 2097152) (Nat.mul 2097152 r)))) f a

noncomputable def lk {β : Type} (x : Nat) (l : List (Nat × β)) : Option β := @List.rec (Nat × β) (fun _ => Option β) none (fun p _ ih => ifB (Nat.beq x p.1) (some p.2) ih) l
noncomputable def setK {β : Type} (x : Nat) (v : β) (l : List (Nat × β)) : List (Nat × β) := @List.rec (Nat × β) (fun _ => List (Nat × β)) [(x, v)] (fun p r ih => ifB (Nat.beq x p.1) ((x, v) :: r) (p :: ih)) l
noncomputable def hasN (x : Nat) (l : List Nat) : Bool := @List.rec Nat (fun _ => Bool) false (fun y _ ih => ifB (Nat.beq x y) true ih) l

/-- the built-in things that the text names -/
inductive Bi where
  | len | sorted | strT | tupT | listT | rangeT | fsetT | append | pop | extend | max
noncomputable def Bi.val : Bi → Value
  | .len => .builtin "len"
  | .sorted => .builtin "sorted"
  | .strT => .type "str"
  | .tupT => .type "tuple"
  | .listT => .type "list"
  | .rangeT => .type "range"
  | .fsetT => .type "frozenset"
  | .append => .builtin "list.append"
  | .pop => .builtin "list.pop"
  | .extend => .builtin "list.extend"
  | .max => .builtin "max"

inductive V where
  | none
  | tt (b : Bool)
  | int (i : Int)
  | sym (k : Nat)
  | str (s : Nat)
  | ref (i : Nat)
  | old (a : Addr)
  | bi (b : Bi)

inductive O where
  | list (xs : List V)
  | tup (xs : List V)
  | inst (C : Addr) (d : Nat) (m : List (Nat × V))
  | own (i : Nat)
  | dict (es : List (V × V))
  | fset
  | cell (v : Option V)
  | rng (lo hi : Int)
  | src (fd : List (Nat × Nat))
  | scr
  | fix (ob : Obj) (xs : List V)
  | opq

/-- objects by their number: three places of eight -/
inductive T3 where
  | nil
  | node (a b c d e f g h : Option O)
inductive T2 where
  | nil
  | node (a b c d e f g h : T3)
inductive T where
  | nil
  | node (a b c d e f g h : T2)
abbrev sel8 {α : Type} (i : Nat) (a b c d e f g h : α) : α :=
  @Nat.rec (fun _ => α) a (fun i _ => @Nat.rec (fun _ => α) b (fun i _ => @Nat.rec (fun _ => α) c (fun i _ => @Nat.rec (fun _ => α) d (fun i _ => @Nat.rec (fun _ => α) e (fun i _ => @Nat.rec (fun _ => α) f (fun i _ => @Nat.rec (fun _ => α) g (fun _ _ => h) i) i) i) i) i) i) i
noncomputable def T3.get (t : T3) (i : Nat) : Option O := @T3.rec (fun _ => Option O) none (fun a b c d e f g h => sel8 i a b c d e f g h) t
noncomputable def T2.get (t : T2) (i : Nat) : Option O := @T2.rec (fun _ => Option O) none (fun a b c d e f g h => (sel8 (Nat.mod i 8) a b c d e f g h).get (Nat.div i 8)) t
noncomputable def T.get (t : T) (i : Nat) : Option O := @T.rec (fun _ => Option O) none (fun a b c d e f g h => (sel8 (Nat.mod i 8) a b c d e f g h).get (Nat.div i 8)) t
noncomputable def T3.put (t : T3) (i : Nat) (o : Option O) : T3 :=
  @T3.rec (fun _ => T3) (sel8 i (.node o none none none none none none none) (.node none o none none none none none none) (.node none none o none none none none none) (.node none none none o none none none none)
      (.node none none none none o none none none) (.node none none none none none o none none) (.node none none none none none none o none) (.node none none none none none none none o))
    (fun a b c d e f g h => sel8 i (.node o b c d e f g h) (.node a o c d e f g h) (.node a b o d e f g h) (.node a b c o e f g h) (.node a b c d o f g h) (.node a b c d e o g h) (.node a b c d e f o h) (.node a b c d e f g o)) t
noncomputable def T2.put (t : T2) (i : Nat) (o : Option O) : T2 :=
  let j := Nat.div i 8
  @T2.rec (fun _ => T2) (sel8 (Nat.mod i 8) (.node (T3.put .nil j o) .nil .nil .nil .nil .nil .nil .nil) (.node .nil (T3.put .nil j o) .nil .nil .nil .nil .nil .nil) (.node .nil .nil (T3.put .nil j o) .nil .nil .nil .nil .nil) (.node .nil .nil .nil (T3.put .nil j o) .nil .nil .nil .nil)
      (.node .nil .nil .nil .nil (T3.put .nil j o) .nil .nil .nil) (.node .nil .nil .nil .nil .nil (T3.put .nil j o) .nil .nil) (.node .nil .nil .nil .nil .nil .nil (T3.put .nil j o) .nil) (.node .nil .nil .nil .nil .nil .nil .nil (T3.put .nil j o)))
    (fun a b c d e f g h => sel8 (Nat.mod i 8) (.node (a.put j o) b c d e f g h) (.node a (b.put j o) c d e f g h) (.node a b (c.put j o) d e f g h) (.node a b c (d.put j o) e f g h) (.node a b c d (e.put j o) f g h) (.node a b c d e (f.put j o) g h)
      (.node a b c d e f (g.put j o) h) (.node a b c d e f g (h.put j o))) t
noncomputable def T.put (t : T) (i : Nat) (o : Option O) : T :=
  let j := Nat.div i 8
  @T.rec (fun _ => T) (sel8 (Nat.mod i 8) (.node (T2.put .nil j o) .nil .nil .nil .nil .nil .nil .nil) (.node .nil (T2.put .nil j o) .nil .nil .nil .nil .nil .nil) (.node .nil .nil (T2.put .nil j o) .nil .nil .nil .nil .nil) (.node .nil .nil .nil (T2.put .nil j o) .nil .nil .nil .nil)
      (.node .nil .nil .nil .nil (T2.put .nil j o) .nil .nil .nil) (.node .nil .nil .nil .nil .nil (T2.put .nil j o) .nil .nil) (.node .nil .nil .nil .nil .nil .nil (T2.put .nil j o) .nil) (.node .nil .nil .nil .nil .nil .nil .nil (T2.put .nil j o)))
    (fun a b c d e f g h => sel8 (Nat.mod i 8) (.node (a.put j o) b c d e f g h) (.node a (b.put j o) c d e f g h) (.node a b (c.put j o) d e f g h) (.node a b c (d.put j o) e f g h) (.node a b c d (e.put j o) f g h) (.node a b c d e (f.put j o) g h)
      (.node a b c d e f (g.put j o) h) (.node a b c d e f g (h.put j o))) t

structure St where
  n : Nat
  k : Nat
  t : T
  fr : List (Nat × V)
  fd : List (Nat × Nat)

/-- what is still to be asked of each outcome comes as a function -/
abbrev EM (α : Type) := (α → St → Bool) → St → Bool
abbrev EM.bind {α β : Type} (m : EM α) (f : α → EM β) : EM β := fun k s => m (fun a s' => f a k s') s
abbrev EM.ret {α : Type} (a : α) : EM α := fun k s => k a s
abbrev EM.fail {α : Type} : EM α := fun _ _ => false
abbrev EM.some {α : Type} (o : Option α) : EM α := fun k s => ifO o false fun a => k a s
abbrev EM.test (b : Bool) : EM Unit := fun k s => ifB b (k () s) false
/-- each of these -/
noncomputable def EM.any {α : Type} : List α → EM α
  | [] => fun _ _ => true
  | a :: r => fun k s => ifB (k a s) (EM.any r k s) false

noncomputable def look (i : Nat) : EM O := fun k s => ifO (s.t.get i) false fun o => k o s
noncomputable def store (i : Nat) (o : O) : EM Unit := fun k s => k () ⟨s.n, s.k, s.t.put i (.some o), s.fr, s.fd⟩
noncomputable def make (o : O) : EM Nat := fun k s => ifB (Nat.blt s.n 512) (k s.n ⟨Nat.add s.n 1, s.k, s.t.put s.n (.some o), s.fr, s.fd⟩) false
noncomputable def newSym : EM V := fun k s => k (.sym s.k) ⟨s.n, Nat.add s.k 1, s.t, s.fr, s.fd⟩

structure Cx where
  sc : Scope
  cells : List (Nat × Nat)
  code : Nat

inductive Fl where
  | next
  | ret (v : V)

/-- one level of an expression, seen in a scope -/
inductive Xv where
  | bad
  | cst (v : V)
  | loc (x : Nat)
  | cel (x : Nat)
  | glb (x : Str)
  | andor (op : BoolOp) (es : List PySem.Expr)
  | bin (op : Operator) (l r : PySem.Expr)
  | neg (x : PySem.Expr)
  | not (x : PySem.Expr)
  | lam (ns : List (Str × NameKind))
  | ife (t a b : PySem.Expr)
  | dict0
  | dict (ks : List (Option PySem.Expr)) (vs : List PySem.Expr)
  | list (es : List PySem.Expr)
  | tup (es : List PySem.Expr)
  | comp (elt tg it : PySem.Expr) (ifs : List PySem.Expr) (sc : Scope)
  | cmp (op : CmpOp) (l r : PySem.Expr)
  | mcall (o : PySem.Expr) (x : Str) (args : List PySem.Expr)
  | call (f : PySem.Expr) (args : List PySem.Expr)
  | attr (o : PySem.Expr) (x : Str)
  | cut (o : PySem.Expr) (lo hi st : Option PySem.Expr)
  | sub (o i : PySem.Expr)
noncomputable def constV (k : Const) : Xv := match k with
  | .none => .cst .none
  | .bool b => .cst (.tt b)
  | .int i => .cst (.int i)
  | .str s => ifB (okS s) (.cst (.str (sid s))) .bad
  | _ => .bad
noncomputable def sEq (a b : Str) : Bool := match okS a, okS b with
  | true, true => Nat.beq (sid a) (sid b)
  | _, _ => false
noncomputable def noStar : List PySem.Expr → Bool
  | [] => true
  | e :: r => match e with
    | .Starred _ _ => false
    | _ => noStar r
noncomputable def plainBase (o : PySem.Expr) : Bool := match o with
  | .Name .. | .Attribute .. | .Subscript .. => true
  | .Call (.Attribute ..) _ _ _ => true
  | _ => false
noncomputable def notSet (o : PySem.Expr) : Bool := match o with
  | .Set .. => false
  | _ => true
noncomputable def notComp (o : PySem.Expr) : Bool := match o with
  | .ListComp .. | .SetComp .. | .DictComp .. => false
  | _ => true
noncomputable def dictOk : List (Option PySem.Expr) → List PySem.Expr → Bool
  | [], [] => true
  | k :: ks, _ :: vs => match k with
    | some _ => dictOk ks vs
    | none => false
  | _, _ => false
noncomputable def kindOf (x : Str) : List (Str × NameKind) → Option NameKind
  | [] => none
  | p :: r => match sEq x p.1 with
    | true => some p.2
    | false => kindOf x r
noncomputable def kindV (x : Str) (k : NameKind) : Xv := match k with
  | .local => .loc (sid x)
  | .cell | .free => .cel (sid x)
  | .globalImplicit => .glb x
  | _ => .bad
noncomputable def nameV (sc : Scope) (x : Str) : Xv := ifB (Nat.beq (sid x) (sid "__debug__")) .bad (ifB (Nat.beq (sid x) (sid "__classdict__")) .bad (ifO (kindOf x sc.names) .bad fun k => kindV x k))
noncomputable def subV (o i : PySem.Expr) : Xv := match i with
  | .Slice lo hi st _ => .cut o lo hi st
  | _ => .sub o i
noncomputable def callF (f : PySem.Expr) (args : List PySem.Expr) (pos : Pos) : Xv := match f with
  | .Attribute o x apos => ifB (plainBase o) (ifB (apos.endLine == pos.line) (.mcall o x args) .bad) .bad
  | _ => .call f args
noncomputable def callW (f : PySem.Expr) (args : List PySem.Expr) (kws : List Keyword) (pos : Pos) : Xv := match kws with
  | [] => ifB (noStar args) (ifB (Nat.blt args.length 20) (callF f args pos) .bad) .bad
  | _ :: _ => .bad
noncomputable def boolV (op : BoolOp) (es : List PySem.Expr) : Xv := match es with
  | [] => .bad
  | e :: es => .andor op (e :: es)
noncomputable def unV (op : UnaryOp) (x : PySem.Expr) : Xv := match op with
  | .USub => .neg x
  | .Not => .not x
  | _ => .bad
noncomputable def lamV (a : Arguments) (sc' : Scope) : Xv := match a with
  | ⟨_, _, _, _, l5, _, l7⟩ => match l5 with
    | [] => match l7 with
      | [] => .lam sc'.names
      | _ :: _ => .bad
    | _ :: _ => .bad
noncomputable def dictV (ks : List (Option PySem.Expr)) (vs : List PySem.Expr) : Xv := match ks with
  | [] => match vs with
    | [] => .dict0
    | _ :: _ => .bad
  | k :: ks => ifB (Nat.ble (k :: ks).length 15) (ifB (dictOk (k :: ks) vs) (.dict (k :: ks) vs) .bad) .bad
noncomputable def isZ (i : Int) : Bool := match i with
  | .ofNat n => Nat.beq n 0
  | .negSucc _ => false
noncomputable def compV (elt : PySem.Expr) (gs : List Comprehension) (sc' : Scope) : Xv := match gs with
  | [] => .bad
  | g :: gs => match gs with
    | [] => match g with
      | ⟨tg, it, ifs, as⟩ => ifB (isZ as) (ifB (notSet it) (.comp elt tg it ifs sc') .bad) .bad
    | _ :: _ => .bad
noncomputable def cmpV (l : PySem.Expr) (ops : List CmpOp) (rs : List PySem.Expr) : Xv := match ops with
  | [] => .bad
  | op :: ops => match ops with
    | [] => match rs with
      | [] => .bad
      | r :: rs => match rs with
        | [] => ifB (notSet r) (.cmp op l r) .bad
        | _ :: _ => .bad
    | _ :: _ => .bad
noncomputable def view (sc : Scope) (e : PySem.Expr) : Xv := match e with
  | .Constant k _ _ => constV k
  | .Name x _ => nameV sc x
  | .BoolOp op es _ => boolV op es
  | .BinOp l op r _ => .bin op l r
  | .UnaryOp op x _ => unV op x
  | .Lambda a _ sc' _ => lamV a sc'
  | .IfExp t a b _ => .ife t a b
  | .Dict ks vs _ => dictV ks vs
  | .List es _ => ifB (noStar es) (ifB (Nat.blt es.length 1000) (.list es) .bad) .bad
  | .Tuple es _ _ => ifB (noStar es) (ifB (Nat.blt es.length 1000) (.tup es) .bad) .bad
  | .ListComp elt gs sc' _ => compV elt gs sc'
  | .Compare l ops rs _ => cmpV l ops rs
  | .Call f args kws pos => callW f args kws pos
  | .Attribute o x _ => ifB (plainBase o) (.attr o x) .bad
  | .Subscript o i _ => subV o i
  | _ => .bad
inductive Sv where
  | bad
  | expr (e : PySem.Expr)
  | pass
  | ret (e : PySem.Expr)
  | retN
  | asg (tg e : PySem.Expr)
  | ife (t : PySem.Expr) (a b : List Stmt)
  | whl (t : PySem.Expr) (b : List Stmt)
  | loop (tg it : PySem.Expr) (b : List Stmt)
noncomputable def notSD (e : PySem.Expr) : Bool := match e with
  | .SetComp .. | .DictComp .. => false
  | _ => true
noncomputable def storesOk (tg e : PySem.Expr) : Bool := match tg, e with
  | .Tuple .., .Tuple vs _ _ => !(vs.all (constantsAlone 8))
  | .List .., _ => false
  | _, _ => true
noncomputable def retV (e : Option PySem.Expr) : Sv := match e with
  | some e => .ret e
  | none => .retN
noncomputable def asgV (tgs : List PySem.Expr) (e : PySem.Expr) : Sv := match tgs with
  | [] => .bad
  | tg :: tgs => match tgs with
    | [] => ifB (storesOk tg e) (ifB (notSD e) (.asg tg e) .bad) .bad
    | _ :: _ => .bad
noncomputable def viewS (s : Stmt) : Sv := match s with
  | .Expr e _ => ifB (notComp e) (.expr e) .bad
  | .Pass _ => .pass
  | .Return e _ => retV e
  | .Assign tgs e _ => asgV tgs e
  | .If t a b _ => .ife t a b
  | .While t b els _ => match els with
    | [] => .whl t b
    | _ :: _ => .bad
  | .For tg it b els _ => match els with
    | [] => ifB (notSet it) (.loop tg it b) .bad
    | _ :: _ => .bad
  | _ => .bad

/-- a def: its parameters (its number; does a cell hold it), its defaults, its body -/
structure Fn where
  params : List (Nat × Bool)
  cellNames : List Nat
  dflts : List V
  body : List Stmt
  sc : Scope
  code : Nat

/-- what the text's own things are -/
structure Pg where
  glob : Str → Option V
  oldO : Addr → Option O
  fn : Addr → Option Fn
  init : Addr → Option Addr
  attr : Addr → Str → Bool
  meth : Addr → Str → Option Addr
  sum : Addr → Option (List V → EM V)
  lam : Nat

structure Ih where
  ev : Cx → PySem.Expr → EM V
  xs : Cx → List Stmt → EM Fl
  cl : V → List V → EM V

section
variable (P : Pg) (h : Ih)

noncomputable def lookV (v : V) : EM O := match v with
  | .ref i => look i
  | .old a => EM.some (P.oldO a)
  | _ => EM.fail
noncomputable def loadLoc (x : Nat) : EM V := fun k s => ifO (lk x s.fr) false fun v => k v s
noncomputable def loadCell (c : Cx) (x : Nat) : EM V := fun k s => ifO (lk x c.cells) false fun j => look j (fun o s => match o with
  | .cell (some v) => k v s
  | _ => false) s
noncomputable def storeLoc (x : Nat) (v : V) : EM Unit := fun k s => k () ⟨s.n, s.k, s.t, setK x v s.fr, s.fd⟩
noncomputable def storeCell (c : Cx) (x : Nat) (v : V) : EM Unit := fun k s => ifO (lk x c.cells) false fun j => look j (fun o s => match o with
  | .cell _ => store j (.cell (some v)) k s
  | _ => false) s
/-- run in a frame of its own -/
noncomputable def within {α : Type} (fr : List (Nat × V)) (m : EM α) : EM α := fun k s => m (fun a s' => k a ⟨s'.n, s'.k, s'.t, s.fr, s'.fd⟩) ⟨s.n, s.k, s.t, fr, s.fd⟩

noncomputable def newRef (o : O) : EM V := fun k s => make o (fun i s => k (.ref i) s) s

/-- data as far as == goes into it -/
inductive D where
  | none
  | int (i : Int)
  | sym (k : Nat)
  | str (s : Nat)
  | tup (l : D)
  | list (l : D)
  | nil
  | cons (d r : D)
mutual
noncomputable def readD : Nat → V → EM D
  | 0, _ => EM.fail
  | n + 1, v => match v with
    | .none => EM.ret .none
    | .int i => EM.ret (.int i)
    | .sym k => EM.ret (.sym k)
    | .str s => EM.ret (.str s)
    | .ref _ | .old _ => fun k s => lookV P v (fun o s => match o with
      | .tup xs => readDs n xs (fun l s => k (.tup l) s) s
      | .list xs => readDs n xs (fun l s => k (.list l) s) s
      | _ => false) s
    | _ => EM.fail
noncomputable def readDs : Nat → List V → EM D
  | 0, _ => EM.fail
  | _ + 1, [] => EM.ret .nil
  | n + 1, x :: r => fun k s => readD n x (fun d s => readDs n r (fun ds s => k (.cons d ds) s) s) s
end
noncomputable def iEq (a b : Int) : Bool := match a, b with
  | .ofNat m, .ofNat n => Nat.beq m n
  | .negSucc m, .negSucc n => Nat.beq m n
  | _, _ => false
noncomputable def iLt (a b : Int) : Bool := match a, b with
  | .ofNat m, .ofNat n => Nat.blt m n
  | .ofNat _, .negSucc _ => false
  | .negSucc _, .ofNat _ => true
  | .negSucc m, .negSucc n => Nat.blt n m
/-- equal for sure, unequal for sure, or not known -/
noncomputable def eqD : D → D → Option Bool
  | .none, b => match b with
    | .none => some true
    | _ => some false
  | .int i, b => match b with
    | .int j => some (iEq i j)
    | .sym _ => none
    | _ => some false
  | .sym i, b => match b with
    | .sym j => match Nat.beq i j with
      | true => some true
      | false => none
    | .int _ => none
    | _ => some false
  | .str x, b => match b with
    | .str y => some (Nat.beq x y)
    | _ => some false
  | .tup l, b => match b with
    | .tup m => eqD l m
    | _ => some false
  | .list l, b => match b with
    | .list m => eqD l m
    | _ => some false
  | .nil, b => match b with
    | .nil => some true
    | _ => some false
  | .cons a l, b => match b with
    | .cons b m => match eqD a b with
      | some true => eqD l m
      | some false => some false
      | none => none
    | _ => some false
noncomputable def sameV (a b : V) : EM Bool := fun k s => readD P 60 a (fun x s => readD P 60 b (fun y s => EM.some (eqD x y) k s) s) s

noncomputable def truth (v : V) : EM Bool := match v with
  | .tt b => EM.ret b
  | _ => EM.fail

noncomputable def mapE {α β : Type} (f : α → EM β) : List α → EM (List β)
  | [] => EM.ret []
  | x :: r => fun k s => f x (fun y s => mapE f r (fun ys s => k (y :: ys) s) s) s

noncomputable def nthV : List V → Nat → Option V
  | [], _ => none
  | v :: r, i => match i with
    | 0 => some v
    | j + 1 => nthV r j
noncomputable def place (xs : List V) (i : Int) : Option Nat := match i with
  | .ofNat n => match Nat.blt n xs.length with
    | true => some n
    | false => none
  | .negSucc n => match Nat.ble (n + 1) xs.length with
    | true => some (xs.length - (n + 1))
    | false => none
noncomputable def setNth (v : V) : List V → Nat → List V
  | [], _ => []
  | x :: r, i => match i with
    | 0 => v :: r
    | j + 1 => x :: setNth v r j

/-- the key of a dict: a text or a written int -/
noncomputable def keyEq : V → V → Option Bool
  | .str x, .str y => some (Nat.beq x y)
  | .int i, .int j => some (iEq i j)
  | _, _ => none
noncomputable def dFind (k : V) : List (V × V) → Option (Option V)
  | [] => some none
  | p :: r => match keyEq k p.1 with
    | some true => some (some p.2)
    | some false => dFind k r
    | none => none
noncomputable def dPut (k v : V) : List (V × V) → Option (List (V × V))
  | [] => some [(k, v)]
  | p :: r => match keyEq k p.1 with
    | some true => some ((p.1, v) :: r)
    | some false => match dPut k v r with
      | some l => some (p :: l)
      | none => none
    | none => none
noncomputable def isKey : V → Bool
  | .str _ | .int _ => true
  | _ => false

noncomputable def upTo : Nat → List V → Int → List V
  | 0, acc, _ => acc
  | n + 1, acc, lo => upTo n (.int (lo + n) :: acc) lo
noncomputable def rngItems (lo hi : Int) : List V := upTo (hi - lo).toNat [] lo

noncomputable def small (i : Int) : Bool := match i with
  | .ofNat n => Nat.ble n 10000
  | _ => false
/-- what is run over -/
inductive Sk where
  | list
  | tup
  | rng (lo hi : Int)
noncomputable def skOf (o : O) : Option Sk := match o with
  | .list _ => some .list
  | .tup _ => some .tup
  | .rng lo hi => ifB (small lo) (ifB (small hi) (some (.rng lo hi)) none) none
  | _ => none
/-- the item of a source at a turn, looked up anew at each turn -/
noncomputable def nextItem (kd : Sk) (src : V) (i : Nat) : EM (Option V) := match kd with
  | .list => fun k s => lookV P src (fun o s => match o with
    | .list xs => k (nthV xs i) s
    | _ => false) s
  | .tup => fun k s => lookV P src (fun o s => match o with
    | .tup xs => k (nthV xs i) s
    | _ => false) s
  | .rng lo hi => fun k s => k (ifB (iLt (lo + i) hi) (some (.int (lo + i))) none) s
/-- what a call takes out of it -/
noncomputable def items (o : O) : Option (List V) := match o with
  | .list xs => ifB (Nat.ble xs.length 10000) (some xs) none
  | .rng lo hi => ifB (small lo) (ifB (small hi) (ifB (iLt (hi - lo) 100) (some (rngItems lo hi)) none) none) none
  | _ => none

noncomputable def getAttr (v : V) (x : Str) : EM V := match v with
  | .ref i => fun k s => look i (fun o s => match o with
    | .inst C _ m => ifB (P.attr C x) (ifO (lk (sid x) m) false fun v => k v s) false
    | _ => false) s
  | _ => EM.fail
noncomputable def setAttr (v : V) (x : Str) (w : V) : EM Unit := match v with
  | .ref i => fun k s => look i (fun o s => match o with
    | .inst C d m => ifB (P.attr C x) (ifB (Nat.ble m.length 1000) (store i (.inst C d (setK (sid x) w m)) k s) false) false
    | _ => false) s
  | _ => EM.fail

noncomputable def listMeths : List (Nat × Bi) := [(sid "append", .append), (sid "pop", .pop), (sid "extend", .extend)]
noncomputable def getMeth (v : V) (x : Str) : EM (V × List V) := match v with
  | .ref i => fun k s => look i (fun o s => match o with
    | .inst C _ m => ifO (P.meth C x) false fun f => ifO (lk (sid x) m) (k (.old f, [v]) s) fun _ => false
    | .list _ => ifB (okS x) (ifO (lk (sid x) listMeths) false fun b => k (.bi b, [v]) s) false
    | _ => false) s
  | _ => EM.fail

noncomputable def evs (c : Cx) (es : List PySem.Expr) : EM (List V) := mapE (h.ev c) es

noncomputable def short (xs : List V) : Bool := Nat.ble xs.length 10000
noncomputable def catV (a b : V) : EM V := fun k s => lookV P a (fun o s => lookV P b (fun o' s => match o with
  | .tup xs => match o' with
    | .tup ys => match xs with
      | [] => k b s
      | _ => match ys with
        | [] => k a s
        | _ => ifB (short xs) (ifB (short ys) (newRef (.tup (xs ++ ys)) k s) false) false
    | _ => false
  | .list xs => match o' with
    | .list ys => ifB (short xs) (ifB (short ys) (newRef (.list (xs ++ ys)) k s) false) false
    | _ => false
  | _ => false) s) s
noncomputable def repV (a : V) (n : Nat) : EM V := fun k s => lookV P a (fun o s => match o with
  | .tup [x] => ifB (Nat.ble 2 n) (ifB (Nat.ble n 9) (newRef (.tup (List.replicate n x)) k s) false) false
  | .list [x] => ifB (Nat.ble n 9) (newRef (.list (List.replicate n x)) k s) false
  | _ => false) s
/-- short enough that a product with it is quick -/
noncomputable def bitsOk (i : Int) : Bool := match i with
  | .ofNat n => Nat.ble n 18446744073709551615
  | _ => false
noncomputable def nzI (i : Int) : Bool := match i with
  | .ofNat n => match n with
    | 0 => false
    | _ + 1 => true
  | .negSucc _ => true
noncomputable def binop (op : Operator) (a b : V) : EM V := match op with
  | .Add => match a with
    | .int i => match b with
      | .int j => EM.ret (.int (i + j))
      | _ => EM.fail
    | .str x => match b with
      | .str y => fun k s => ifO (joinId 64 x y) false fun z => ifO (joinId 64 y 0) false fun _ => k (.str z) s
      | _ => EM.fail
    | _ => catV P a b
  | .Sub => match a with
    | .int i => match b with
      | .int j => EM.ret (.int (i - j))
      | _ => EM.fail
    | _ => EM.fail
  | .Mult => match b with
    | .int j => match a with
      | .int i => fun k s => ifB (bitsOk j) (k (.int (i * j)) s) (ifB (bitsOk i) (k (.int (i * j)) s) false)
      | _ => match j with
        | .ofNat n => repV P a n
        | _ => EM.fail
    | _ => EM.fail
  | .Mod => match a with
    | .int i => match b with
      | .int j => fun k s => ifB (nzI j) (k (.int (Int.fmod i j)) s) false
      | _ => EM.fail
    | _ => EM.fail
  | .FloorDiv => match a with
    | .int i => match b with
      | .int j => fun k s => ifB (nzI j) (ifB (bitsOk j) (k (.int (Int.fdiv i j)) s) false) false
      | _ => EM.fail
    | _ => EM.fail
  | .Pow => match a with
    | .int i => match b with
      | .int j => fun k s => ifB (iEq i 10) (ifB (iEq j 18) (k (.int 1000000000000000000) s) false) false
      | _ => EM.fail
    | _ => EM.fail
  | _ => EM.fail

noncomputable def strsOf : List V → Option (List Nat)
  | [] => some []
  | v :: r => match v with
    | .str y => match strsOf r with
      | some l => some (y :: l)
      | none => none
    | _ => none
noncomputable def isIn (a b : V) : EM Bool := fun k s => lookV P b (fun o s => match o with
  | .tup xs => match a with
    | .str x => ifO (strsOf xs) false fun ys => k (hasN x ys) s
    | _ => false
  | .dict es => ifB (isKey a) (ifO (dFind a es) false fun r => k r.isSome s) false
  | .fset => match a with
    | .int _ => k false s
    | _ => false
  | _ => false) s

noncomputable def cmp (op : CmpOp) (a b : V) : EM Bool := match op with
  | .Eq => sameV P a b
  | .NotEq => fun k s => sameV P a b (fun r s => k (!r) s) s
  | .Is => match b with
    | .none => match a with
      | .none => EM.ret true
      | .ref _ => EM.ret false
      | _ => EM.fail
    | _ => EM.fail
  | .In => isIn P a b
  | .NotIn => fun k s => isIn P a b (fun r s => k (!r) s) s
  | .Gt => match a with
    | .int i => match b with
      | .int j => EM.ret (iLt j i)
      | _ => EM.fail
    | _ => EM.fail
  | .GtE => match a with
    | .int i => match b with
      | .int j => EM.ret (!(iLt i j))
      | _ => EM.fail
    | _ => EM.fail
  | _ => EM.fail

/-- the part of a cut: written or absent -/
inductive Pt where
  | none
  | int (i : Int)
noncomputable def part (c : Cx) (e : Option PySem.Expr) : EM Pt := match e with
  | .none => EM.ret .none
  | .some x => fun k s => h.ev c x (fun v s => match v with
    | .int i => k (.int i) s
    | .none => k .none s
    | _ => false) s
noncomputable def cutOf (xs : List V) (lo hi st : Pt) : Option (List V) := match lo with
  | .int i => match hi with
    | .none => match st with
      | .none => match i with
        | .ofNat n => some (xs.drop n)
        | _ => none
      | _ => none
    | _ => none
  | .none => match hi with
    | .int i => match st with
      | .none => match i with
        | .ofNat n => some (xs.take n)
        | _ => none
      | _ => none
    | .none => match st with
      | .int (.negSucc 0) => match xs with
        | [] => some []
        | _ => none
      | _ => none
noncomputable def subscr (a b : V) : EM V := fun k s => lookV P a (fun o s => match o with
  | .list xs | .tup xs | .fix _ xs => match b with
    | .int i => ifB (short xs) (ifO (place xs i) false fun j => ifO (nthV xs j) false fun v => k v s) false
    | _ => false
  | .dict es => ifB (isKey b) (ifO (dFind b es) false fun r => ifO r false fun v => k v s) false
  | _ => false) s
noncomputable def tupCut (lo hi st : Pt) (n : Nat) : Bool := match lo with
  | .int (.ofNat i) => match hi with
    | .none => match st with
      | .none => match i with
        | 0 => false
        | _ => Nat.ble i n
      | _ => false
    | _ => false
  | .none => match hi with
    | .int (.ofNat i) => match st with
      | .none => Nat.ble i n
      | _ => false
    | _ => false
  | _ => false
noncomputable def cut (a : V) (lo hi st : Pt) : EM V := fun k s => lookV P a (fun o s => match o with
  | .list xs => ifB (short xs) (ifO (cutOf xs lo hi st) false fun ys => newRef (.list ys) k s) false
  | .tup xs => ifB (short xs) (ifB (tupCut lo hi st xs.length) (ifO (cutOf xs lo hi st) false fun ys => ifB (Nat.beq ys.length xs.length) (k a s) (newRef (.tup ys) k s)) false) false
  | _ => false) s
noncomputable def setItem (a b v : V) : EM Unit := match a with
  | .ref i => fun k s => look i (fun o s => match o with
    | .list xs => match b with
      | .int (.ofNat j) => ifB (short xs) (ifB (Nat.blt j xs.length) (store i (.list (setNth v xs j)) k s) false) false
      | _ => false
    | .dict es => ifB (isKey b) (ifB (Nat.ble es.length 10000) (ifO (dPut b v es) false fun es => store i (.dict es) k s) false) false
    | _ => false) s
  | _ => EM.fail

noncomputable def nameOf (c : Cx) (y : Xv) (v : V) : EM Unit := match y with
  | .loc x => storeLoc x v
  | .cel x => storeCell c x v
  | _ => EM.fail
noncomputable def assignName (c : Cx) (e : PySem.Expr) (v : V) : EM Unit := nameOf c (view c.sc e) v
noncomputable def assignNames (c : Cx) : List PySem.Expr → List V → EM Unit
  | [], vs => match vs with
    | [] => EM.ret ()
    | _ => EM.fail
  | e :: es, vs => match vs with
    | v :: vs => fun k s => assignName c e v (fun _ s => assignNames c es vs k s) s
    | _ => EM.fail
noncomputable def asgOf (c : Cx) (y : Xv) (v : V) : EM Unit := match y with
  | .loc x => storeLoc x v
  | .cel x => storeCell c x v
  | .attr o x => fun k s => h.ev c o (fun ov s => setAttr P ov x v k s) s
  | .sub o i => fun k s => h.ev c o (fun ov s => h.ev c i (fun iv s => setItem ov iv v k s) s) s
  | .tup es => fun k s => lookV P v (fun o s => match o with
    | .tup xs | .list xs => assignNames c es xs k s
    | _ => false) s
  | _ => EM.fail

noncomputable def assign (c : Cx) (e : PySem.Expr) (v : V) : EM Unit := asgOf P h c (view c.sc e) v

/-- the cells of a new frame -/
noncomputable def layCells : List Nat → List (Nat × Nat) → EM (List (Nat × Nat))
  | [], acc => EM.ret acc
  | x :: r, acc => fun k s => make (.cell none) (fun j s => layCells r ((x, j) :: acc) k s) s
/-- arguments: into the frame, or into a cell -/
noncomputable def layArgs (c : Cx) : List (Nat × Bool) → List V → List (Nat × V) → EM (List (Nat × V))
  | [], vs, acc => match vs with
    | [] => EM.ret acc
    | _ => EM.fail
  | p :: ps, vs, acc => match vs with
    | [] => EM.fail
    | v :: vs => match p.2 with
      | true => fun k s => storeCell c p.1 v (fun _ s => layArgs c ps vs acc k s) s
      | false => layArgs c ps vs (setK p.1 v acc)
noncomputable def fillArgs (f : Fn) (vs : List V) : Option (List V) :=
  ifB (Nat.beq vs.length f.params.length) (some vs)
    (ifB (Nat.ble vs.length f.params.length) (ifB (Nat.ble (f.params.length - vs.length) f.dflts.length) (some (vs ++ f.dflts.drop (f.dflts.length - (f.params.length - vs.length)))) none) none)
noncomputable def callFn (f : Fn) (vs : List V) : EM V := fun k s => ifO (fillArgs f vs) false fun args => layCells f.cellNames [] (fun cells s => layArgs ⟨f.sc, cells, f.code⟩ f.params args [] (fun fr s =>
  within fr (h.xs ⟨f.sc, cells, f.code⟩ f.body) (fun r s => match r with
    | .next => k .none s
    | .ret v => k v s) s) s) s

noncomputable def callCls (a i : Addr) (vs : List V) : EM V := fun k s => make .opq (fun d s => make (.inst a d []) (fun x s => store d (.own x) (fun _ s => h.cl (.old i) (.ref x :: vs) (fun r s => match r with
  | .none => k (.ref x) s
  | _ => false) s) s) s) s

noncomputable def callBi (b : Bi) (vs : List V) : EM V := match b with
  | .len => match vs with
    | [v] => fun k s => lookV P v (fun o s => match o with
      | .list xs | .tup xs | .fix _ xs => ifB (short xs) (k (.int xs.length) s) false
      | .dict es => ifB (Nat.ble es.length 10000) (k (.int es.length) s) false
      | _ => false) s
    | _ => EM.fail
  | .tupT => match vs with
    | [v] => fun k s => lookV P v (fun o s => ifO (items o) false fun xs => newRef (.tup xs) k s) s
    | _ => EM.fail
  | .listT => match vs with
    | [v] => fun k s => lookV P v (fun o s => match o with
      | .tup xs | .list xs => ifB (short xs) (newRef (.list xs) k s) false
      | _ => false) s
    | _ => EM.fail
  | .rangeT => match vs with
    | [.int n] => fun k s => ifB (small n) (newRef (.rng 0 n) k s) false
    | [.int m, .int n] => fun k s => ifB (small m) (ifB (small n) (newRef (.rng m n) k s) false) false
    | _ => EM.fail
  | .fsetT => match vs with
    | [v] => fun k s => lookV P v (fun o s => match o with
      | .dict [] => newRef .fset k s
      | _ => false) s
    | _ => EM.fail
  | .strT => match vs with
    | [.int i] => match iEq i 1 with
      | true => EM.ret (.str 50)
      | false => EM.fail
    | _ => EM.fail
  | .sorted => match vs with
    | [v] => fun k s => lookV P v (fun o s => match o with
      | .dict [(.str x, _)] => newRef (.list [.str x]) k s
      | .list [.int i] => newRef (.list [.int i]) k s
      | _ => false) s
    | _ => EM.fail
  | .append => match vs with
    | [.ref i, v] => fun k s => look i (fun o s => match o with
      | .list xs => ifB (short xs) (store i (.list (xs ++ [v])) (fun _ s => k .none s) s) false
      | _ => false) s
    | _ => EM.fail
  | .max => match vs with
    | [.int i, .int j] => EM.ret (.int (ifB (iLt i j) j i))
    | _ => EM.fail
  | .pop => match vs with
    | [.ref i] => fun k s => look i (fun o s => match o with
      | .list xs => match xs with
        | [x] => store i (.list []) (fun _ s => k x s) s
        | _ => false
      | _ => false) s
    | _ => EM.fail
  | .extend => match vs with
    | [.ref i, .ref j] => fun k s => look i (fun o s => look j (fun o' s => match o with
      | .list xs => match o' with
        | .list ys => match xs with
          | [] => ifB (short ys) (ifB (Nat.beq i j) false (store i (.list ys) (fun _ s => k .none s) s)) false
          | _ => false
        | _ => false
      | _ => false) s) s
    | _ => EM.fail

noncomputable def callV (f : V) (vs : List V) : EM V := match f with
  | .old a => ifO (P.fn a) (ifO (P.init a) EM.fail fun i => callCls h a i vs) fun fn => ifO (P.sum a) (callFn h fn vs) fun g => g vs
  | .bi b => callBi P b vs
  | _ => EM.fail

noncomputable def boolE (op : BoolOp) (f : PySem.Expr → EM Bool) : List PySem.Expr → EM Bool
  | [] => EM.ret (match op with | .And => true | .Or => false)
  | e :: r => fun k s => f e (fun b s => match op with
    | .And => ifB b (boolE op f r k s) (k false s)
    | .Or => ifB b (k true s) (boolE op f r k s)) s
end

section
variable (P : Pg) (h : Ih)

noncomputable def isTrueF (f : PySem.Expr → EM Bool) (c : Cx) (e : PySem.Expr) (y : Xv) : EM Bool := match y with
  | .not x => fun k s => f x (fun b s => k (!b) s) s
  | .andor op es => boolE op f es
  | .cmp op l r => fun k s => h.ev c l (fun a s => h.ev c r (fun b s => cmp P op a b k s) s) s
  | .ife .. => EM.fail
  | .bad => EM.fail
  | _ => fun k s => h.ev c e (fun v s => truth v k s) s
noncomputable def isTrue : Nat → Cx → PySem.Expr → EM Bool
  | 0, _, _ => EM.fail
  | n + 1, c, e => isTrueF P h (isTrue n c) c e (view c.sc e)

noncomputable def compCells (cx : Cx) : List (Str × NameKind) → Option (List (Nat × Nat))
  | [] => some []
  | p :: r => match compCells cx r with
    | none => none
    | some l => match p.2 with
      | .free => match lk (sid p.1) cx.cells, okS p.1 with
        | some j, true => some ((sid p.1, j) :: l)
        | _, _ => none
      | .cell => none
      | _ => some l
noncomputable def localsOk (all : List (Str × NameKind)) : List (Str × NameKind) → Bool
  | [] => true
  | p :: r => match p.2 with
    | .local => match kindOf p.1 all with
      | some .local => localsOk all r
      | _ => false
    | .cell => false
    | _ => localsOk all r
/-- a lambda's free names are cells here -/
noncomputable def lamOk (cx : Cx) : List (Str × NameKind) → Bool
  | [] => true
  | p :: r => match p.2 with
    | .free => match okS p.1, lk (sid p.1) cx.cells with
      | true, some _ => lamOk cx r
      | _, _ => false
    | _ => lamOk cx r
noncomputable def compOk (sc : Scope) : Bool := match sc.kind with
  | .function => localsOk sc.names sc.names
  | _ => false
noncomputable def compTurns (c' : Cx) (acc : Nat) (tg elt : PySem.Expr) (ifs : List PySem.Expr) (kd : Sk) (src : V) : Nat → Nat → EM Unit
  | 0, _ => EM.fail
  | n + 1, i => fun k s => nextItem P kd src i (fun r s => match r with
    | none => k () s
    | some v => assign P h c' tg v (fun _ s => boolE .And (isTrue P h 20 c') ifs (fun ok s => ifB ok
        (h.ev c' elt (fun x s => look acc (fun o s => match o with
          | .list xs => ifB (short xs) (store acc (.list (xs ++ [x])) (fun _ s => compTurns c' acc tg elt ifs kd src n (Nat.add i 1) k s) s) false
          | _ => false) s) s)
        (compTurns c' acc tg elt ifs kd src n (Nat.add i 1) k s)) s) s) s

noncomputable def evPairs (c : Cx) : List (Option PySem.Expr) → List PySem.Expr → EM (List (V × V))
  | [], vs => match vs with
    | [] => EM.ret []
    | _ => EM.fail
  | k :: ks, vs => match vs with
    | [] => EM.fail
    | v :: vs => match k with
      | none => EM.fail
      | some k => fun kk s => h.ev c k (fun a s => h.ev c v (fun b s => evPairs c ks vs (fun r s => kk ((a, b) :: r) s) s) s) s
noncomputable def putAll : List (V × V) → List (V × V) → Option (List (V × V))
  | [], es => some es
  | p :: r, es => match p.1 with
    | .str _ => match dPut p.1 p.2 es with
      | some es' => putAll r es'
      | none => none
    | _ => none
noncomputable def lamE (c : Cx) (ns : List (Str × NameKind)) : EM V := fun k s => ifB (Nat.beq c.code P.lam) (ifB (Nat.ble 1 P.lam) (ifB (lamOk c ns) (newRef .opq k s) false) false) false
noncomputable def compE (c : Cx) (elt tg it : PySem.Expr) (ifs : List PySem.Expr) (sc : Scope) : EM V := fun k s => ifB (compOk sc) (ifO (compCells c sc.names) false fun cells => h.ev c it (fun src s => lookV P src (fun o s => ifO (skOf o) false fun kd => make (.list []) (fun acc s =>
      within [] (compTurns P h ⟨sc, cells, 0⟩ acc tg elt ifs kd src 100 0) (fun _ s => k (.ref acc) s) s) s) s) s) false
noncomputable def dictE (c : Cx) (ks : List (Option PySem.Expr)) (vs : List PySem.Expr) : EM V := fun k s => make (.dict []) (fun d s => evPairs h c ks vs (fun ps s => ifO (putAll ps []) false fun es => look d (fun o s => match o with
      | .dict [] => store d (.dict es) (fun _ s => k (.ref d) s) s
      | _ => false) s) s) s
noncomputable def evOf (c : Cx) (y : Xv) : EM V := match y with
  | .bad => EM.fail
  | .cst v => EM.ret v
  | .loc x => loadLoc x
  | .cel x => loadCell c x
  | .glb x => EM.some (P.glob x)
  | .andor op es => fun k s => boolE op (fun e k s => h.ev c e (fun v s => truth v k s) s) es (fun b s => k (.tt b) s) s
  | .bin op l r => fun k s => h.ev c l (fun a s => h.ev c r (fun b s => binop P op a b k s) s) s
  | .neg x => fun k s => h.ev c x (fun v s => match v with
    | .int i => k (.int (-i)) s
    | _ => false) s
  | .not x => fun k s => h.ev c x (fun v s => truth v (fun b s => k (.tt (!b)) s) s) s
  | .lam ns => lamE P c ns
  | .ife t a b => fun k s => isTrue P h 20 c t (fun r s => ifB r (h.ev c a k s) (h.ev c b k s)) s
  | .dict0 => newRef (.dict [])
  | .dict ks vs => dictE h c ks vs
  | .list es => fun k s => evs h c es (fun vs s => newRef (.list vs) k s) s
  | .tup es => fun k s => evs h c es (fun vs s => newRef (.tup vs) k s) s
  | .comp elt tg it ifs sc => compE P h c elt tg it ifs sc
  | .cmp op l r => fun k s => h.ev c l (fun a s => h.ev c r (fun b s => cmp P op a b (fun t s => k (.tt t) s) s) s) s
  | .mcall o x args => fun k s => h.ev c o (fun ov s => getMeth P ov x (fun fp s => evs h c args (fun vs s => h.cl fp.1 (fp.2 ++ vs) k s) s) s) s
  | .call f args => fun k s => h.ev c f (fun fv s => evs h c args (fun vs s => h.cl fv vs k s) s) s
  | .attr o x => fun k s => h.ev c o (fun ov s => getAttr P ov x k s) s
  | .cut o lo hi st => fun k s => h.ev c o (fun ov s => part h c lo (fun a s => part h c hi (fun b s => part h c st (fun d s => cut P ov a b d k s) s) s) s) s
  | .sub o i => fun k s => h.ev c o (fun ov s => h.ev c i (fun iv s => subscr P ov iv k s) s) s

noncomputable def evBody (c : Cx) (e : PySem.Expr) : EM V := evOf P h c (view c.sc e)

noncomputable def loop (f : V → EM Fl) (kd : Sk) (src : V) : Nat → Nat → EM Fl
  | 0, _ => EM.fail
  | n + 1, i => fun k s => nextItem P kd src i (fun r s => match r with
    | none => k .next s
    | some v => f v (fun r s => match r with
      | .next => loop f kd src n (Nat.add i 1) k s
      | .ret w => k (.ret w) s) s) s
noncomputable def whileE (test : EM Bool) (body : EM Fl) : Nat → EM Fl
  | 0 => EM.fail
  | n + 1 => fun k s => test (fun b s => ifB b (body (fun r s => match r with
      | .next => whileE test body n k s
      | .ret w => k (.ret w) s) s) (k .next s)) s

noncomputable def exOf (c : Cx) (y : Sv) : EM Fl := match y with
  | .bad => EM.fail
  | .expr e => fun k s => h.ev c e (fun _ s => k .next s) s
  | .pass => EM.ret .next
  | .ret e => fun k s => h.ev c e (fun v s => k (.ret v) s) s
  | .retN => EM.ret (.ret .none)
  | .asg tg e => fun k s => h.ev c e (fun v s => assign P h c tg v (fun _ s => k .next s) s) s
  | .ife t a b => fun k s => isTrue P h 20 c t (fun r s => ifB r (h.xs c a k s) (h.xs c b k s)) s
  | .whl t body => whileE (isTrue P h 20 c t) (h.xs c body) 20
  | .loop tg it body => fun k s => h.ev c it (fun src s => lookV P src (fun o s => ifO (skOf o) false fun kd => loop P (fun v k s => assign P h c tg v (fun _ s => h.xs c body k s) s) kd src 100 0 k s) s) s
noncomputable def exBody (c : Cx) (st : Stmt) : EM Fl := exOf P h c (viewS st)
noncomputable def xsBody (c : Cx) (ss : List Stmt) : EM Fl := match ss with
  | [] => EM.ret .next
  | st :: r => fun k s => exBody P h c st (fun f s => match f with
    | .next => h.xs c r k s
    | .ret v => k (.ret v) s) s

abbrev ihBody : Ih := ⟨evBody P h, xsBody P h, callV P h⟩
end
noncomputable def run (P : Pg) (n : Nat) : Ih := @Nat.rec (fun _ => Ih) ⟨fun _ _ => EM.fail, fun _ _ => EM.fail, fun _ _ => EM.fail⟩ (fun _ h => ihBody P h) n
end
end Sx
end
section
open PySem PySem.W PyProof.Rows
namespace Sx
theorem ff (e : false = true) : False := Bool.noConfusion e
theorem nn {α : Type _} {a : α} (e : none = some a) : False := by cases e
noncomputable section
noncomputable def toV (v : Value) : Option V := match v with
  | .none => some .none
  | .bool b => some (.tt b)
  | .int i t => ifB (Nat.beq t 0) none (some (.int i))
  | .str s t => ifB (Nat.beq t 0) none (ifB (okS s) (some (.str (sid s))) none)
  | .ref a => some (.old a)
  | _ => none
noncomputable def toVs : List Value → Option (List V)
  | [] => some []
  | v :: r => ifO (toV v) none fun x => ifO (toVs r) none fun l => some (x :: l)
theorem ifB_nn {α : Type} {b : Bool} {o : Option α} {a : α} (h : ifB b o none = some a) : b = true ∧ o = some a := by
  cases b with
  | true => exact ⟨rfl, h⟩
  | false => exact (nn h).elim
theorem ifB_n1 {α : Type} {b : Bool} {o : Option α} {a : α} (h : ifB b none o = some a) : b = false ∧ o = some a := by
  cases b with
  | true => exact (nn h).elim
  | false => exact ⟨rfl, h⟩
theorem ifO_nn {α β : Type} {o : Option β} {f : β → Option α} {a : α} (h : ifO o none f = some a) : ∃ b, o = some b ∧ f b = some a := by
  cases o with
  | some b => exact ⟨b, rfl, h⟩
  | none => exact (nn h).elim
noncomputable def asSeq (o : Obj) : Option (Array Value) := match o with
  | ⟨_, _, d, _⟩ => match d with
    | .seq xs _ => some xs
    | _ => none
theorem asSeq_eq {o : Obj} {xs : Array Value} (e : asSeq o = some xs) : ∃ c d n sl, o = ⟨c, d, .seq xs n, sl⟩ := by
  obtain ⟨c, d, da, sl⟩ := o
  cases da with
  | seq ys n => obtain rfl := Option.some.inj e; exact ⟨c, d, n, sl, rfl⟩
  | _ => exact (nn e).elim
noncomputable def asFunc (o : Obj) : Option FuncData := match o with
  | ⟨_, _, d, _⟩ => match d with
    | .func fd => some fd
    | _ => none
theorem asFunc_eq {o : Obj} {fd : FuncData} (e : asFunc o = some fd) : ∃ c d sl, o = ⟨c, d, .func fd, sl⟩ := by
  obtain ⟨c, d, da, sl⟩ := o
  cases da with
  | func f => obtain rfl := Option.some.inj e; exact ⟨c, d, sl, rfl⟩
  | _ => exact (nn e).elim
noncomputable def isTyp (t : String) (v : Value) : Bool := match v with
  | .type t' => t' == t
  | _ => false
theorem isTyp_eq {t : String} {v : Value} (e : isTyp t v = true) : v = .type t := by
  cases v with
  | type t' => exact congrArg Value.type (beq_iff_eq.mp e)
  | _ => exact (ff e).elim
noncomputable def isFrag (v : Value) : Option Addr := match v with
  | .ref a => some a
  | _ => none
theorem isFrag_eq {v : Value} {a : Addr} (e : isFrag v = some a) : v = .ref a := by
  cases v with
  | ref b => exact congrArg Value.ref (Option.some.inj e)
  | _ => exact (nn e).elim
noncomputable def biTab : List (Nat × Bi) := [(sid "len", .len), (sid "sorted", .sorted), (sid "str", .strT), (sid "tuple", .tupT), (sid "list", .listT), (sid "range", .rangeT), (sid "frozenset", .fsetT), (sid "max", .max)]
noncomputable def glob (K : Frag) (x : Str) : Option V := match nsIn K mainGlobals x with
  | some (some v) => toV v
  | some none => match okS x with
    | true => (lk (sid x) biTab).map V.bi
    | false => none
  | none => none
noncomputable def oldO (K : Frag) (a : Addr) : Option O := ifO (K.lookup a) none fun o => ifB (isTyp "tuple" o.cls) (ifO (asSeq o) none fun xs => ifO (toVs xs.toList) none fun l => some (.tup l)) none
noncomputable def dfltsOf (K : Frag) (v : Value) : Option (List V) := match v with
  | .none => some []
  | v => ifO (isFrag v) none fun t => ifO (K.lookup t) none fun o => ifO (asSeq o) none fun xs => toVs xs.toList
noncomputable def okKind (x : Str) (k : NameKind) : Bool := match k with
  | .local | .globalImplicit => true
  | .cell => okS x
  | _ => false
noncomputable def okNames : List (Str × NameKind) → Bool
  | [] => true
  | p :: r => ifB (okKind p.1 p.2) (okNames r) false
noncomputable def apart : List Nat → Bool
  | [] => true
  | x :: r => match hasN x r with
    | true => false
    | false => apart r
noncomputable def fstN : List (Nat × Bool) → List Nat
  | [] => []
  | p :: r => p.1 :: fstN r
noncomputable def cellsIn : List (Str × NameKind) → List Nat
  | [] => []
  | p :: r => match p.2 with
    | .cell => sid p.1 :: cellsIn r
    | _ => cellsIn r
noncomputable def parKind (k : NameKind) : Option Bool := match k with
  | .local => some false
  | .cell => some true
  | _ => none
noncomputable def paramsIn (sc : List (Str × NameKind)) : List Arg → Option (List (Nat × Bool))
  | [] => some []
  | p :: r => ifO (paramsIn sc r) none fun l => ifO (kindOf p.arg sc) none fun k => ifO (parKind k) none fun b => some ((sid p.arg, b) :: l)
noncomputable def codeNum : Value → Nat
  | .ref a => a
  | _ => 0
noncomputable def asPars (a : Arguments) : Option (List Arg) := match a with
  | ⟨po, ps, va, ko, _, kw, _⟩ => match po with
    | [] => match va with
      | none => match ko with
        | [] => match kw with
          | none => some ps
          | some _ => none
        | _ :: _ => none
      | some _ => none
    | _ :: _ => none
theorem asPars_eq {a : Arguments} {ps : List Arg} (e : asPars a = some ps) : ∃ kd df, a = ⟨[], ps, none, [], kd, none, df⟩ := by
  obtain ⟨po, ps', va, ko, kd, kw, df⟩ := a
  cases po with
  | cons => exact (nn e).elim
  | nil =>
    cases va with
    | some => exact (nn e).elim
    | none =>
      cases ko with
      | cons => exact (nn e).elim
      | nil =>
        cases kw with
        | some => exact (nn e).elim
        | none => obtain rfl := Option.some.inj e; exact ⟨kd, df, rfl⟩
noncomputable def asStmts (b : FuncBody) : Option (List Stmt) := match b with
  | .stmts b => some b
  | _ => none
theorem asStmts_eq {b : FuncBody} {l : List Stmt} (e : asStmts b = some l) : b = .stmts l := by
  cases b with
  | stmts => exact congrArg FuncBody.stmts (Option.some.inj e)
  | _ => exact (nn e).elim
noncomputable def isFn (k : ScopeKind) : Bool := match k with
  | .function => true
  | _ => false
theorem isFn_eq {k : ScopeKind} (e : isFn k = true) : k = .function := by cases k <;> first | rfl | exact (ff e).elim
noncomputable def isNil {α : Type} (l : List α) : Bool := match l with
  | [] => true
  | _ :: _ => false
theorem isNil_eq {α : Type} {l : List α} (e : isNil l = true) : l = [] := by cases l <;> first | rfl | exact (ff e).elim
noncomputable def mkFn (K : Frag) (a : Addr) : Option Fn := ifO (K.lookup a) none fun o => ifO (asFunc o) none fun fd => ifO (asStmts fd.body) none fun b => ifO (asPars fd.params) none fun ps =>
  ifB (isFn fd.scope.kind) (ifB fd.scope.isGenerator none (ifB fd.scope.isCoroutine none (ifB (isNil fd.closure) (ifB (Nat.beq fd.globals mainGlobals) (ifB (Nat.beq fd.builtins builtinsNs) (ifB (codeIn K fd.code fd.qualname) (ifB (okNames fd.scope.names)
    (ifO (dfltsOf K fd.defaults) none fun d => ifO (paramsIn fd.scope.names ps) none fun l => ifB (apart (fstN l)) (ifB (apart (cellsIn fd.scope.names)) (ifB (Nat.ble d.length l.length) (some ⟨l, cellsIn fd.scope.names, d, b, fd.scope, codeNum fd.code⟩) none) none) none)
    none) none) none) none) none))) none
noncomputable def clsOk (K : Frag) (C : Addr) : Bool := hasDictIn K C && plainGet K C "" && plainOver K C && (match findIn K (.ref C) "__setattr__" with
  | some (some (.builtin i)) => i == "object.__setattr__"
  | _ => false)
noncomputable def attrIn (K : Frag) (C : Addr) (x : Str) : Bool := ifB (clsOk K C) (ifO (findIn K (.ref C) x) false fun r => ifO r (okS x) fun _ => false) false
noncomputable def methIn (K : Frag) (C : Addr) (x : Str) : Option Addr := ifO (findIn K (.ref C) x) none fun r => ifO r none fun v => ifO (isFrag v) none fun f => ifO (K.lookup f) none fun o => ifB (isTyp "function" o.cls) (ifO (asFunc o) none fun _ => ifB (okS x) (ifB (clsOk K C) (some f) none) none) none
noncomputable def initIn (K : Frag) (C : Addr) : Option Addr := ifB (makesIn K C) (ifO (methIn K C "__init__") none fun f => ifO (mkFn K f) none fun _ => some f) none
noncomputable def mkPg (K : Frag) (sum : Addr → Option (List V → EM V)) (lam : Nat) : Pg := ⟨glob K, oldO K, mkFn K, initIn K, attrIn K, methIn K, sum, lam⟩
noncomputable def st0 : St := ⟨0, 0, .nil, [], []⟩
/-- a draw: forced, free, or any -/
noncomputable def takeSum (vs : List V) : EM V := match vs with
  | [.ref i, .int (.ofNat n)] => fun k s => look i (fun o s => match o with
    | .src fd => ifB (Nat.ble 1 n) (ifB (Nat.ble n 1000) (match fd with
      | [] => match Nat.ble n 12 with
        | true => EM.any ((List.range n).map fun (k : Nat) => V.int (k : Int)) k s
        | false => newSym k s
      | p :: r => ifB (Nat.beq n p.1) (ifB (Nat.blt p.2 n) (store i (.src r) (fun _ s => k (.int (.ofNat p.2)) s) s) (store i (.src r) (fun _ s => newSym k s) s)) false) false) false
    | _ => false) s
  | _ => EM.fail
end
end Sx
end
section
open PySem PySem.W PyProof.Rows
namespace Sx
theorem c8 {p : Nat → Prop} (h0 : p 0) (h1 : p 1) (h2 : p 2) (h3 : p 3) (h4 : p 4) (h5 : p 5) (h6 : p 6) (h7 : p 7) : ∀ i, i < 8 → p i
  | 0, _ => h0
  | 1, _ => h1
  | 2, _ => h2
  | 3, _ => h3
  | 4, _ => h4
  | 5, _ => h5
  | 6, _ => h6
  | 7, _ => h7
  | i + 8, h => absurd h (Nat.not_lt.mpr (Nat.le_add_left 8 i))
theorem ifB_beq {α : Type} {i j : Nat} {x y : α} : ifB (Nat.beq i j) x y = if i = j then x else y := by
  by_cases h : i = j
  · rw [if_pos h, show Nat.beq i j = true from Nat.beq_eq.mpr h]
  · rw [if_neg h, show Nat.beq i j = false from Bool.eq_false_iff.mpr fun q => h (Nat.beq_eq.mp q)]
theorem eq8 {i j : Nat} : (i = j) = (Nat.div i 8 = Nat.div j 8 ∧ Nat.mod i 8 = Nat.mod j 8) := by
  refine propext ⟨fun h => h ▸ ⟨rfl, rfl⟩, fun h => ?_⟩
  rw [← Nat.div_add_mod i 8, ← Nat.div_add_mod j 8, show i / 8 = j / 8 from h.1, show i % 8 = j % 8 from h.2]
theorem m8 (i : Nat) : Nat.mod i 8 < 8 := Nat.mod_lt i (by decide)
theorem T3.put_node {a b c d e f g h o : Option O} : ∀ i, i < 8 → T3.put (.node a b c d e f g h) i o = .node (ifB (Nat.beq i 0) (o) a) (ifB (Nat.beq i 1) (o) b) (ifB (Nat.beq i 2) (o) c) (ifB (Nat.beq i 3) (o) d) (ifB (Nat.beq i 4) (o) e) (ifB (Nat.beq i 5) (o) f) (ifB (Nat.beq i 6) (o) g) (ifB (Nat.beq i 7) (o) h) := by
  refine c8 ?_ ?_ ?_ ?_ ?_ ?_ ?_ ?_ <;> rfl
theorem T3.get_node0 : ∀ j, j < 8 → T3.get (.node none none none none none none none none) j = none := by
  refine c8 ?_ ?_ ?_ ?_ ?_ ?_ ?_ ?_ <;> rfl
theorem T3.get_put (t : T3) {i j : Nat} (hi : i < 8) (hj : j < 8) (o : Option O) : (t.put i o).get j = if i = j then o else t.get j := by
  have key : ∀ a b c d e f g h : Option O, (T3.put (.node a b c d e f g h) i o).get j = if i = j then o else T3.get (.node a b c d e f g h) j := by
    intro a b c d e f g h
    rw [T3.put_node i hi]
    refine c8 (p := fun j => T3.get _ j = if i = j then o else T3.get (.node a b c d e f g h) j) ?_ ?_ ?_ ?_ ?_ ?_ ?_ ?_ j hj <;> exact ifB_beq
  cases t with
  | nil =>
    refine (key none none none none none none none none).trans ?_
    rw [T3.get_node0 j hj]; rfl
  | node a b c d e f g h => exact key a b c d e f g h
theorem T3.get_nil (j : Nat) : T3.get .nil j = none := rfl
theorem T2.put_node {a b c d e f g h : T3} {o : Option O} (i : Nat) : T2.put (.node a b c d e f g h) i o = .node (ifB (Nat.beq (Nat.mod i 8) 0) (a.put (Nat.div i 8) o) a) (ifB (Nat.beq (Nat.mod i 8) 1) (b.put (Nat.div i 8) o) b) (ifB (Nat.beq (Nat.mod i 8) 2) (c.put (Nat.div i 8) o) c) (ifB (Nat.beq (Nat.mod i 8) 3) (d.put (Nat.div i 8) o) d) (ifB (Nat.beq (Nat.mod i 8) 4) (e.put (Nat.div i 8) o) e) (ifB (Nat.beq (Nat.mod i 8) 5) (f.put (Nat.div i 8) o) f) (ifB (Nat.beq (Nat.mod i 8) 6) (g.put (Nat.div i 8) o) g) (ifB (Nat.beq (Nat.mod i 8) 7) (h.put (Nat.div i 8) o) h) := by
  show sel8 (Nat.mod i 8) _ _ _ _ _ _ _ _ = _
  have hr := m8 i
  revert hr
  generalize Nat.mod i 8 = r
  revert r
  refine c8 ?_ ?_ ?_ ?_ ?_ ?_ ?_ ?_ <;> rfl
theorem T2.get_node0 (j : Nat) : T2.get (.node .nil .nil .nil .nil .nil .nil .nil .nil) j = none := by
  show T3.get (sel8 (Nat.mod j 8) _ _ _ _ _ _ _ _) _ = _
  have hr := m8 j
  revert hr
  generalize Nat.mod j 8 = r
  revert r
  refine c8 ?_ ?_ ?_ ?_ ?_ ?_ ?_ ?_ <;> rfl
theorem T2.ifone {x : T3} {r c q q' : Nat} {o : Option O} (hq : q < 8) (hq' : q' < 8) : (ifB (Nat.beq r c) (x.put q o) x).get q' = if q = q' ∧ r = c then o else x.get q' := by
  rw [ifB_beq]
  by_cases h : r = c
  · simp only [h, if_true, and_true]; exact T3.get_put x hq hq' o
  · simp only [h, if_false, and_false]
theorem T2.get_put (t : T2) {i j : Nat} (hi : i < 64) (hj : j < 64) (o : Option O) : (t.put i o).get j = if i = j then o else t.get j := by
  have hi' : Nat.div i 8 < 8 := Nat.div_lt_of_lt_mul hi
  have hj' : Nat.div j 8 < 8 := Nat.div_lt_of_lt_mul hj
  have key : ∀ a b c d e f g h : T3, (T2.put (.node a b c d e f g h) i o).get j = if i = j then o else T2.get (.node a b c d e f g h) j := by
    intro a b c d e f g h
    rw [T2.put_node i]
    simp only [eq8 (i := i) (j := j)]
    show T3.get (sel8 (Nat.mod j 8) _ _ _ _ _ _ _ _) _ = ite _ _ (T3.get (sel8 (Nat.mod j 8) _ _ _ _ _ _ _ _) _)
    have hr := m8 j
    revert hr
    generalize Nat.mod j 8 = r
    revert r
    refine c8 ?_ ?_ ?_ ?_ ?_ ?_ ?_ ?_ <;> exact T2.ifone hi' hj'
  cases t with
  | nil =>
    refine (key .nil .nil .nil .nil .nil .nil .nil .nil).trans ?_
    rw [T2.get_node0 j]; rfl
  | node a b c d e f g h => exact key a b c d e f g h
theorem T.put_node {a b c d e f g h : T2} {o : Option O} (i : Nat) : T.put (.node a b c d e f g h) i o = .node (ifB (Nat.beq (Nat.mod i 8) 0) (a.put (Nat.div i 8) o) a) (ifB (Nat.beq (Nat.mod i 8) 1) (b.put (Nat.div i 8) o) b) (ifB (Nat.beq (Nat.mod i 8) 2) (c.put (Nat.div i 8) o) c) (ifB (Nat.beq (Nat.mod i 8) 3) (d.put (Nat.div i 8) o) d) (ifB (Nat.beq (Nat.mod i 8) 4) (e.put (Nat.div i 8) o) e) (ifB (Nat.beq (Nat.mod i 8) 5) (f.put (Nat.div i 8) o) f) (ifB (Nat.beq (Nat.mod i 8) 6) (g.put (Nat.div i 8) o) g) (ifB (Nat.beq (Nat.mod i 8) 7) (h.put (Nat.div i 8) o) h) := by
  show sel8 (Nat.mod i 8) _ _ _ _ _ _ _ _ = _
  have hr := m8 i
  revert hr
  generalize Nat.mod i 8 = r
  revert r
  refine c8 ?_ ?_ ?_ ?_ ?_ ?_ ?_ ?_ <;> rfl
theorem T.get_node0 (j : Nat) : T.get (.node .nil .nil .nil .nil .nil .nil .nil .nil) j = none := by
  show T2.get (sel8 (Nat.mod j 8) _ _ _ _ _ _ _ _) _ = _
  have hr := m8 j
  revert hr
  generalize Nat.mod j 8 = r
  revert r
  refine c8 ?_ ?_ ?_ ?_ ?_ ?_ ?_ ?_ <;> rfl
theorem T.ifone {x : T2} {r c q q' : Nat} {o : Option O} (hq : q < 64) (hq' : q' < 64) : (ifB (Nat.beq r c) (x.put q o) x).get q' = if q = q' ∧ r = c then o else x.get q' := by
  rw [ifB_beq]
  by_cases h : r = c
  · simp only [h, if_true, and_true]; exact T2.get_put x hq hq' o
  · simp only [h, if_false, and_false]
theorem T.get_put (t : T) {i j : Nat} (hi : i < 512) (hj : j < 512) (o : Option O) : (t.put i o).get j = if i = j then o else t.get j := by
  have hi' : Nat.div i 8 < 64 := Nat.div_lt_of_lt_mul hi
  have hj' : Nat.div j 8 < 64 := Nat.div_lt_of_lt_mul hj
  have key : ∀ a b c d e f g h : T2, (T.put (.node a b c d e f g h) i o).get j = if i = j then o else T.get (.node a b c d e f g h) j := by
    intro a b c d e f g h
    rw [T.put_node i]
    simp only [eq8 (i := i) (j := j)]
    show T2.get (sel8 (Nat.mod j 8) _ _ _ _ _ _ _ _) _ = ite _ _ (T2.get (sel8 (Nat.mod j 8) _ _ _ _ _ _ _ _) _)
    have hr := m8 j
    revert hr
    generalize Nat.mod j 8 = r
    revert r
    refine c8 ?_ ?_ ?_ ?_ ?_ ?_ ?_ ?_ <;> exact T.ifone hi' hj'
  cases t with
  | nil =>
    refine (key .nil .nil .nil .nil .nil .nil .nil .nil).trans ?_
    rw [T.get_node0 j]; rfl
  | node a b c d e f g h => exact key a b c d e f g h
theorem T.get_nil (j : Nat) : T.get .nil j = none := rfl

/-! the quick choices -/
theorem ifB_true {α : Type} (t f : α) : ifB true t f = t := rfl
theorem ifB_false {α : Type} (t f : α) : ifB false t f = f := rfl
theorem ifO_none {α β : Type} (n : β) (f : α → β) : ifO none n f = n := rfl
theorem ifO_some {α β : Type} (a : α) (n : β) (f : α → β) : ifO (some a) n f = f a := rfl
theorem ifB_ff {b f : Bool} (h : ifB b f false = true) : b = true ∧ f = true := by (first | exact (ff b).elim | exact (nn b).elim | cases b) <;> first | exact ⟨rfl, h⟩ | (first | exact (ff h).elim | exact (nn h).elim | cases h)
theorem ifO_ff {α : Type} {o : Option α} {f : α → Bool} (h : ifO o false f = true) : ∃ a, o = some a ∧ f a = true := by (first | exact (ff o).elim | exact (nn o).elim | cases o) <;> first | exact ⟨_, rfl, h⟩ | (first | exact (ff h).elim | exact (nn h).elim | cases h)

/-! texts and their numbers -/
theorem sidL_cons (c : Nat) (r : List Nat) : sidL (c :: r) = c + 1 + 2097152 * sidL r := rfl
theorem okL_cons (c : Nat) (r : List Nat) : okL (c :: r) = ifB (Nat.blt c 1114112) (okL r) false := rfl
theorem sidL_inj : ∀ {a b : List Nat}, okL a = true → okL b = true → sidL a = sidL b → a = b
  | [], [], _, _, _ => rfl
  | [], c :: r, _, _, h => by rw [sidL_cons] at h; change 0 = _ at h; omega
  | c :: r, [], _, _, h => by rw [sidL_cons] at h; change _ = 0 at h; omega
  | c :: r, d :: q, h1, h2, h => by
    rw [okL_cons] at h1 h2
    obtain ⟨a1, b1⟩ := ifB_ff h1
    obtain ⟨a2, b2⟩ := ifB_ff h2
    have c1 := Nat.blt_eq.mp a1
    have c2 := Nat.blt_eq.mp a2
    rw [sidL_cons, sidL_cons] at h
    have : c = d := by omega
    subst this
    rw [sidL_inj b1 b2 (by omega)]
theorem sid_inj {a b : Str} (ha : okS a = true) (hb : okS b = true) (h : sid a = sid b) : a = b := by
  have e := sidL_inj ha hb h
  obtain ⟨⟨la⟩⟩ := a
  obtain ⟨⟨lb⟩⟩ := b
  have e : la = lb := e
  rw [e]
theorem sEq_eq {a b : Str} (h : sEq a b = true) : a = b ∧ okS a = true ∧ okS b = true := by
  unfold sEq at h
  split at h
  · rename_i h1 h2; exact ⟨sid_inj h1 h2 (Nat.beq_eq.mp h), h1, h2⟩
  · (first | exact (ff h).elim | exact (nn h).elim | cases h)
theorem lk_nil {β : Type} (x : Nat) : lk (β := β) x [] = none := rfl
theorem lk_cons {β : Type} (x : Nat) (p : Nat × β) (r : List (Nat × β)) : lk x (p :: r) = if x = p.1 then some p.2 else lk x r := by
  show ifB (Nat.beq x p.1) _ _ = _
  by_cases h : x = p.1
  · rw [if_pos h, show Nat.beq x p.1 = true from Nat.beq_eq.mpr h]
  · rw [if_neg h, show Nat.beq x p.1 = false from by cases q : Nat.beq x p.1 with | false => rfl | true => exact absurd (Nat.beq_eq.mp q) h]; rfl
theorem setK_cons {β : Type} (x : Nat) (v : β) (p : Nat × β) (r : List (Nat × β)) : setK x v (p :: r) = if x = p.1 then (x, v) :: r else p :: setK x v r := by
  show ifB (Nat.beq x p.1) _ _ = _
  by_cases h : x = p.1
  · rw [if_pos h, show Nat.beq x p.1 = true from Nat.beq_eq.mpr h]
  · rw [if_neg h, show Nat.beq x p.1 = false from by cases q : Nat.beq x p.1 with | false => rfl | true => exact absurd (Nat.beq_eq.mp q) h]; rfl
theorem lk_setK {β : Type} (x y : Nat) (v : β) : ∀ l : List (Nat × β), lk y (setK x v l) = if y = x then some v else lk y l
  | [] => by show lk y [(x, v)] = _; rw [lk_cons]
  | p :: r => by
    rw [setK_cons]
    by_cases h : x = p.1
    · rw [if_pos h, lk_cons, lk_cons]
      by_cases q : y = x
      · simp [q]
      · rw [if_neg q, if_neg q, if_neg (fun z => q (by rw [z, ← h]))]
    · rw [if_neg h, lk_cons, lk_cons, lk_setK x y v r]
      by_cases q : y = x
      · rw [if_pos q, if_neg (by rw [q]; exact h), if_pos q]
      · rw [if_neg q, if_neg q]
theorem kindOf_lookup {x : Str} : ∀ {l : List (Str × NameKind)} {k : NameKind}, kindOf x l = some k → okS x = true ∧ l.lookup x = some k
  | [], k, h => by (first | exact (ff h).elim | exact (nn h).elim | cases h)
  | p :: r, k, h => by
    unfold kindOf at h
    split at h
    · rename_i e
      obtain ⟨e, ox, _⟩ := sEq_eq e
      (first | exact (ff h).elim | exact (nn h).elim | cases h)
      refine ⟨ox, ?_⟩
      obtain ⟨p1, p2⟩ := p
      dsimp only at e ⊢
      subst e
      simp [List.lookup]
    · rename_i e
      obtain ⟨ox, ih⟩ := kindOf_lookup h
      refine ⟨ox, ?_⟩
      have ne : (x == p.1) = false := by
        cases q : (x == p.1) with
        | false => rfl
        | true =>
          have := beq_iff_eq.mp q
          subst this
          unfold sEq at e
          rw [ox] at e
          have : Nat.beq (sid p.1) (sid p.1) = true := Nat.beq_refl _
          simp [this] at e
      obtain ⟨p1, p2⟩ := p
      simp only [List.lookup]
      rw [ne]
      exact ih
end Sx
end
section
open PySem PySem.W PyProof.Rows
namespace Sx
structure Gl where
  prog : Program
  w : World
  K : Frag
  P : Pg
  gens : Array GenState
  drawn : Drawn
  os : OsState
  /-- an address that is free to change, and what stays true of its object -/
  tbl : Addr
  tok : Obj → Prop
  /-- what was there before, and stays -/
  old : Heap
  /-- the code that holds a lambda; its table of codes lies at tbl -/
  lam : Addr
  /-- a list that stays as it is -/
  scr : Obj
structure GOk (G : Gl) : Prop where
  kin : G.K.In G.old
  lim : G.old.NoLimit
  bn : ∃ mb, G.old.Ns builtinsNs mb ∧ ∀ x : Str, x ≠ "__name__" → mb x = bootBuiltins x
  pg : ∃ sm, G.P = mkPg G.K sm G.lam
  tok : G.tok = fun o => ∃ ps, o = tabObj ps ∧ TriplesOk ps.toList
  hd : CodeHd G.old G.lam G.tbl
  bm : ∃ mg, G.old.Ns mainGlobals mg ∧ G.old.BuiltinsAt mg G.tbl
  sm : ∃ o, G.old.get? sysModules = some o
/-- where the numbered objects lie, and what the signs stand for -/
structure Wm where
  ρ : List Addr
  σ : List Int
noncomputable def Wm.Le (m m' : Wm) : Prop := (∃ r, m'.ρ = m.ρ ++ r) ∧ ∃ r, m'.σ = m.σ ++ r
theorem Wm.Le.refl (m : Wm) : m.Le m := ⟨⟨[], by simp⟩, ⟨[], by simp⟩⟩
theorem Wm.Le.trans {a b c : Wm} (x : a.Le b) (y : b.Le c) : a.Le c := by
  obtain ⟨⟨r, e⟩, ⟨q, d⟩⟩ := x
  obtain ⟨⟨r', e'⟩, ⟨q', d'⟩⟩ := y
  exact ⟨⟨r ++ r', by rw [e', e, List.append_assoc]⟩, ⟨q ++ q', by rw [d', d, List.append_assoc]⟩⟩
theorem Wm.Le.at {m m' : Wm} (x : m.Le m') {i : Nat} {a : Addr} (h : m.ρ[i]? = some a) : m'.ρ[i]? = some a := by
  obtain ⟨⟨r, e⟩, _⟩ := x
  rw [e, List.getElem?_append_left (List.getElem?_eq_some_iff.mp h).1]; exact h
theorem Wm.Le.sy {m m' : Wm} (x : m.Le m') {i : Nat} {a : Int} (h : m.σ[i]? = some a) : m'.σ[i]? = some a := by
  obtain ⟨_, ⟨r, e⟩⟩ := x
  rw [e, List.getElem?_append_left (List.getElem?_eq_some_iff.mp h).1]; exact h
theorem Wm.Le.mem {m m' : Wm} (x : m.Le m') {a : Addr} (h : a ∈ m.ρ) : a ∈ m'.ρ := by
  obtain ⟨⟨r, e⟩, _⟩ := x
  rw [e]; exact List.mem_append_left _ h

noncomputable def VRel (m : Wm) : V → Value → Prop
  | .none, v => v = .none
  | .tt b, v => v = .bool b
  | .int i, v => ∃ t, v = .int i t
  | .sym k, v => ∃ i t, m.σ[k]? = some i ∧ v = .int i t
  | .str n, v => ∃ x t, okS x = true ∧ sid x = n ∧ v = .str x t
  | .ref i, v => ∃ a, m.ρ[i]? = some a ∧ v = .ref a
  | .old a, v => v = .ref a
  | .bi b, v => v = b.val
theorem VRel.mono {m m' : Wm} (l : m.Le m') {x : V} {v : Value} (h : VRel m x v) : VRel m' x v := by
  (first | exact (ff x).elim | exact (nn x).elim | cases x) <;> try exact h
  · obtain ⟨i, t, a, b⟩ := h; exact ⟨i, t, l.sy a, b⟩
  · obtain ⟨a, b, c⟩ := h; exact ⟨a, l.at b, c⟩
noncomputable def VsRel (m : Wm) : List V → List Value → Prop
  | [], [] => True
  | x :: xs, v :: vs => VRel m x v ∧ VsRel m xs vs
  | _, _ => False
theorem VsRel.mono {m m' : Wm} (l : m.Le m') : ∀ {xs : List V} {vs : List Value}, VsRel m xs vs → VsRel m' xs vs
  | [], [], _ => trivial
  | _ :: _, _ :: _, ⟨a, b⟩ => ⟨a.mono l, b.mono l⟩
theorem VsRel.length {m : Wm} : ∀ {xs : List V} {vs : List Value}, VsRel m xs vs → xs.length = vs.length
  | [], [], _ => rfl
  | _ :: _, _ :: _, ⟨_, b⟩ => by rw [List.length_cons, List.length_cons, b.length]
theorem VsRel.append {m : Wm} : ∀ {xs ys : List V} {vs ws : List Value}, VsRel m xs vs → VsRel m ys ws → VsRel m (xs ++ ys) (vs ++ ws)
  | [], _, [], _, _, h => h
  | _ :: _, _, _ :: _, _, ⟨a, b⟩, h => ⟨a, b.append h⟩
theorem VsRel.nth {m : Wm} : ∀ {xs : List V} {vs : List Value} {i : Nat} {x : V}, VsRel m xs vs → nthV xs i = some x → ∃ v, vs[i]? = some v ∧ VRel m x v
  | y :: ys, v :: vs, 0, x, h, e => by (first | exact (ff e).elim | exact (nn e).elim | cases e); exact ⟨v, rfl, h.1⟩
  | y :: ys, v :: vs, i + 1, x, h, e => by obtain ⟨w, a, b⟩ := VsRel.nth (i := i) h.2 e; exact ⟨w, by simpa using a, b⟩
theorem VsRel.nth_none {m : Wm} : ∀ {xs : List V} {vs : List Value} {i : Nat}, VsRel m xs vs → nthV xs i = none → vs[i]? = none
  | [], [], _, _, _ => by simp
  | y :: ys, v :: vs, 0, h, e => by (first | exact (ff e).elim | exact (nn e).elim | cases e)
  | y :: ys, v :: vs, i + 1, h, e => by have := VsRel.nth_none (i := i) h.2 e; simpa using this

noncomputable def KStr (x : Str) (v : V) : Prop := okS x = true ∧ v = .str (sid x)
noncomputable def KInt (i : Int) (v : V) : Prop := v = .int i
noncomputable def EsRel {K : Type} (kk : K → V → Prop) (m : Wm) : List (V × V) → List (K × Value) → Prop
  | [], [] => True
  | e :: es, p :: ps => kk p.1 e.1 ∧ VRel m e.2 p.2 ∧ EsRel kk m es ps
  | _, _ => False
theorem EsRel.mono {K : Type} {kk : K → V → Prop} {m m' : Wm} (l : m.Le m') : ∀ {xs : List (V × V)} {vs : List (K × Value)}, EsRel kk m xs vs → EsRel kk m' xs vs
  | [], [], _ => trivial
  | _ :: _, _ :: _, ⟨a, b, c⟩ => ⟨a, b.mono l, c.mono l⟩
noncomputable def IsDict {prog : Program} {w : World} {K : Type} [DecidableEq K] (knd : PySem.KeyKind prog w K) (ob : Obj) (kvs : List (K × Value)) : Prop :=
  ob.ExactDict ∧ ∃ es ep, ob.data = .dict es ep ∧ PySem.KeysOf knd es ∧ PySem.Pairs knd es.toList kvs ∧ (kvs.map (·.1)).Nodup
/-- what a draw gives, and what it leaves -/
noncomputable def drawOf (n a b : Nat) : Nat := if 0 < a then a % n else (b * 39373 + 7) % 2147483647 * ((b * 39373 + 7) % 2147483647) % 2147483629 / 32 % n
noncomputable def leftA (n a : Nat) : Nat := if 0 < a then a / n else a
noncomputable def leftB (a b : Nat) : Nat := if 0 < a then b else (b * 39373 + 7) % 2147483647
/-- the draws to come are these (or free, where the place is too high) -/
noncomputable def Forced : List (Nat × Nat) → Nat → Nat → Prop
  | [], _, _ => True
  | (n, j) :: r, a, b => (j < n → drawOf n a b = j) ∧ Forced r (leftA n a) (leftB a b)

/-- a dict of names, and how many at the most -/
noncomputable def Nz (h : Heap) (a : Addr) (f : Str → Option Value) (n : Nat) : Prop :=
  ∃ o es ep, h.get? a = some o ∧ o.data = .dict es ep ∧ StrKeys es ∧ (∀ name, nsFind es name = f name) ∧ es.size ≤ n
theorem Nz.ns {h : Heap} {a : Addr} {f : Str → Option Value} {n : Nat} (x : Nz h a f n) : h.Ns a f := let ⟨o, es, ep, a, b, c, d, _⟩ := x; ⟨o, es, ep, a, b, c, d⟩
theorem Nz.extBut {h h' : Heap} {a b : Addr} {f : Str → Option Value} {n : Nat} (x : Nz h a f n) (hs : Heap.ExtBut b h h') (hab : a ≠ b) : Nz h' a f n := let ⟨o, es, ep, e, r⟩ := x; ⟨o, es, ep, hs a o hab e, r⟩
theorem Nz.keeps {h h' : Heap} {a : Addr} {f : Str → Option Value} {n : Nat} (x : Nz h a f n) (hk : ∀ b o, h.get? b = some o → h'.get? b = some o) : Nz h' a f n := let ⟨o, es, ep, e, r⟩ := x; ⟨o, es, ep, hk a o e, r⟩

noncomputable def ORel (G : Gl) (m : Wm) (fd : List (Nat × Nat)) (h : Heap) : O → Obj → Prop
  | .list xs, ob => ∃ items n, ob = { cls := .type "list", data := .seq items n } ∧ VsRel m xs items.toList
  | .tup xs, ob => ob.cls = .type "tuple" ∧ ∃ items n, ob.data = .seq items n ∧ VsRel m xs items.toList
  | .inst C d ms, ob => ∃ dx mm, m.ρ[d]? = some dx ∧ ob = instObj C dx ∧ Nz h dx mm ms.length ∧
      ∀ x, okS x = true → match lk (sid x) ms with
        | some v => ∃ w, mm x = some w ∧ VRel m v w
        | none => mm x = none
  | .own _, _ => True
  | .dict es, ob => (∃ kvs, IsDict (strKind G.prog G.w) ob kvs ∧ EsRel KStr m es kvs) ∨ (∃ kvs, IsDict (intKind G.prog G.w) ob kvs ∧ EsRel KInt m es kvs)
  | .fset, ob => ∃ ep t, ob = { cls := .type "frozenset", data := .set #[] ep t } ∧ t.fits 0 = true
  | .cell v, ob => (∃ w, ob.data = .cell w ∧ match v with
      | some x => ∃ y, w = some y ∧ VRel m x y
      | none => True)
  | .rng lo hi, ob => ∃ t u v, ob = { cls := .type "range", dict := none, data := .fields #[.int lo t, .int hi u, .int 1 v], slots := #[] }
  | .src fs, ob => ∃ (n a b : Nat) (t u : Tok), ob = { cls := .type "list", data := .seq #[.int a t, .int b u] n } ∧ b < 2147483647 ∧ Forced fs a b
  | .scr, ob => ob = G.scr ∧ ∃ (items : Array Value) (n : Nat) (ks : List Int), G.scr = { cls := .type "list", data := .seq items n } ∧ IntsAre items.toList ks ∧ ks.length ≤ 63
  | .fix ob0 xs, ob => ob = ob0 ∧ ∃ items n, ob0 = { cls := .type "list", data := .seq items n } ∧ VsRel m xs items.toList
  | .opq, _ => True
end Sx
end
section
open PySem PySem.W PyProof.Rows
namespace Sx
structure Base where
  h : Heap
  ρ₀ : List Addr
  L : Addr
structure Rel (G : Gl) (B : Base) (m : Wm) (st : St) (s : Shared) : Prop where
  len : m.ρ.length = st.n
  le : st.n ≤ 512
  syms : m.σ.length = st.k
  nodup : m.ρ.Nodup
  here : ∀ a ∈ m.ρ, ∃ o, s.heap.get? a = some o
  newer : ∀ a ∈ m.ρ, a ∈ B.ρ₀ ∨ B.h.get? a = none
  pre : ∀ a ∈ B.ρ₀, a ∈ m.ρ
  keep : ∀ b o, B.h.get? b = some o → b ∉ B.ρ₀ → b ≠ B.L → b ≠ G.tbl → s.heap.get? b = some o
  loc : ∃ f, s.heap.Ns B.L f ∧ ∀ x v, okS x = true → lk (sid x) st.fr = some v → ∃ w, f x = some w ∧ VRel m v w
  locFar : B.L ∉ m.ρ
  tblFar : G.tbl ∉ m.ρ ∧ B.L ≠ G.tbl
  tb : ∃ o, s.heap.get? G.tbl = some o ∧ G.tok o
  kb : ∀ a o, G.old.get? a = some o → B.h.get? a = some o ∧ a ∉ B.ρ₀ ∧ a ≠ B.L ∧ a ≠ G.tbl
  objs : ∀ i o, i < st.n → st.t.get i = some o → ∃ a ob, m.ρ[i]? = some a ∧ s.heap.get? a = some ob ∧ ORel G m st.fd s.heap o ob
  clean : ∀ i, st.n ≤ i → i < 512 → st.t.get i = none
  owns : ∀ j C d ms, j < st.n → st.t.get j = some (.inst C d ms) → d < st.n ∧ st.t.get d = some (.own j)
  gens : s.gens = G.gens
  drawn : s.drawn = G.drawn
  os : s.os = G.os

theorem clean_put {t : T} {n i : Nat} {o : Option O} (c : ∀ j, n ≤ j → j < 512 → t.get j = none) (hi : i < n) (le : n ≤ 512) : ∀ j, n ≤ j → j < 512 → (t.put i o).get j = none := fun j h1 h2 => by
  rw [T.get_put _ (Nat.lt_of_lt_of_le hi le) h2, if_neg (by omega)]; exact c j h1 h2
theorem clean_add {t : T} {n : Nat} {o : Option O} (c : ∀ j, n ≤ j → j < 512 → t.get j = none) (hn : n < 512) : ∀ j, n + 1 ≤ j → j < 512 → (t.put n o).get j = none := fun j h1 h2 => by
  rw [T.get_put _ hn h2, if_neg (by omega)]; exact c j (by omega) h2
variable {G : Gl} {B : Base} {m : Wm} {st : St} {s : Shared}
theorem Rel.old (R : Rel G B m st s) : ∀ a o, G.old.get? a = some o → s.heap.get? a = some o := fun a o e => by
  obtain ⟨x, y, z, w⟩ := R.kb a o e
  exact R.keep a o x y z w
theorem Rel.kin (R : Rel G B m st s) (g : GOk G) : G.K.In s.heap := g.kin.keeps R.old
theorem Rel.lim (R : Rel G B m st s) (g : GOk G) : s.heap.NoLimit := g.lim.keeps R.old
/-- nothing of ours lies at it -/
structure Far (G : Gl) (B : Base) (m : Wm) (a : Addr) : Prop where
  ρ : a ∉ m.ρ
  L : a ≠ B.L
  tbl : a ≠ G.tbl
  h : B.h.get? a = none
theorem Rel.far (R : Rel G B m st s) {a : Addr} (e : s.heap.get? a = none) : Far G B m a := by
  have n1 : a ∉ m.ρ := fun q => by obtain ⟨o, h⟩ := R.here a q; rw [e] at h; (first | exact (ff h).elim | exact (nn h).elim | cases h)
  have n2 : a ≠ B.L := fun q => by obtain ⟨f, ⟨o, _, _, h, _⟩, _⟩ := R.loc; rw [← q, e] at h; (first | exact (ff h).elim | exact (nn h).elim | cases h)
  have n3 : a ≠ G.tbl := fun q => by obtain ⟨o, h, _⟩ := R.tb; rw [← q, e] at h; (first | exact (ff h).elim | exact (nn h).elim | cases h)
  refine ⟨n1, n2, n3, ?_⟩
  cases q : B.h.get? a with
  | none => rfl
  | some o => have := R.keep a o q (fun z => n1 (R.pre a z)) n2 n3; rw [e] at this; (first | exact (ff this).elim | exact (nn this).elim | cases this)
theorem get?_size (h : Heap) : h.get? h.objs.size = none := by
  cases q : h.get? h.objs.size with
  | none => rfl
  | some o => exact absurd (Heap.lt_size q) (Nat.lt_irrefl _)
theorem Rel.farNew (R : Rel G B m st s) : Far G B m s.heap.objs.size := R.far (get?_size _)

theorem ORel.mono {m' : Wm} {fd : List (Nat × Nat)} {h h' : Heap} {o : O} {ob : Obj} (l : m.Le m') (k : ∀ C d ms dx f, o = .inst C d ms → m.ρ[d]? = some dx → Nz h dx f ms.length → Nz h' dx f ms.length) (x : ORel G m fd h o ob) : ORel G m' fd h' o ob := by
  cases o with
  | list xs => obtain ⟨i, n, a, b⟩ := x; exact ⟨i, n, a, b.mono l⟩
  | tup xs => obtain ⟨c, i, n, a, b⟩ := x; exact ⟨c, i, n, a, b.mono l⟩
  | inst C d ms =>
    obtain ⟨dx, f, a, b, c, e⟩ := x
    refine ⟨dx, f, l.at a, b, k C d ms dx f rfl a c, fun y hy => ?_⟩
    have := e y hy
    split at this
    · obtain ⟨w, p, q⟩ := this; exact ⟨w, p, q.mono l⟩
    · exact this
  | dict es => rcases x with ⟨kvs, a, b⟩ | ⟨kvs, a, b⟩
               · exact .inl ⟨kvs, a, b.mono l⟩
               · exact .inr ⟨kvs, a, b.mono l⟩
  | cell v =>
    obtain ⟨w, a, b⟩ := x
    refine ⟨w, a, ?_⟩
    cases v with
    | none => exact b
    | some x => obtain ⟨y, p, q⟩ := b; exact ⟨y, p, q.mono l⟩
  | fix ob0 xs => obtain ⟨z, i, n, a, b⟩ := x; exact ⟨z, i, n, a, b.mono l⟩
  | _ => exact x

/-- objects of the running function's frame and of other things change only where nothing of ours lies -/
theorem Rel.but (R : Rel G B m st s) {a : Addr} {h' : Heap} {t : Nat} (F : Far G B m a) (k : ∀ b o, b ≠ a → s.heap.get? b = some o → h'.get? b = some o) : Rel G B m st { s with heap := h', toks := t } := by
  have nm : ∀ {b}, b ∈ m.ρ → b ≠ a := fun h e => F.ρ (e ▸ h)
  refine { R with here := ?_, keep := ?_, loc := ?_, tb := ?_, objs := ?_ }
  · intro b hb; obtain ⟨o, e⟩ := R.here b hb; exact ⟨o, k b o (nm hb) e⟩
  · intro b o e n1 n2 n3; exact k b o (fun q => by rw [q, F.h] at e; (first | exact (ff e).elim | exact (nn e).elim | cases e)) (R.keep b o e n1 n2 n3)
  · obtain ⟨f, x, y⟩ := R.loc; exact ⟨f, x.extBut (fun b o n e => k b o n e) (Ne.symm F.L), y⟩
  · obtain ⟨o, x, y⟩ := R.tb; exact ⟨o, k _ _ (Ne.symm F.tbl) x, y⟩
  · intro i o hi e
    obtain ⟨b, ob, x, y, z⟩ := R.objs i o hi e
    exact ⟨b, ob, x, k _ _ (nm (List.mem_of_getElem? x)) y, z.mono (Wm.Le.refl m) (fun _ _ _ dx f _ h1 h2 => h2.extBut (fun b o n e => k b o n e) (nm (List.mem_of_getElem? h1)))⟩
theorem Rel.ext (R : Rel G B m st s) {h' : Heap} {t : Nat} (k : ∀ b o, s.heap.get? b = some o → h'.get? b = some o) : Rel G B m st { s with heap := h', toks := t } :=
  R.but R.farNew fun b o _ e => k b o e
theorem Rel.toks (R : Rel G B m st s) (t : Nat) : Rel G B m st { s with toks := t } := R.ext (h' := s.heap) fun _ _ e => e

noncomputable def O.isInst : O → Bool
  | .inst .. => true
  | _ => false
noncomputable def O.isOwn : O → Bool
  | .own _ => true
  | _ => false
theorem idx_inj : ∀ {l : List Addr} (_n : l.Nodup) {i j : Nat} {a : Addr} (_hi : l[i]? = some a) (_hj : l[j]? = some a), i = j
  | [], _, _, _, _, h, _ => by simp at h
  | b :: r, n, 0, 0, a, _, _ => rfl
  | b :: r, n, 0, j + 1, a, h, q => by
    simp at h q; exact absurd (h ▸ List.mem_of_getElem? q) (List.nodup_cons.mp n).1
  | b :: r, n, i + 1, 0, a, h, q => by
    simp at h q; exact absurd (q ▸ List.mem_of_getElem? h) (List.nodup_cons.mp n).1
  | b :: r, n, i + 1, j + 1, a, h, q => by
    simp at h q; rw [idx_inj (List.nodup_cons.mp n).2 h q]
theorem Rel.lt (R : Rel G B m st s) {i : Nat} {a : Addr} (h : m.ρ[i]? = some a) : i < st.n := R.len ▸ (List.getElem?_eq_some_iff.mp h).1

theorem Rel.upd (R : Rel G B m st s) {i : Nat} {a : Addr} {o₀ o : O} {ob : Obj} {h' : Heap} {t : Nat} (hi : m.ρ[i]? = some a) (h0 : st.t.get i = some o₀) (hn : o₀.isOwn = false) (hn' : o.isInst = false)
    (k : ∀ b o, b ≠ a → s.heap.get? b = some o → h'.get? b = some o) (e : h'.get? a = some ob) (x : ORel G m st.fd h' o ob) :
    Rel G B m ⟨st.n, st.k, st.t.put i (some o), st.fr, st.fd⟩ { s with heap := h', toks := t } := by
  have ha := List.mem_of_getElem? hi
  have ilt := R.lt hi
  have gp : ∀ j, j < st.n → (st.t.put i (some o)).get j = if i = j then some o else st.t.get j := fun j hj => T.get_put _ (Nat.lt_of_lt_of_le ilt R.le) (Nat.lt_of_lt_of_le hj R.le) _
  have nd : ∀ j C d ms, j < st.n → st.t.get j = some (.inst C d ms) → d ≠ i := fun j C d ms hj q z => by
    have := (R.owns j C d ms hj q).2
    rw [z, h0] at this; (first | exact (ff this).elim | exact (nn this).elim | cases this); (first | exact (ff hn).elim | exact (nn hn).elim | cases hn)
  refine { R with here := ?_, keep := ?_, loc := ?_, tb := ?_, objs := ?_, owns := ?_, clean := clean_put R.clean ilt R.le }
  · intro b hb
    by_cases q : b = a
    · exact ⟨ob, q ▸ e⟩
    · obtain ⟨o, e⟩ := R.here b hb; exact ⟨o, k b o q e⟩
  · intro b o' e' n1 n2 n3
    refine k b o' (fun q => ?_) (R.keep b o' e' n1 n2 n3)
    rcases R.newer a ha with z | z
    · exact n1 (q ▸ z)
    · rw [q, z] at e'; (first | exact (ff e').elim | exact (nn e').elim | cases e')
  · obtain ⟨f, x, y⟩ := R.loc; exact ⟨f, x.extBut (fun b o n e => k b o n e) (fun q => R.locFar (q ▸ ha)), y⟩
  · obtain ⟨o, x, y⟩ := R.tb; exact ⟨o, k _ _ (fun q => R.tblFar.1 (q ▸ ha)) x, y⟩
  · intro j o' hj q
    rw [gp j hj] at q
    split at q
    · rename_i ij; (first | exact (ff q).elim | exact (nn q).elim | cases q); subst ij; exact ⟨a, ob, hi, e, x⟩
    · rename_i ij
      obtain ⟨b, ob', x', y, z⟩ := R.objs j o' hj q
      refine ⟨b, ob', x', k _ _ (fun q => ij (idx_inj R.nodup hi (q ▸ x'))) y, z.mono (Wm.Le.refl m) (fun C d ms dx f e1 h1 h2 => h2.extBut (fun b o n e => k b o n e) fun q => ?_)⟩
      exact nd j C d ms hj (e1 ▸ ‹st.t.get j = some o'›) (idx_inj R.nodup (q ▸ h1) hi)
  · intro j C d ms hj q
    dsimp only at q ⊢
    rw [gp j hj] at q
    split at q
    · (first | exact (ff q).elim | exact (nn q).elim | cases q); (first | exact (ff hn').elim | exact (nn hn').elim | cases hn')
    · obtain ⟨p1, p2⟩ := R.owns j C d ms hj q
      refine ⟨p1, ?_⟩
      rw [gp d p1, if_neg (fun z => nd j C d ms hj q z.symm)]; exact p2
theorem Rel.attr (R : Rel G B m st s) {i d : Nat} {a dx C : Addr} {ms ms' : List (Nat × V)} {f' : Str → Option Value} {h' : Heap} {t : Nat} (hi : m.ρ[i]? = some a) (h0 : st.t.get i = some (.inst C d ms)) (hd : m.ρ[d]? = some dx)
    (k : ∀ b o, b ≠ dx → s.heap.get? b = some o → h'.get? b = some o) (e : Nz h' dx f' ms'.length)
    (x : ∀ x, okS x = true → match lk (sid x) ms' with
        | some v => ∃ w, f' x = some w ∧ VRel m v w
        | none => f' x = none) :
    Rel G B m ⟨st.n, st.k, st.t.put i (some (.inst C d ms')), st.fr, st.fd⟩ { s with heap := h', toks := t } := by
  have ha := List.mem_of_getElem? hi
  have hda := List.mem_of_getElem? hd
  have ilt := R.lt hi
  obtain ⟨dlt, downs⟩ := R.owns i C d ms ilt h0
  have di : d ≠ i := fun q => by rw [q, h0] at downs; (first | exact (ff downs).elim | exact (nn downs).elim | cases downs)
  have gp : ∀ j, j < st.n → (st.t.put i (some (.inst C d ms'))).get j = if i = j then some (.inst C d ms') else st.t.get j := fun j hj => T.get_put _ (Nat.lt_of_lt_of_le ilt R.le) (Nat.lt_of_lt_of_le hj R.le) _
  have nd : ∀ j C' d' ms, j ≠ i → j < st.n → st.t.get j = some (.inst C' d' ms) → d' ≠ d := fun j C' d' ms ne hj q z => by
    have := (R.owns j C' d' ms hj q).2
    rw [z, downs] at this; (first | exact (ff this).elim | exact (nn this).elim | cases this); exact ne rfl
  have adx : a ≠ dx := fun q => di (idx_inj R.nodup (q ▸ hd) hi)
  refine { R with here := ?_, keep := ?_, loc := ?_, tb := ?_, objs := ?_, owns := ?_, clean := clean_put R.clean ilt R.le }
  · intro b hb
    by_cases q : b = dx
    · obtain ⟨o, _, _, z, _⟩ := e; exact ⟨o, q ▸ z⟩
    · obtain ⟨o, e⟩ := R.here b hb; exact ⟨o, k b o q e⟩
  · intro b o' e' n1 n2 n3
    refine k b o' (fun q => ?_) (R.keep b o' e' n1 n2 n3)
    rcases R.newer dx hda with z | z
    · exact n1 (q ▸ z)
    · rw [q, z] at e'; (first | exact (ff e').elim | exact (nn e').elim | cases e')
  · obtain ⟨f, x, y⟩ := R.loc; exact ⟨f, x.extBut (fun b o n e => k b o n e) (fun q => R.locFar (q ▸ hda)), y⟩
  · obtain ⟨o, x, y⟩ := R.tb; exact ⟨o, k _ _ (fun q => R.tblFar.1 (q ▸ hda)) x, y⟩
  · intro j o' hj q
    rw [gp j hj] at q
    split at q
    · rename_i ij; (first | exact (ff q).elim | exact (nn q).elim | cases q); subst ij
      obtain ⟨b, ob, x', y, z⟩ := R.objs i _ hj h0
      obtain ⟨dx', f, z1, z2, z3, z4⟩ := z
      cases hi.symm.trans x'
      cases hd.symm.trans z1
      exact ⟨a, ob, hi, k _ _ adx y, dx, f', hd, z2, e, x⟩
    · rename_i ij
      obtain ⟨b, ob', x', y, z⟩ := R.objs j o' hj q
      by_cases bd : b = dx
      · subst bd
        have : j = d := idx_inj R.nodup x' hd
        subst this
        rw [downs] at q; (first | exact (ff q).elim | exact (nn q).elim | cases q)
        obtain ⟨o, _, _, z, _⟩ := e
        exact ⟨b, o, hd, z, trivial⟩
      · refine ⟨b, ob', x', k _ _ bd y, z.mono (Wm.Le.refl m) (fun C' d' ms dx' f e1 h1 h2 => h2.extBut (fun b o n e => k b o n e) fun q => ?_)⟩
        exact nd j C' d' ms (Ne.symm ij) hj (e1 ▸ ‹st.t.get j = some o'›) (idx_inj R.nodup (q ▸ h1) hd)
  · intro j C' d' ms'' hj q
    dsimp only at q ⊢
    rw [gp j hj] at q
    split at q
    · rename_i ij; (first | exact (ff q).elim | exact (nn q).elim | cases q); subst ij
      exact ⟨dlt, by rw [gp _ dlt, if_neg (Ne.symm di)]; exact downs⟩
    · rename_i ij
      obtain ⟨p1, p2⟩ := R.owns j C' d' ms'' hj q
      refine ⟨p1, ?_⟩
      rw [gp d' p1, if_neg (fun z => ?_)]
      · exact p2
      · rw [← z, h0] at p2; (first | exact (ff p2).elim | exact (nn p2).elim | cases p2)

noncomputable def Wm.add (m : Wm) (a : Addr) : Wm := ⟨m.ρ ++ [a], m.σ⟩
theorem Wm.le_add (m : Wm) (a : Addr) : m.Le (m.add a) := ⟨⟨[a], rfl⟩, ⟨[], by simp [Wm.add]⟩⟩
theorem Wm.add_at (m : Wm) (a : Addr) : (m.add a).ρ[m.ρ.length]? = some a := by simp [Wm.add]
theorem Rel.addFar (R : Rel G B m st s) {a : Addr} {o : O} {ob : Obj} {h' : Heap} {t : Nat} (F : Far G B m a) (hn : st.n < 512) (hi : o.isInst = false)
    (k : ∀ b o, s.heap.get? b = some o → h'.get? b = some o) (e : h'.get? a = some ob) (x : ORel G (m.add a) st.fd h' o ob) :
    Rel G B (m.add a) ⟨st.n + 1, st.k, st.t.put st.n (some o), st.fr, st.fd⟩ { s with heap := h', toks := t } := by
  have l := m.le_add a
  have gp : ∀ j, j < st.n + 1 → (st.t.put st.n (some o)).get j = if st.n = j then some o else st.t.get j := fun j hj => T.get_put _ hn (by omega) _
  have mem : ∀ {b}, b ∈ (m.add a).ρ → b ∈ m.ρ ∨ b = a := fun h => by
    rcases List.mem_append.mp h with h | h
    · exact .inl h
    · exact .inr (List.mem_singleton.mp h)
  refine { len := ?_, le := by show st.n + 1 ≤ 512; omega, syms := R.syms, nodup := ?_, here := ?_, newer := ?_, pre := fun b hb => l.mem (R.pre b hb), keep := fun b o h1 h2 h3 h4 => k _ _ (R.keep b o h1 h2 h3 h4), loc := ?_, locFar := ?_, tblFar := ?_,
           tb := ?_, kb := R.kb, objs := ?_, owns := ?_, gens := R.gens, drawn := R.drawn, os := R.os, clean := clean_add R.clean hn }
  · show (m.ρ ++ [a]).length = _; rw [List.length_append, R.len]; rfl
  · exact List.nodup_append.mpr ⟨R.nodup, by simp, fun b hb c hc => by rw [List.mem_singleton.mp hc]; exact fun q => F.ρ (q ▸ hb)⟩
  · intro b hb
    rcases mem hb with h | h
    · obtain ⟨o, e⟩ := R.here b h; exact ⟨o, k _ _ e⟩
    · exact ⟨ob, h ▸ e⟩
  · intro b hb
    rcases mem hb with h | h
    · exact R.newer b h
    · exact .inr (h ▸ F.h)
  · obtain ⟨f, x, y⟩ := R.loc; exact ⟨f, x.keeps k, fun z v h1 h2 => by obtain ⟨w, p, q⟩ := y z v h1 h2; exact ⟨w, p, q.mono l⟩⟩
  · intro h; rcases mem h with h | h
    · exact R.locFar h
    · exact F.L h.symm
  · refine ⟨fun h => ?_, R.tblFar.2⟩
    rcases mem h with h | h
    · exact R.tblFar.1 h
    · exact F.tbl h.symm
  · obtain ⟨o, x, y⟩ := R.tb; exact ⟨o, k _ _ x, y⟩
  · intro j o' hj q
    rw [gp j hj] at q
    split at q
    · rename_i ij; (first | exact (ff q).elim | exact (nn q).elim | cases q)
      refine ⟨a, ob, ?_, e, x⟩
      rw [← ij, ← R.len]; exact m.add_at a
    · rename_i ij
      obtain ⟨b, ob', x', y, z⟩ := R.objs j o' (by dsimp only at hj; omega) q
      exact ⟨b, ob', l.at x', k _ _ y, z.mono l fun _ _ _ dx f _ _ h2 => h2.keeps k⟩
  · intro j C d ms hj q
    dsimp only at q hj ⊢
    rw [gp j hj] at q
    split at q
    · (first | exact (ff q).elim | exact (nn q).elim | cases q); (first | exact (ff hi).elim | exact (nn hi).elim | cases hi)
    · obtain ⟨p1, p2⟩ := R.owns j C d ms (by omega) q
      refine ⟨by omega, ?_⟩
      rw [gp d (by omega), if_neg (by omega)]; exact p2
theorem Rel.add (R : Rel G B m st s) {a : Addr} {o : O} {ob : Obj} {h' : Heap} {t : Nat} (hf : s.heap.get? a = none) (hn : st.n < 512) (hi : o.isInst = false)
    (k : ∀ b o, s.heap.get? b = some o → h'.get? b = some o) (e : h'.get? a = some ob) (x : ORel G (m.add a) st.fd h' o ob) :
    Rel G B (m.add a) ⟨st.n + 1, st.k, st.t.put st.n (some o), st.fr, st.fd⟩ { s with heap := h', toks := t } := R.addFar (R.far hf) hn hi k e x
theorem Rel.addInst (R : Rel G B m st s) {d x C : Addr} {ob : Obj} {h' : Heap} {t : Nat} (hd : s.heap.get? d = none) (hx : s.heap.get? x = none) (dx : d ≠ x) (hn : st.n + 1 < 512)
    (k : ∀ b o, s.heap.get? b = some o → h'.get? b = some o) (ed : Nz h' d (fun _ => none) 0) (ex : h'.get? x = some ob) (eob : ob = instObj C d) :
    Rel G B ((m.add d).add x) ⟨st.n + 2, st.k, ((st.t.put st.n (some .opq)).put (st.n + 1) (some (.inst C st.n []))).put st.n (some (.own (st.n + 1))), st.fr, st.fd⟩ { s with heap := h', toks := t } := by
  have Fd := R.far hd
  have Fx := R.far hx
  have l := (m.le_add d).trans ((m.add d).le_add x)
  have gp : ∀ j, j < st.n + 2 → (((st.t.put st.n (some .opq)).put (st.n + 1) (some (.inst C st.n []))).put st.n (some (.own (st.n + 1)))).get j =
      if st.n = j then some (.own (st.n + 1)) else if st.n + 1 = j then some (.inst C st.n []) else st.t.get j := fun j hj => by
    rw [T.get_put _ (by omega) (by omega), T.get_put _ (by omega) (by omega), T.get_put _ (by omega) (by omega)]
    split
    · rfl
    · rfl
  have mem : ∀ {b}, b ∈ ((m.add d).add x).ρ → b ∈ m.ρ ∨ b = d ∨ b = x := fun h => by
    rcases List.mem_append.mp h with h | h
    · rcases List.mem_append.mp h with h | h
      · exact .inl h
      · exact .inr (.inl (List.mem_singleton.mp h))
    · exact .inr (.inr (List.mem_singleton.mp h))
  have atd : ((m.add d).add x).ρ[st.n]? = some d := by rw [← R.len]; exact ((m.add d).le_add x).at (m.add_at d)
  have atx : ((m.add d).add x).ρ[st.n + 1]? = some x := by
    have := (m.add d).add_at x
    rwa [show (m.add d).ρ.length = st.n + 1 from by show (m.ρ ++ [d]).length = _; rw [List.length_append, R.len]; rfl] at this
  refine { len := ?_, le := by show st.n + 2 ≤ 512; omega, syms := R.syms, nodup := ?_, here := ?_, newer := ?_, pre := fun b hb => l.mem (R.pre b hb), keep := fun b o h1 h2 h3 h4 => k _ _ (R.keep b o h1 h2 h3 h4), loc := ?_, locFar := ?_, tblFar := ?_,
           tb := ?_, kb := R.kb, objs := ?_, owns := ?_, gens := R.gens, drawn := R.drawn, os := R.os, clean := clean_put (n := st.n + 2) (clean_add (clean_add R.clean (by omega)) (by omega)) (by omega) (by omega) }
  · show ((m.ρ ++ [d]) ++ [x]).length = _; rw [List.length_append, List.length_append, R.len]; rfl
  · refine List.nodup_append.mpr ⟨List.nodup_append.mpr ⟨R.nodup, by simp, fun b hb c hc => by rw [List.mem_singleton.mp hc]; exact fun q => Fd.ρ (q ▸ hb)⟩, by simp, fun b hb c hc => ?_⟩
    rw [List.mem_singleton.mp hc]
    rcases List.mem_append.mp hb with h | h
    · exact fun q => Fx.ρ (q ▸ h)
    · rw [List.mem_singleton.mp h]; exact dx
  · intro b hb
    rcases mem hb with h | h | h
    · obtain ⟨o, e⟩ := R.here b h; exact ⟨o, k _ _ e⟩
    · obtain ⟨o, _, _, z, _⟩ := ed; exact ⟨o, h ▸ z⟩
    · exact ⟨ob, h ▸ ex⟩
  · intro b hb
    rcases mem hb with h | h | h
    · exact R.newer b h
    · exact .inr (h ▸ Fd.h)
    · exact .inr (h ▸ Fx.h)
  · obtain ⟨f, x, y⟩ := R.loc; exact ⟨f, x.keeps k, fun z v h1 h2 => by obtain ⟨w, p, q⟩ := y z v h1 h2; exact ⟨w, p, q.mono l⟩⟩
  · intro h; rcases mem h with h | h | h
    · exact R.locFar h
    · exact Fd.L h.symm
    · exact Fx.L h.symm
  · refine ⟨fun h => ?_, R.tblFar.2⟩
    rcases mem h with h | h | h
    · exact R.tblFar.1 h
    · exact Fd.tbl h.symm
    · exact Fx.tbl h.symm
  · obtain ⟨o, x, y⟩ := R.tb; exact ⟨o, k _ _ x, y⟩
  · intro j o' hj q
    rw [gp j hj] at q
    split at q
    · rename_i ij; (first | exact (ff q).elim | exact (nn q).elim | cases q)
      obtain ⟨o, _, _, z, _⟩ := ed
      exact ⟨d, o, ij ▸ atd, z, trivial⟩
    · split at q
      · rename_i ij; (first | exact (ff q).elim | exact (nn q).elim | cases q)
        exact ⟨x, ob, ij ▸ atx, ex, d, _, atd, eob, ed, fun _ _ => rfl⟩
      · obtain ⟨b, ob', x', y, z⟩ := R.objs j o' (by dsimp only at hj; omega) q
        exact ⟨b, ob', l.at x', k _ _ y, z.mono l fun _ _ _ dx f _ _ h2 => h2.keeps k⟩
  · intro j C' d' ms hj q
    dsimp only at q hj ⊢
    rw [gp j hj] at q
    split at q
    · (first | exact (ff q).elim | exact (nn q).elim | cases q)
    · split at q
      · rename_i ij; (first | exact (ff q).elim | exact (nn q).elim | cases q); subst ij
        exact ⟨by omega, by rw [gp _ (by omega), if_pos rfl]⟩
      · obtain ⟨p1, p2⟩ := R.owns j C' d' ms (by omega) q
        refine ⟨by omega, ?_⟩
        rw [gp d' (by omega), if_neg (by omega), if_neg (by omega)]; exact p2
end Sx
end
section
open PySem PySem.W PyProof.Rows
namespace Sx
variable {G : Gl} {B : Base} {m : Wm} {st : St} {s : Shared}
/-- a name of the frame is stored -/
theorem Rel.setLoc (R : Rel G B m st s) {n : Str} {x : V} {v : Value} {f : Str → Option Value} {h' : Heap} {t : Nat} (hf : ∀ y v, okS y = true → lk (sid y) st.fr = some v → ∃ w, f y = some w ∧ VRel m v w)
    (hn : okS n = true) (hx : VRel m x v) (k : ∀ b o, b ≠ B.L → s.heap.get? b = some o → h'.get? b = some o) (e : h'.Ns B.L fun y => if y = n then some v else f y) :
    Rel G B m ⟨st.n, st.k, st.t, setK (sid n) x st.fr, st.fd⟩ { s with heap := h', toks := t } := by
  have nm : ∀ {b}, b ∈ m.ρ → b ≠ B.L := fun h e => R.locFar (e ▸ h)
  refine { R with here := ?_, keep := ?_, loc := ?_, tb := ?_, objs := ?_ }
  · intro b hb; obtain ⟨o, e⟩ := R.here b hb; exact ⟨o, k b o (nm hb) e⟩
  · intro b o e n1 n2 n3; exact k b o n2 (R.keep b o e n1 n2 n3)
  · refine ⟨_, e, fun y w hy q => ?_⟩
    dsimp only at q
    rw [lk_setK] at q
    split at q
    · rename_i ey; (first | exact (ff q).elim | exact (nn q).elim | cases q)
      rw [sid_inj hy hn ey]
      exact ⟨v, if_pos rfl, hx⟩
    · rename_i ney
      rw [if_neg (fun z => ney (by rw [z]))]
      exact hf y w hy q
  · obtain ⟨o, x, y⟩ := R.tb; exact ⟨o, k _ _ (Ne.symm R.tblFar.2) x, y⟩
  · intro i o hi e
    obtain ⟨b, ob, x, y, z⟩ := R.objs i o hi e
    exact ⟨b, ob, x, k _ _ (nm (List.mem_of_getElem? x)) y, z.mono (Wm.Le.refl m) (fun _ _ _ dx f _ h1 h2 => h2.extBut (fun b o n e => k b o n e) (nm (List.mem_of_getElem? h1)))⟩
theorem Rel.setFr (R : Rel G B m st s) {fr : List (Nat × V)} (h : ∃ f, s.heap.Ns B.L f ∧ ∀ x v, okS x = true → lk (sid x) fr = some v → ∃ w, f x = some w ∧ VRel m v w) : Rel G B m ⟨st.n, st.k, st.t, fr, st.fd⟩ s :=
  { R with loc := h }
theorem Rel.newSym (R : Rel G B m st s) (i : Int) : Rel G B ⟨m.ρ, m.σ ++ [i]⟩ ⟨st.n, st.k + 1, st.t, st.fr, st.fd⟩ s := by
  have l : m.Le ⟨m.ρ, m.σ ++ [i]⟩ := ⟨⟨[], by simp⟩, ⟨[i], rfl⟩⟩
  refine { R with syms := by show (m.σ ++ [i]).length = _; rw [List.length_append, R.syms]; rfl, loc := ?_, objs := ?_ }
  · obtain ⟨f, x, y⟩ := R.loc; exact ⟨f, x, fun z v h1 h2 => by obtain ⟨w, p, q⟩ := y z v h1 h2; exact ⟨w, p, q.mono l⟩⟩
  · intro i o hi e
    obtain ⟨b, ob, x, y, z⟩ := R.objs i o hi e
    exact ⟨b, ob, x, y, z.mono l fun _ _ _ _ _ _ _ h => h⟩

/-- a new ground: what is here now stays -/
theorem Rel.kbHere (R : Rel G B m st s) : ∀ a o, G.old.get? a = some o → s.heap.get? a = some o ∧ a ∉ m.ρ ∧ a ≠ B.L ∧ a ≠ G.tbl := fun a o e => by
  obtain ⟨x, y, z, w⟩ := R.kb a o e
  refine ⟨R.keep a o x y z w, fun q => ?_, z, w⟩
  rcases R.newer a q with h | h
  · exact y h
  · rw [x] at h; (first | exact (ff h).elim | exact (nn h).elim | cases h)
theorem Rel.rebase (R : Rel G B m st s) : Rel G ⟨s.heap, m.ρ, B.L⟩ m st s :=
  { R with newer := fun _ h => .inl h, pre := fun _ h => h, keep := fun _ _ e _ _ _ => e, kb := R.kbHere }
theorem Rel.back {m' : Wm} {st' : St} {s' : Shared} (R : Rel G B m st s) (R' : Rel G ⟨s.heap, m.ρ, B.L⟩ m' st' s') : Rel G B m' st' s' := by
  refine { R' with newer := ?_, pre := fun a h => R'.pre a (R.pre a h), keep := ?_, kb := R.kb }
  · intro a h
    rcases R'.newer a h with q | q
    · exact R.newer a q
    · cases z : B.h.get? a with
      | none => exact .inr rfl
      | some o =>
        by_cases y : a ∈ B.ρ₀
        · exact .inl y
        · have := R.keep a o z y (fun e => R'.locFar (e ▸ h)) (fun e => R'.tblFar.1 (e ▸ h))
          rw [this] at q; (first | exact (ff q).elim | exact (nn q).elim | cases q)
  · intro b o e h1 h2 h3
    refine R'.keep b o (R.keep b o e h1 h2 h3) (fun q => ?_) h2 h3
    rcases R.newer b q with z | z
    · exact h1 z
    · rw [z] at e; (first | exact (ff e).elim | exact (nn e).elim | cases e)
theorem Rel.enter (R : Rel G B m st s) {L : Addr} {h' : Heap} {t : Nat} {fr : List (Nat × V)} {f : Str → Option Value} (hL : s.heap.get? L = none) (k : ∀ b o, s.heap.get? b = some o → h'.get? b = some o) (e : h'.Ns L f)
    (hfr : ∀ x v, okS x = true → lk (sid x) fr = some v → ∃ w, f x = some w ∧ VRel m v w) : Rel G ⟨s.heap, m.ρ, L⟩ m ⟨st.n, st.k, st.t, fr, st.fd⟩ { s with heap := h', toks := t } := by
  have F := R.far hL
  refine { R with here := ?_, newer := fun _ h => .inl h, pre := fun _ h => h, keep := fun b o h _ _ _ => k b o h, loc := ⟨f, e, hfr⟩, locFar := F.ρ, tblFar := ⟨R.tblFar.1, F.tbl⟩, tb := ?_, kb := ?_, objs := ?_ }
  · intro b hb; obtain ⟨o, e⟩ := R.here b hb; exact ⟨o, k b o e⟩
  · obtain ⟨o, x, y⟩ := R.tb; exact ⟨o, k _ _ x, y⟩
  · intro a o q
    obtain ⟨x, y, _, w⟩ := R.kbHere a o q
    exact ⟨x, y, (fun z => by rw [show a = L from z, hL] at x; (first | exact (ff x).elim | exact (nn x).elim | cases x)), w⟩
  · intro i o hi e
    obtain ⟨b, ob, x, y, z⟩ := R.objs i o hi e
    exact ⟨b, ob, x, k _ _ y, z.mono (Wm.Le.refl m) (fun _ _ _ dx f _ _ h2 => h2.keeps k)⟩
theorem Rel.leave {m' : Wm} {st' : St} {s' : Shared} {L : Addr} (R : Rel G B m st s) (l : m.Le m') (R' : Rel G ⟨s.heap, m.ρ, L⟩ m' st' s') (hL' : s.heap.get? L = none) : Rel G B m' ⟨st'.n, st'.k, st'.t, st.fr, st'.fd⟩ s' := by
  obtain ⟨f, ⟨o, es, ep, hx, r⟩, y⟩ := R.loc
  have nB : B.L ∉ m'.ρ := fun h => by
    rcases R'.newer _ h with q | q
    · exact R.locFar q
    · rw [show s.heap.get? B.L = some o from hx] at q; (first | exact (ff q).elim | exact (nn q).elim | cases q)
  have kp : ∀ b o, s.heap.get? b = some o → b ∉ m.ρ → b ≠ G.tbl → s'.heap.get? b = some o := fun b o e h1 h2 => R'.keep b o e h1 (fun q => by dsimp only at q; rw [q, hL'] at e; (first | exact (ff e).elim | exact (nn e).elim | cases e)) h2
  refine { R' with newer := ?_, pre := fun a h => R'.pre a (R.pre a h), keep := ?_, loc := ⟨f, ⟨o, es, ep, kp _ _ hx R.locFar R.tblFar.2, r⟩, fun z v h1 h2 => by obtain ⟨w, p, q⟩ := y z v h1 h2; exact ⟨w, p, q.mono l⟩⟩, locFar := nB, tblFar := ⟨R'.tblFar.1, R.tblFar.2⟩, kb := R.kb }
  · intro a h
    rcases R'.newer a h with q | q
    · exact R.newer a q
    · cases z : B.h.get? a with
      | none => exact .inr rfl
      | some o =>
        by_cases y : a ∈ B.ρ₀
        · exact .inl y
        · have := R.keep a o z y (fun e => nB (e ▸ h)) (fun e => R'.tblFar.1 (e ▸ h))
          rw [this] at q; (first | exact (ff q).elim | exact (nn q).elim | cases q)
  · intro b o e h1 h2 h3
    refine kp b o (R.keep b o e h1 h2 h3) (fun q => ?_) h3
    rcases R.newer b q with z | z
    · exact h1 z
    · rw [z] at e; (first | exact (ff e).elim | exact (nn e).elim | cases e)

/-- what is asked of what comes after -/
noncomputable def Cont (G : Gl) (B : Base) (m : Wm) {α β : Type} (r : Wm → α → β → Prop) (k : α → St → Bool) (Q : β → Shared → Prop) : Prop :=
  ∀ m' a st' b s', m.Le m' → Rel G B m' st' s' → r m' a b → k a st' = true → Q b s'
theorem Cont.mono {m' : Wm} {α β : Type} {r : Wm → α → β → Prop} {k : α → St → Bool} {Q : β → Shared → Prop} (l : m.Le m') (c : Cont G B m r k Q) : Cont G B m' r k Q :=
  fun m'' a st' b s' l' R x h => c m'' a st' b s' (l.trans l') R x h
/-- room enough -/
structure Okay (n : Nat) (A : Around) : Prop where
  hn : A.handled = none
  d : A.depth + n + 8 < recursionLimit
  u : A.units + 8 * n + 80 < cLine
theorem Okay.pred {n : Nat} {A : Around} (h : Okay (n + 1) A) : Okay n A := ⟨h.hn, by have := h.d; omega, by have := h.u; omega⟩
structure EnvOk (m : Wm) (c : Cx) (env : Env) : Prop where
  kind : env.scope.kind = .function
  loc : ∀ x, kindOf x c.sc.names = some .local → env.kindOf x = some .local
  cel : ∀ x, kindOf x c.sc.names = some .cell ∨ kindOf x c.sc.names = some .free → env.kindOf x = some .cell ∨ env.kindOf x = some .free
  glb : ∀ x, kindOf x c.sc.names = some .globalImplicit → env.kindOf x = some .globalImplicit
  cells : ∀ x j, okS x = true → lk (sid x) c.cells = some j → ∃ a, m.ρ[j]? = some a ∧ env.cells.lookup x = some a
  globals : env.globals = mainGlobals
  builtins : env.builtins = builtinsNs
  code : c.code = 0 ∨ env.code = .ref c.code
theorem EnvOk.mono {m' : Wm} {c : Cx} {env : Env} (l : m.Le m') (h : EnvOk m c env) : EnvOk m' c env :=
  { h with cells := fun x j a b => by obtain ⟨p, q, r⟩ := h.cells x j a b; exact ⟨p, l.at q, r⟩ }

noncomputable def SEv (G : Gl) (h : Ih) (n : Nat) : Prop := ∀ (B : Base) (m : Wm) (c : Cx) (e : PySem.Expr) (k : V → St → Bool) (st : St) (s : Shared) (A : Around) (env : Env) (Q : Value → Shared → Prop) (E : Value → Shared → Prop),
  h.ev c e k st = true → EnvOk m c env → B.L = env.locals → Rel G B m st s → Okay n A → Cont G B m VRel k Q → wpAny (model G.prog G.w) A (eval e env) Q E s
noncomputable def FRel (m : Wm) : Fl → Flow → Prop
  | .next, f => f = .next
  | .ret x, f => ∃ v, f = .ret v ∧ VRel m x v
noncomputable def SXs (G : Gl) (h : Ih) (n : Nat) : Prop := ∀ (B : Base) (m : Wm) (c : Cx) (ss : List Stmt) (k : Fl → St → Bool) (st : St) (s : Shared) (A : Around) (env : Env) (Q : Flow → Shared → Prop) (E : Value → Shared → Prop),
  h.xs c ss k st = true → EnvOk m c env → B.L = env.locals → Rel G B m st s → Okay n A → Cont G B m FRel k Q → wpAny (model G.prog G.w) A (execs ss env) Q E s
noncomputable def SCl (G : Gl) (h : Ih) (n : Nat) : Prop := ∀ (B : Base) (m : Wm) (f : V) (xs : List V) (k : V → St → Bool) (st : St) (s : Shared) (A : Around) (fv : Value) (vs : List Value) (Q : Value → Shared → Prop) (E : Value → Shared → Prop),
  h.cl f xs k st = true → VRel m f fv → VsRel m xs vs → Rel G B m st s → Okay n A → Cont G B m VRel k Q → wpAny (model G.prog G.w) A (call fv vs) Q E s
end Sx
end
section
open PySem PySem.W PyProof.Rows
namespace Sx
variable {G : Gl} {B : Base} {m : Wm} {st : St} {s : Shared} {A : Around} {env : Env} {E : Value → Shared → Prop} {n : Nat} {h : Ih} {c : Cx}
theorem toV_rel {v : Value} {x : V} (e : toV v = some x) : VRel m x v := by
  cases v with
  | none => obtain rfl := Option.some.inj e; rfl
  | bool b => obtain rfl := Option.some.inj e; rfl
  | int i t => obtain rfl := Option.some.inj (ifB_n1 (b := Nat.beq t 0) e).2; exact ⟨t, rfl⟩
  | str y t =>
    obtain ⟨h, e⟩ := ifB_nn (b := okS y) (ifB_n1 (b := Nat.beq t 0) e).2
    obtain rfl := Option.some.inj e; exact ⟨y, t, h, rfl, rfl⟩
  | ref a => obtain rfl := Option.some.inj e; rfl
  | _ => exact (nn e).elim
theorem toVs_rel {vs : List Value} : ∀ {xs : List V}, toVs vs = some xs → VsRel m xs vs := by
  induction vs with
  | nil => intro xs e; obtain rfl := Option.some.inj e; trivial
  | cons v r ih =>
    intro xs e
    obtain ⟨x, h1, e⟩ := ifO_nn (o := toV v) e
    obtain ⟨l, h2, e⟩ := ifO_nn (o := toVs r) e
    obtain rfl := Option.some.inj e
    exact ⟨toV_rel h1, ih h2⟩
/-- what a value shows when looked up -/
structure Seen (G : Gl) (m : Wm) (st : St) (s : Shared) (v : V) (o : O) (a : Addr) (ob : Obj) : Prop where
  at_ : s.heap.get? a = some ob
  rel : ORel G m st.fd s.heap o ob
  idx : ∀ i, v = .ref i → m.ρ[i]? = some a ∧ st.t.get i = some o
  old : ∀ b, v = .old b → ∃ xs, o = .tup xs
theorem look_sound (R : Rel G B m st s) {i : Nat} {a : Addr} {k : O → St → Bool} (hi : m.ρ[i]? = some a) (e : look i k st = true) : ∃ o ob, Seen G m st s (.ref i) o a ob ∧ k o st = true := by
  obtain ⟨o, h1, h2⟩ := ifO_ff e
  obtain ⟨a', ob, p, q, r⟩ := R.objs i o (R.lt hi) h1
  cases hi.symm.trans p
  exact ⟨o, ob, ⟨q, r, fun j e => by (first | exact (ff e).elim | exact (nn e).elim | cases e); exact ⟨p, h1⟩, fun b e => by (first | exact (ff e).elim | exact (nn e).elim | cases e)⟩, h2⟩
theorem lookV_sound (g : GOk G) (R : Rel G B m st s) {v : V} {w : Value} {k : O → St → Bool} (hv : VRel m v w) (e : lookV G.P v k st = true) : ∃ o a ob, w = .ref a ∧ Seen G m st s v o a ob ∧ k o st = true := by
  cases v with
  | ref i =>
    obtain ⟨a, hi, rfl⟩ := hv
    obtain ⟨o, ob, h1, h2⟩ := look_sound R hi e
    exact ⟨o, a, ob, rfl, h1, h2⟩
  | old a =>
    obtain ⟨o, h1, h2⟩ := ifO_ff (o := G.P.oldO a) e
    obtain ⟨sm, hp⟩ := g.pg
    rw [hp] at h1
    change oldO G.K a = some o at h1
    obtain ⟨ob, ho, h1⟩ := ifO_nn (o := G.K.lookup a) h1
    obtain ⟨hc, h1⟩ := ifB_nn (b := isTyp "tuple" ob.cls) h1
    obtain ⟨xs, hs, h1⟩ := ifO_nn (o := asSeq ob) h1
    obtain ⟨l, q, h1⟩ := ifO_nn (o := toVs xs.toList) h1
    obtain rfl := Option.some.inj h1
    obtain ⟨cl, d, nn', sl, rfl⟩ := asSeq_eq hs
    have hv : w = .ref a := hv
    have r : ORel G m st.fd s.heap (.tup l) ⟨cl, d, .seq xs nn', sl⟩ := ⟨isTyp_eq hc, xs, nn', rfl, toVs_rel q⟩
    exact ⟨_, a, _, hv, ⟨R.kin g _ _ ho, r, fun _ e => V.noConfusion e, fun _ _ => ⟨_, rfl⟩⟩, h2⟩
  | _ => (first | exact (ff e).elim | exact (nn e).elim | cases e)

theorem Seen.list {v : V} {xs : List V} {a : Addr} {ob : Obj} (S : Seen G m st s v (.list xs) a ob) : ∃ items, s.heap.IsList a items ∧ s.heap.PlainList a items ∧ VsRel m xs items.toList := by
  obtain ⟨i, nn, rfl, h⟩ := S.rel
  exact ⟨i, ⟨_, S.at_, rfl, nn, rfl⟩, ⟨nn, S.at_⟩, h⟩
theorem Seen.fix {v : V} {xs : List V} {a : Addr} {ob ob0 : Obj} (S : Seen G m st s v (.fix ob0 xs) a ob) : ∃ items, s.heap.IsList a items ∧ VsRel m xs items.toList := by
  obtain ⟨e, i, nn, q, h⟩ := S.rel
  subst e
  exact ⟨i, ⟨_, S.at_, by rw [q], nn, by rw [q]⟩, h⟩
theorem Seen.tup {v : V} {xs : List V} {a : Addr} {ob : Obj} (S : Seen G m st s v (.tup xs) a ob) : ∃ items, s.heap.IsTuple a items ∧ VsRel m xs items.toList := by
  obtain ⟨hc, i, nn, hd, h⟩ := S.rel
  exact ⟨i, ⟨_, S.at_, hc, nn, hd⟩, h⟩

/-! names -/
theorem dbg_ne {x : Str} (h : Nat.beq (sid x) (sid "__debug__") = false) : (x == ("__debug__" : Str)) = false := by
  cases q : (x == ("__debug__" : Str)) with
  | false => rfl
  | true => rw [beq_iff_eq.mp q] at h; rw [Nat.beq_refl] at h; (first | exact (ff h).elim | exact (nn h).elim | cases h)
theorem cd_ne {x : Str} (h : Nat.beq (sid x) (sid "__classdict__") = false) : (x == ("__classdict__" : Str)) = false := by
  cases q : (x == ("__classdict__" : Str)) with
  | false => rfl
  | true => rw [beq_iff_eq.mp q] at h; rw [Nat.beq_refl] at h; (first | exact (ff h).elim | exact (nn h).elim | cases h)
structure NameAt (sc : Scope) (x : Str) : Prop where
  dbg : (x == ("__debug__" : Str)) = false
  cd : (x == ("__classdict__" : Str)) = false
theorem nameV_ok {sc : Scope} {x : Str} {y : Xv} (e : nameV sc x = y) (hy : y ≠ .bad) : NameAt sc x ∧ ((y = .loc (sid x) ∧ kindOf x sc.names = some .local) ∨ (y = .cel (sid x) ∧ (kindOf x sc.names = some .cell ∨ kindOf x sc.names = some .free)) ∨ (y = .glb x ∧ kindOf x sc.names = some .globalImplicit)) := by
  subst e
  obtain ⟨h1, h2, k, h3, h4⟩ : Nat.beq (sid x) (sid "__debug__") = false ∧ Nat.beq (sid x) (sid "__classdict__") = false ∧ ∃ k, kindOf x sc.names = some k ∧ nameV sc x = kindV x k := by
    unfold nameV at hy ⊢
    cases q1 : Nat.beq (sid x) (sid "__debug__") with
    | true => rw [q1] at hy; exact (hy rfl).elim
    | false =>
      cases q2 : Nat.beq (sid x) (sid "__classdict__") with
      | true => rw [q1, q2] at hy; exact (hy rfl).elim
      | false =>
        cases q3 : kindOf x sc.names with
        | none => rw [q1, q2, q3] at hy; exact (hy rfl).elim
        | some k => exact ⟨rfl, rfl, k, rfl, rfl⟩
  rw [h4] at hy ⊢
  refine ⟨⟨dbg_ne h1, cd_ne h2⟩, ?_⟩
  cases k with
  | «local» => exact .inl ⟨rfl, h3⟩
  | cell => exact .inr (.inl ⟨rfl, .inl h3⟩)
  | free => exact .inr (.inl ⟨rfl, .inr h3⟩)
  | globalImplicit => exact .inr (.inr ⟨rfl, h3⟩)
  | _ => exact (hy rfl).elim
theorem ld_loc {x : Str} {k : V → St → Bool} {Q : Value → Shared → Prop} (hx : kindOf x c.sc.names = some .local) (e : loadLoc (sid x) k st = true) (V : EnvOk m c env) (hB : B.L = env.locals) (R : Rel G B m st s) (C : Cont G B m VRel k Q) :
    wpAny (model G.prog G.w) A (loadName env x) Q E s := by
  obtain ⟨v, h1, h2⟩ := ifO_ff e
  obtain ⟨f, hn, hf⟩ := R.loc
  obtain ⟨w, p, q⟩ := hf x v (kindOf_lookup hx).1 h1
  rw [hB] at hn
  exact wpAny_loadName_local V.kind (V.loc x hx) hn p (C m v st w s (Wm.Le.refl m) R q h2)
theorem cell_sound (R : Rel G B m st s) {x : Str} (V : EnvOk m c env) (ox : okS x = true) {j : Nat} (hj : lk (sid x) c.cells = some j) {k : O → St → Bool} (e : look j k st = true) :
    ∃ a ob o, env.cells.lookup x = some a ∧ Seen G m st s (.ref j) o a ob ∧ k o st = true := by
  obtain ⟨a, p, q⟩ := V.cells x j ox hj
  obtain ⟨o, ob, h1, h2⟩ := look_sound R p e
  exact ⟨a, ob, o, q, h1, h2⟩
theorem ld_cel {x : Str} {k : V → St → Bool} {Q : Value → Shared → Prop} (hN : NameAt c.sc x) (hx : kindOf x c.sc.names = some .cell ∨ kindOf x c.sc.names = some .free) (e : loadCell c (sid x) k st = true) (V : EnvOk m c env) (R : Rel G B m st s) (C : Cont G B m VRel k Q) :
    wpAny (model G.prog G.w) A (loadName env x) Q E s := by
  obtain ⟨j, h1, h2⟩ := ifO_ff e
  have ox : okS x = true := by rcases hx with h | h <;> exact (kindOf_lookup h).1
  obtain ⟨a, ob, o, p, S, h3⟩ := cell_sound R V ox h1 h2
  have hr := S.rel
  cases o with
  | cell v =>
    cases v with
    | none => (first | exact (ff h3).elim | exact (nn h3).elim | cases h3)
    | some v =>
      obtain ⟨w, hd, y, rfl, q⟩ := hr
      have hc : s.heap.IsCell a (some y) := ⟨_, S.at_, hd⟩
      have done := C m v st y s (Wm.Le.refl m) R q h3
      rcases V.cel x hx with z | z
      · exact wpAny_loadName_cell V.kind z p hc done
      · exact wpAny_loadName_free V.kind z p hc done hN.cd
  | _ => (first | exact (ff h3).elim | exact (nn h3).elim | cases h3)
theorem bi_of {x : Str} {v : V} (ox : okS x = true) (e : (lk (sid x) biTab).map V.bi = some v) : x ≠ "__name__" ∧ ∃ w, bootBuiltins x = some w ∧ VRel m v w := by
  obtain ⟨b, h1, rfl⟩ := Option.map_eq_some_iff.mp e
  unfold biTab at h1
  rw [lk_cons, lk_cons, lk_cons, lk_cons, lk_cons, lk_cons, lk_cons, lk_cons, lk_nil] at h1
  have fin : ∀ (y : String) (w : Value), okS (y : Str) = true → (y : Str) ≠ "__name__" → bootBuiltins (y : Str) = some w → sid x = sid (y : Str) → b.val = w → x ≠ "__name__" ∧ ∃ w, bootBuiltins x = some w ∧ VRel m (.bi b) w := by
    intro y w oy ny hb hs hv
    rw [sid_inj ox oy hs]
    exact ⟨ny, w, hb, hv.symm⟩
  split at h1
  · (first | exact (ff h1).elim | exact (nn h1).elim | cases h1); exact fin "len" (.builtin "len") (by decide +kernel) (by decide +kernel) (by decide +kernel) ‹_› rfl
  split at h1
  · (first | exact (ff h1).elim | exact (nn h1).elim | cases h1); exact fin "sorted" (.builtin "sorted") (by decide +kernel) (by decide +kernel) (by decide +kernel) ‹_› rfl
  split at h1
  · (first | exact (ff h1).elim | exact (nn h1).elim | cases h1); exact fin "str" (.type "str") (by decide +kernel) (by decide +kernel) (by decide +kernel) ‹_› rfl
  split at h1
  · (first | exact (ff h1).elim | exact (nn h1).elim | cases h1); exact fin "tuple" (.type "tuple") (by decide +kernel) (by decide +kernel) (by decide +kernel) ‹_› rfl
  split at h1
  · (first | exact (ff h1).elim | exact (nn h1).elim | cases h1); exact fin "list" (.type "list") (by decide +kernel) (by decide +kernel) (by decide +kernel) ‹_› rfl
  split at h1
  · (first | exact (ff h1).elim | exact (nn h1).elim | cases h1); exact fin "range" (.type "range") (by decide +kernel) (by decide +kernel) (by decide +kernel) ‹_› rfl
  split at h1
  · (first | exact (ff h1).elim | exact (nn h1).elim | cases h1); exact fin "frozenset" (.type "frozenset") (by decide +kernel) (by decide +kernel) (by decide +kernel) ‹_› rfl
  split at h1
  · (first | exact (ff h1).elim | exact (nn h1).elim | cases h1); exact fin "max" (.builtin "max") (by decide +kernel) (by decide +kernel) (by decide +kernel) ‹_› rfl
  (first | exact (ff h1).elim | exact (nn h1).elim | cases h1)
theorem ld_glb (g : GOk G) {x : Str} {k : V → St → Bool} {Q : Value → Shared → Prop} (hx : kindOf x c.sc.names = some .globalImplicit) (e : EM.some (G.P.glob x) k st = true) (V : EnvOk m c env) (R : Rel G B m st s) (C : Cont G B m VRel k Q) :
    wpAny (model G.prog G.w) A (loadName env x) Q E s := by
  obtain ⟨v, h1, h2⟩ := ifO_ff e
  obtain ⟨sm, hp⟩ := g.pg
  rw [hp] at h1
  change glob G.K x = some v at h1
  rw [loadName_read V.kind (V.glb x hx)]
  unfold loadGlobal
  rw [V.globals, V.builtins]
  have X := R.kin g
  unfold glob at h1
  split at h1
  · rename_i w hw
    refine wpAny_bind ((looks_nsIn X hw).here ?_)
    exact wpAny_pure (C m v st w s (Wm.Le.refl m) R (toV_rel h1) h2)
  · rename_i hw
    refine wpAny_bind ((looks_nsIn X hw).here ?_)
    split at h1
    · rename_i ox
      obtain ⟨nn, w, hb, hr⟩ := bi_of (m := m) ox h1
      obtain ⟨mb, hns, hm⟩ := g.bn
      refine wpAny_bind (wpAny_nsGet (hns.keeps R.old) ?_)
      rw [hm x nn, hb]
      exact wpAny_pure (C m v st w s (Wm.Le.refl m) R hr h2)
    · (first | exact (ff h1).elim | exact (nn h1).elim | cases h1)
  · (first | exact (ff h1).elim | exact (nn h1).elim | cases h1)
end Sx
end
section
open PySem PySem.W PyProof.Rows
namespace Sx
variable {G : Gl} {B : Base} {m : Wm} {st : St} {s : Shared} {A : Around} {env : Env} {E : Value → Shared → Prop} {n : Nat} {h : Ih} {c : Cx}
theorem Cont.now {α β : Type} {r : Wm → α → β → Prop} {k : α → St → Bool} {Q : β → Shared → Prop} (C : Cont G B m r k Q) (R : Rel G B m st s) {a : α} {b : β} (e : k a st = true) (q : r m a b) : Q b s := C m a st b s (Wm.Le.refl m) R q e
theorem ev_const {kc : Const} {kd : Nat} {pos : Pos} {v : V} {k : V → St → Bool} {Q : Value → Shared → Prop} (hv : constV kc = .cst v) (e : k v st = true) (R : Rel G B m st s) (C : Cont G B m VRel k Q) : wpAny (model G.prog G.w) A (eval (.Constant kc kd pos) env) Q E s := by
  cases kc with
  | none => (first | exact (ff hv).elim | exact (nn hv).elim | cases hv); exact wpAny_Constant_none (C.now R e rfl)
  | bool b => (first | exact (ff hv).elim | exact (nn hv).elim | cases hv); exact wpAny_Constant_bool (C.now R e rfl)
  | int i => (first | exact (ff hv).elim | exact (nn hv).elim | cases hv); exact wpAny_Constant_int (C.now (R.toks _) e ⟨_, rfl⟩)
  | str x =>
    change ifB (okS x) (Xv.cst (.str (sid x))) .bad = .cst v at hv
    cases ox : okS x with
    | true => rw [ox] at hv; cases hv; exact wpAny_Constant_str (C.now (R.toks _) e ⟨x, _, ox, rfl, rfl⟩)
    | false => rw [ox] at hv; cases hv
  | _ => (first | exact (ff hv).elim | exact (nn hv).elim | cases hv)
noncomputable def loadX (G : Gl) (c : Cx) (y : Xv) (k : V → St → Bool) (st : St) : Prop := match y with
  | .loc x => loadLoc x k st = true
  | .cel x => loadCell c x k st = true
  | .glb x => EM.some (G.P.glob x) k st = true
  | _ => False
theorem ev_name (g : GOk G) {x : Str} {pos : Pos} {y : Xv} {k : V → St → Bool} {Q : Value → Shared → Prop} (hy : nameV c.sc x = y) (V : EnvOk m c env) (hB : B.L = env.locals) (R : Rel G B m st s) (C : Cont G B m VRel k Q)
    (e : loadX G c y k st) : wpAny (model G.prog G.w) A (eval (.Name x pos) env) Q E s := by
  have nb : y ≠ .bad := fun z => by subst z; exact e
  obtain ⟨N, h1 | h1 | h1⟩ := nameV_ok hy nb
  · obtain ⟨rfl, hk⟩ := h1; exact wpAny_Name (ld_loc hk e V hB R C) N.dbg
  · obtain ⟨rfl, hk⟩ := h1; exact wpAny_Name (ld_cel N hk e V R C) N.dbg
  · obtain ⟨rfl, hk⟩ := h1; exact wpAny_Name (ld_glb g hk e V R C) N.dbg
theorem truth_sound {v : V} {w : Value} {k : Bool → St → Bool} {Q : Bool → Shared → Prop} (e : truth v k st = true) (hv : VRel m v w) (q : ∀ b, k b st = true → Q b s) : wpAny (model G.prog G.w) A (truthy w) Q E s := by
  cases v with
  | tt b => rw [show w = .bool b from hv]; exact wpAny_truthy_bool (q b e)
  | _ => (first | exact (ff e).elim | exact (nn e).elim | cases e)
noncomputable def BRel (_ : Wm) (a b : Bool) : Prop := a = b
/-- a row of operands -/
noncomputable def EvsRel (es : List PySem.Expr) (m : Wm) (xs : List V) (vs : List Value) : Prop := VsRel m xs vs ∧ vs.length = es.length
theorem evs_sound (IE : SEv G h n) : ∀ (es : List PySem.Expr) (m : Wm) (st : St) (s : Shared) (k : List V → St → Bool) (Q : List Value → Shared → Prop) (pos : Pos), mapE (h.ev c) es k st = true → noStar es = true → EnvOk m c env → B.L = env.locals → Rel G B m st s → Okay n A →
    Cont G B m (EvsRel es) k Q → wpAny (model G.prog G.w) A (spliced (backTo pos (starEach es env))) Q E s
  | [], m, st, s, k, Q, pos, e, _, V, hB, R, O, C => spliced_none (C.now (a := []) R e ⟨trivial, rfl⟩)
  | x :: r, m, st, s, k, Q, pos, e, ns, V, hB, R, O, C => by
    have hs : starEach (x :: r) env = (false, eval x env) :: starEach r env ∧ noStar r = true := by
      (first | exact (ff x).elim | exact (nn x).elim | cases x) <;> first | exact ⟨rfl, ns⟩ | (first | exact (ff ns).elim | exact (nn ns).elim | cases ns)
    refine spliced_more (IE B m c x _ st s A env _ E e V hB R O fun m1 a st1 v s1 l1 R1 r1 e1 => ?_) hs.1
    exact evs_sound IE r m1 st1 s1 _ _ pos e1 hs.2 (V.mono l1) hB R1 O fun m2 as st2 vs s2 l2 R2 r2 e2 => C m2 (a :: as) st2 (v :: vs) s2 (l1.trans l2) R2 ⟨⟨r1.mono l2, r2.1⟩, by rw [List.length_cons, List.length_cons, r2.2]⟩ e2
theorem newRef_sound (R : Rel G B m st s) {o : O} {k : V → St → Bool} {ob : Obj} {Q : Value → Shared → Prop} {t : Nat} (e : newRef o k st = true) (hi : o.isInst = false) (hf : ob.isFreed = false) (x : ORel G (m.add s.heap.objs.size) st.fd (s.heap.push ob) o ob) (C : Cont G B m VRel k Q) :
    Q (.ref s.heap.objs.size) { s with heap := s.heap.push ob, toks := t } := by
  obtain ⟨h1, h2⟩ := ifB_ff (b := Nat.blt st.n 512) e
  refine C (m.add s.heap.objs.size) _ _ _ _ (m.le_add _) (R.add (get?_size _) (Nat.blt_eq.mp h1) hi (fun b o q => Heap.get?_push_of_some _ q) (Heap.get?_push_size _ hf) x) ?_ h2
  exact ⟨_, by rw [← R.len]; exact m.add_at _, rfl⟩
theorem VsRel.toArr {m : Wm} {xs : List V} {vs : List Value} (hx : VsRel m xs vs) : VsRel m xs vs.toArray.toList := by simpa using hx
end Sx
end
section
open PySem PySem.W PyProof.Rows
namespace Sx
variable {G : Gl} {B : Base} {m : Wm} {st : St} {s : Shared} {A : Around} {env : Env} {E : Value → Shared → Prop} {n : Nat} {h : Ih} {c : Cx}
noncomputable def plainX : Xv → Bool
  | .not _ | .andor .. | .cmp .. | .ife .. | .bad => false
  | _ => true
theorem isTrueF_plain {P : Pg} {f : PySem.Expr → EM Bool} {e : PySem.Expr} : ∀ {y : Xv}, plainX y = true → isTrueF P h f c e y = fun k s => h.ev c e (fun v s => truth v k s) s := by
  intro y hp
  cases y <;> first | exact (ff hp).elim | rfl
theorem isTrue_plain {P : Pg} {d : Nat} {e : PySem.Expr} (hp : plainX (view c.sc e) = true) : isTrue P h (d + 1) c e = fun k s => h.ev c e (fun v s => truth v k s) s := isTrueF_plain hp
theorem if_X {f : Xv → Bool} {b : Bool} {v : Xv} (hb : f .bad = false) (hv : f v = false) : f (ifB b v .bad) = false := by cases b <;> assumption
theorem compare_view (sc : Scope) (l : PySem.Expr) (ops : List CmpOp) (rs : List PySem.Expr) (p : Pos) : plainX (view sc (.Compare l ops rs p)) = false := by
  rcases ops with _ | ⟨o, _ | ⟨o2, os⟩⟩
  · rfl
  · rcases rs with _ | ⟨r, _ | ⟨r2, rs⟩⟩
    · rfl
    · exact if_X (f := plainX) rfl rfl
    · rfl
  · rfl
theorem truth_plain {M : Model} {e : PySem.Expr} {Q : Bool → Shared → Prop} (hp : plainX (view c.sc e) = true) (w : wpAny M A (eval e env) (fun v s₁ => wpAny M A (truthy v) Q E s₁) E s) : wpAny M A (PySem.isTrue e env (eval e env)) Q E s := by
  cases e with
  | UnaryOp op x pos => cases op <;> first | exact wpAny_isTrue_value w | exact (ff hp).elim
  | BoolOp op es pos => cases es <;> exact (ff hp).elim
  | IfExp => exact (ff hp).elim
  | Compare l ops rs p => rw [compare_view] at hp; exact (ff hp).elim
  | _ => exact wpAny_isTrue_value w
noncomputable def CmpSound (G : Gl) : Prop := ∀ (B : Base) (m : Wm) (op : CmpOp) (a b : V) (k : Bool → St → Bool) (st : St) (s : Shared) (A : Around) (v w : Value) (Q : Value → Shared → Prop) (E : Value → Shared → Prop),
  cmp G.P op a b k st = true → VRel m a v → VRel m b w → Rel G B m st s → Okay 0 A → (∀ m' r st' s', m.Le m' → Rel G B m' st' s' → k r st' = true → Q (.bool r) s') → wpAny (model G.prog G.w) A (compareOp op v w) Q E s
theorem notSet_marks {op : CmpOp} {r : PySem.Expr} (h : notSet r = true) : behindInMarks op r = false := by (first | exact (ff r).elim | exact (nn r).elim | cases r) <;> first | rfl | (first | exact (ff h).elim | exact (nn h).elim | cases h)
theorem Okay.le {A : Around} {a b : Nat} (l : a ≤ b) (o : Okay b A) : Okay a A := ⟨o.hn, by have := o.d; omega, by have := o.u; omega⟩
theorem boolE_and {f : PySem.Expr → EM Bool} {e : PySem.Expr} {r : List PySem.Expr} : boolE .And f (e :: r) = fun k s => f e (fun b s' => ifB b (boolE .And f r k s') (k false s')) s := rfl
theorem boolE_or {f : PySem.Expr → EM Bool} {e : PySem.Expr} {r : List PySem.Expr} : boolE .Or f (e :: r) = fun k s => f e (fun b s' => ifB b (k true s') (boolE .Or f r k s')) s := rfl
noncomputable def specialX : Xv → Bool
  | .not _ | .andor .. | .cmp .. | .ife .. => true
  | _ => false
theorem bad_of {v : Xv} (h : plainX v = false) (q : specialX v = false) : v = .bad := by (first | exact (ff v).elim | exact (nn v).elim | cases v) <;> first | rfl | (exact Bool.noConfusion h) | (exact Bool.noConfusion q)
theorem constV_ns (k : Const) : specialX (constV k) = false := by
  cases k with
  | str x => exact if_X (f := specialX) (b := okS x) rfl rfl
  | _ => rfl
theorem nameV_ns (sc : Scope) (x : Str) : specialX (nameV sc x) = false := by
  by_cases z : nameV sc x = .bad
  · rw [z]; rfl
  · obtain ⟨_, ⟨h1, _⟩ | ⟨h1, _⟩ | ⟨h1, _⟩⟩ := nameV_ok rfl z <;> (rw [h1]; rfl)
theorem callF_ns (f : PySem.Expr) (a : List PySem.Expr) (p : Pos) : specialX (callF f a p) = false := by
  cases f with
  | Attribute => (refine if_X (f := specialX) rfl ?_; refine if_X (f := specialX) rfl ?_; rfl)
  | _ => rfl
theorem subV_ns (o i : PySem.Expr) : specialX (subV o i) = false := by cases i <;> rfl
theorem ns_of {sc : Scope} {e : PySem.Expr} (h : match e with | .UnaryOp .. | .BoolOp .. | .IfExp .. | .Compare .. => False | _ => True) : specialX (view sc e) = false := by
  cases e with
  | UnaryOp => exact h.elim
  | BoolOp => exact h.elim
  | IfExp => exact h.elim
  | Compare => exact h.elim
  | Constant k _ _ => exact constV_ns k
  | Name x _ => exact nameV_ns sc x
  | Dict ks vs p =>
    clear h
    cases ks with
    | nil => cases vs <;> rfl
    | cons => (refine if_X (f := specialX) rfl ?_; refine if_X (f := specialX) rfl ?_; rfl)
  | List es p => (refine if_X (f := specialX) rfl ?_; refine if_X (f := specialX) rfl ?_; rfl)
  | Tuple es _ p => (refine if_X (f := specialX) rfl ?_; refine if_X (f := specialX) rfl ?_; rfl)
  | ListComp elt gs sc' p =>
    rcases gs with _ | ⟨⟨tg, it, ifs, as⟩, _ | ⟨g2, gs⟩⟩
    · rfl
    · (refine if_X (f := specialX) rfl ?_; refine if_X (f := specialX) rfl ?_; rfl)
    · rfl
  | Call f args kws pos =>
    cases kws with
    | nil => (refine if_X (f := specialX) rfl ?_; refine if_X (f := specialX) rfl ?_; exact callF_ns f args pos)
    | cons => rfl
  | Attribute o x p => (refine if_X (f := specialX) rfl ?_; rfl)
  | Subscript o i p => exact subV_ns o i
  | Lambda a b sc' p =>
    obtain ⟨a1, a2, a3, a4, a5, a6, a7⟩ := a
    cases a5 with
    | nil => cases a7 <;> rfl
    | cons => rfl
  | _ => rfl
theorem it_if {P : Pg} {f : PySem.Expr → EM Bool} {e : PySem.Expr} {b : Bool} {v : Xv} {k : Bool → St → Bool} (e1 : isTrueF P h f c e (ifB b v .bad) k st = true) : b = true ∧ isTrueF P h f c e v k st = true := by
  cases b with
  | true => exact ⟨rfl, e1⟩
  | false => exact (ff e1).elim
theorem isTrue_sound (K : CmpSound G) (IE : SEv G h n) (d : Nat) : ∀ (e : PySem.Expr) (m : Wm) (st : St) (s : Shared) (k : Bool → St → Bool) (Q : Bool → Shared → Prop), isTrue G.P h d c e k st = true → EnvOk m c env → B.L = env.locals → Rel G B m st s → Okay n A →
    Cont G B m BRel k Q → wpAny (model G.prog G.w) A (PySem.isTrue e env (eval e env)) Q E s := by
  induction d with
  | zero => intro e m st s k Q e1; (first | exact (ff e1).elim | exact (nn e1).elim | cases e1)
  | succ d ih =>
    intro e m st s k Q e1 V hB R O C
    cases hp : plainX (view c.sc e) with
    | true =>
      rw [isTrue_plain hp] at e1
      refine truth_plain hp (IE B m c e _ st s A env _ E e1 V hB R O fun m1 a st1 v s1 l1 R1 r1 e2 => ?_)
      exact truth_sound e2 r1 fun b e3 => C m1 b st1 b s1 l1 R1 rfl e3
    | false =>
      have all : ∀ (op : BoolOp) (es : List PySem.Expr) (m : Wm) (st : St) (s : Shared) (k : Bool → St → Bool) (Q : Bool → Shared → Prop), boolE op (isTrue G.P h d c) es k st = true → EnvOk m c env → Rel G B m st s → Cont G B m BRel k Q →
          wpAny (model G.prog G.w) A (allTrue op es env) Q E s := by
        intro op es
        induction es with
        | nil =>
          intro m st s k Q e1 V R C
          cases op with
          | And => exact wpAny_pure (C.now (a := true) R e1 rfl)
          | Or => exact wpAny_pure (C.now (a := false) R e1 rfl)
        | cons x r ihr =>
          intro m st s k Q e1 V R C
          cases op with
          | And =>
            rw [boolE_and] at e1
            refine wpAny_allTrue_And_cons (ih x m st s _ _ e1 V hB R O fun m1 a st1 b s1 l1 R1 r1 e2 => ?_)
            (first | exact (ff r1).elim | exact (nn r1).elim | cases r1)
            cases a with
            | true => exact ihr m1 st1 s1 k Q e2 (V.mono l1) R1 (C.mono l1)
            | false => exact C m1 false st1 false s1 l1 R1 rfl e2
          | Or =>
            rw [boolE_or] at e1
            refine wpAny_allTrue_Or_cons (ih x m st s _ _ e1 V hB R O fun m1 a st1 b s1 l1 R1 r1 e2 => ?_)
            (first | exact (ff r1).elim | exact (nn r1).elim | cases r1)
            cases a with
            | true => exact C m1 true st1 true s1 l1 R1 rfl e2
            | false => exact ihr m1 st1 s1 k Q e2 (V.mono l1) R1 (C.mono l1)
      have bad : view c.sc e = .bad → False := fun q => by
        change isTrueF G.P h (isTrue G.P h d c) c e (view c.sc e) k st = true at e1
        rw [q] at e1; exact ff e1
      cases e with
      | UnaryOp op x pos =>
        cases op with
        | Not => exact wpAny_isTrue_Not (ih x m st s _ _ e1 V hB R O fun m1 a st1 b s1 l1 R1 r1 e2 => by (first | exact (ff r1).elim | exact (nn r1).elim | cases r1); exact C m1 (!a) st1 (!a) s1 l1 R1 rfl e2)
        | USub => exact (ff hp.symm).elim
        | _ => exact (bad rfl).elim
      | BoolOp op es pos =>
        rcases es with _ | ⟨x, r⟩
        · (first | exact (ff e1).elim | exact (nn e1).elim | cases e1)
        · exact wpAny_isTrue_BoolOp (all op (x :: r) m st s k Q e1 V R C)
      | IfExp t a b pos => (first | exact (ff e1).elim | exact (nn e1).elim | cases e1)
      | Compare l ops rs pos =>
        rcases ops with _ | ⟨o, _ | ⟨o2, os⟩⟩
        · exact (ff e1).elim
        · rcases rs with _ | ⟨r, _ | ⟨r2, rs⟩⟩
          · exact (ff e1).elim
          · obtain ⟨hs, e1'⟩ := it_if e1
            refine wpAny_isTrue_Compare1 (IE B m c l _ st s A env _ E e1' V hB R O fun m1 a st1 v s1 l1 R1 r1 e2 => ?_) (notSet_marks hs)
            refine IE B m1 c r _ st1 s1 A env _ E e2 (V.mono l1) hB R1 O fun m2 b st2 w s2 l2 R2 r2 e3 => ?_
            refine K B m2 o a b k st2 s2 A v w _ E e3 (r1.mono l2) r2 R2 (O.le (Nat.zero_le _)) fun m3 t st3 s3 l3 R3 e4 => ?_
            exact wpAny_truthy_bool (C m3 t st3 t s3 ((l1.trans l2).trans l3) R3 rfl e4)
          · exact (ff e1).elim
        · exact (ff e1).elim
      | _ => exact (bad (bad_of hp (ns_of trivial))).elim
end Sx
end
section
open PySem PySem.W PySem.Calls PyProof.Rows
namespace Sx
set_option maxRecDepth 100000
variable {G : Gl} {B : Base} {m : Wm} {st : St} {s : Shared} {A : Around} {env : Env} {E : Value → Shared → Prop} {n : Nat} {h : Ih} {c : Cx}
/-! joining texts -/
theorem joinId_succ (f a b : Nat) : joinId (f + 1) a b = ifB (Nat.beq a 0) (some b) (ifO (joinId f (Nat.div a 2097152) b) none fun r => some (Nat.add (Nat.mod a 2097152) (Nat.mul 2097152 r))) := rfl
theorem joinId_list : ∀ (f : Nat) (la lb : List Nat) (z : Nat), okL la = true → joinId f (sidL la) (sidL lb) = some z → z = sidL (la ++ lb) ∧ la.length ≤ f
  | 0, _, _, _, _, e => by (first | exact (ff e).elim | exact (nn e).elim | cases e)
  | f + 1, [], lb, z, _, e => by rw [joinId_succ] at e; (first | exact (ff e).elim | exact (nn e).elim | cases e); exact ⟨rfl, Nat.zero_le _⟩
  | f + 1, c :: r, lb, z, o, e => by
    rw [okL_cons] at o
    obtain ⟨o1, o2⟩ := ifB_ff o
    have c1 := Nat.blt_eq.mp o1
    have e0 : sidL (c :: r) = c + 1 + 2097152 * sidL r := sidL_cons c r
    have q : Nat.div (sidL (c :: r)) 2097152 = sidL r := by show sidL (c :: r) / 2097152 = _; rw [e0]; omega
    have p : Nat.mod (sidL (c :: r)) 2097152 = c + 1 := by show sidL (c :: r) % 2097152 = _; rw [e0]; omega
    have nz : Nat.beq (sidL (c :: r)) 0 = false := by
      cases y : Nat.beq (sidL (c :: r)) 0 with
      | false => rfl
      | true => have := Nat.beq_eq.mp y; omega
    rw [joinId_succ, nz, q, p] at e
    change ifO (joinId f (sidL r) (sidL lb)) none _ = some z at e
    cases y : joinId f (sidL r) (sidL lb) with
    | none => rw [y] at e; (first | exact (ff e).elim | exact (nn e).elim | cases e)
    | some w =>
      rw [y] at e
      obtain ⟨ih, il⟩ := joinId_list f r lb w o2 y
      (first | exact (ff e).elim | exact (nn e).elim | cases e)
      refine ⟨?_, by rw [List.length_cons]; omega⟩
      show c + 1 + 2097152 * w = _
      rw [ih]; rfl
theorem okL_append : ∀ {a b : List Nat}, okL a = true → okL b = true → okL (a ++ b) = true
  | [], _, _, h => h
  | c :: r, b, h, h' => by
    rw [okL_cons] at h
    obtain ⟨x, y⟩ := ifB_ff h
    show okL (c :: (r ++ b)) = true
    rw [okL_cons, x]; exact okL_append y h'
theorem join_sound {x y : Str} {z w : Nat} (ox : okS x = true) (oy : okS y = true) (e : joinId 64 (sid x) (sid y) = some z) (e2 : joinId 64 (sid y) 0 = some w) : sid (x ++ y) = z ∧ okS (x ++ y) = true ∧ x.length + y.length ≤ sizeLine := by
  have tl : (x ++ y).cps.toList = x.cps.toList ++ y.cps.toList := by
    obtain ⟨a⟩ := x; obtain ⟨b⟩ := y; exact Array.toList_append
  obtain ⟨p, p2⟩ := joinId_list 64 x.cps.toList y.cps.toList z ox e
  obtain ⟨_, q⟩ := joinId_list 64 y.cps.toList [] w oy e2
  refine ⟨?_, ?_, ?_⟩
  · show sidL (x ++ y).cps.toList = z; rw [tl, p]
  · show okL (x ++ y).cps.toList = true; rw [tl]; exact okL_append ox oy
  · have : x.length = x.cps.toList.length := rfl
    have : y.length = y.cps.toList.length := rfl
    rw [sizeLine_eq]; omega
/-! tuples, several times -/
theorem noFill_tuple_mul : fillsNumberSlot (.type "tuple") "mul" = pure false :=
  PySem.fillsNumberSlot_seq (id := "tuple.__mul__") (r := some (.builtin "tuple.__rmul__")) F.slot_tuple_mul.lookup (by decide +kernel) F.slot_tuple_rmul.lookup (by decide +kernel)
theorem repeat_tuple : seqRepeat? (.type "tuple") = pure (some (.builtin "tuple.__mul__")) := by
  unfold seqRepeat?
  rw [PySem.seqSlot_of (T := "tuple") (name := "__mul__") (id := "tuple.__mul__") F.slot_tuple_mul.lookup (by decide +kernel), PySem.seqSlot_of (T := "tuple") (name := "__rmul__") (id := "tuple.__rmul__") F.slot_tuple_rmul.lookup (by decide +kernel)]
  rfl
theorem int_rmul_tuple (a : Int) (t : Tok) (l : Addr) (items : Array Value) (n : Nat) (d : Option Addr) (sl : Array (Option Value)) :
    Meets (Builtin.«int.__rmul__» ⟨[.int a t, .ref l], []⟩) (fun _ R s => s.heap.get? l = some { cls := .type "tuple", dict := d, data := .seq items n, slots := sl } ∧ R (.ok (.ret Value.notImplemented)) s) :=
  .of_wp fun prog w A R s h => by obtain ⟨hp, g, d, tk, os⟩ := s; obtain ⟨hl, h⟩ := h; wp_walk; exact ⟨_, rfl, h⟩
theorem fold_rep (v : Value) : ∀ (k : Nat) (acc : Array Value), List.foldl (fun x1 x2 => x1 ++ x2) acc (List.replicate k #[v]) = acc ++ (List.replicate k v).toArray
  | 0, acc => by simp
  | k + 1, acc => by
    rw [List.replicate_succ, List.foldl_cons, fold_rep v k, List.replicate_succ]
    apply Array.toList_inj.mp
    rw [Array.toList_append, Array.toList_append, Array.toList_append, List.append_assoc]
    rfl
theorem tuple_mulW (l : Addr) (items : Array Value) (n : Nat) (d : Option Addr) (sl : Array (Option Value)) (x : Int) (u : Tok) (v : Value) (h1 : 2 ≤ x) (h2 : x ≤ 9) (h4 : items = #[v]) :
    Meets (Builtin.«tuple.__mul__» ⟨[.ref l, .int x u], []⟩) (fun _ R s => s.heap.get? l = some { cls := .type "tuple", dict := d, data := .seq items n, slots := sl } ∧ R (.ok (.ret (Value.ref s.heap.objs.size))) { s with heap := s.heap.push { cls := Value.type "tuple", data := Data.seq (List.replicate x.toNat v).toArray }, toks := s.toks }) :=
  .of_wp fun prog w A R s h => by
    obtain ⟨hp, g, dd, tk, os⟩ := s; obtain ⟨hl, h⟩ := h
    have h3 : items.size = 1 := by rw [h4]; rfl
    have ne : items.isEmpty = false := by rw [Array.isEmpty_eq_false_iff]; intro q; rw [q] at h3; (first | exact (ff h3).elim | exact (nn h3).elim | cases h3)
    have c1 : (decide (x < -(2 ^ 63)) || decide (x ≥ 2 ^ 63)) = false := by simp; omega
    have c2 : (items.isEmpty || (x == 1)) = false := by rw [ne]; simp; omega
    have c3 : (decide (x ≤ 0) || items.isEmpty) = false := by rw [ne]; simp; omega
    have hx : items.size * x.toNat ≤ 9 := by rw [h3]; omega
    have c4 : decide ((items.size : Int) * x > (2 ^ 63 - 1) / 8) = false := by rw [h3]; simp; omega
    have c5 : Builtin.Tuple.tupleTooMany ((items.size : Int) * x) = false := by rw [h3]; unfold Builtin.Tuple.tupleTooMany; simp [sizeLine_eq]; omega
    wp_walk
    refine wpAny_ite_false (decide_eq_false (by rw [c1]; decide)) ?_
    wp_walk
    refine wpAny_ite_false (decide_eq_false (by rw [c2]; decide)) ?_
    wp_walk
    refine wpAny_ite_false (decide_eq_false (by rw [c3]; decide)) ?_
    wp_walk
    refine wpAny_ite_false c4 ?_
    wp_walk
    refine wpAny_ite_false (decide_eq_false (by rw [c5]; decide)) ?_
    wp_walk
    have fe : List.foldl (fun x1 x2 => x1 ++ x2) #[] (List.replicate x.toNat items) = (List.replicate x.toNat v).toArray := by rw [h4, fold_rep]; simp
    rw [fe]
    refine wpAny_ite_false (decide_eq_false (by rw [List.size_toArray, List.length_replicate, sizeLine_eq]; omega)) ?_
    wp_walk
    exact ⟨_, rfl, h⟩
noncomputable def isTupObj (ob : Obj) (xs : Array Value) : Prop := ob.cls = .type "tuple" ∧ ∃ n, ob.data = .seq xs n
theorem short_le {xs : List V} {vs : Array Value} (h : short xs = true) (r : VsRel m xs vs.toList) : vs.size ≤ 10000 := by
  have := Nat.ble_eq.mp h
  have l : xs.length = vs.size := r.length
  omega
theorem rep_rel {x : V} {v : Value} (r : VRel m x v) : ∀ k : Nat, VsRel m (List.replicate k x) (List.replicate k v)
  | 0 => trivial
  | k + 1 => ⟨r, rep_rel r k⟩
theorem small_of {i : Int} (h : small i = true) : 0 ≤ i ∧ i ≤ 10000 := by
  unfold small at h
  split at h
  · have := Nat.ble_eq.mp h
    constructor <;> (simp only [Int.ofNat_eq_natCast]; omega)
  · (first | exact (ff h).elim | exact (nn h).elim | cases h)
theorem cat_sound (g : GOk G) {a b : V} {k : V → St → Bool} {v w : Value} {Q : Value → Shared → Prop} (e : catV G.P a b k st = true) (ha : VRel m a v) (hb : VRel m b w) (R : Rel G B m st s) (C : Cont G B m VRel k Q) :
    wpAny (model G.prog G.w) A (binaryOp .Add v w) Q E s := by
  obtain ⟨o, x, ob, rfl, S, e1⟩ := lookV_sound g R ha e
  obtain ⟨o', y, ob', rfl, S', e2⟩ := lookV_sound g R hb e1
  cases o with
  | tup xs =>
    cases o' with
    | tup ys =>
      obtain ⟨hc, i1, n1, hd, r1⟩ := S.rel
      obtain ⟨hc', i2, n2, hd', r2⟩ := S'.rel
      have z1 := S.at_
      have z2 := S'.at_
      obtain ⟨cls, dd, data, sl⟩ := ob
      obtain ⟨cls', dd', data', sl'⟩ := ob'
      dsimp only at hc hd hc' hd'
      subst hc hd hc' hd'
      have l1 : xs.length = i1.size := r1.length
      have l2 : ys.length = i2.size := r2.length
      rcases xs with _ | ⟨p, ps⟩
      · refine concat_meets ⟨_, z1, rfl⟩ ⟨_, z2, rfl⟩ noFill_tuple_add seq_tuple_add PySem.F.slot_tuple_add PySem.F.entry_tuple_add (PySem.F.args_tuple_add_2 _ _)
          (tuple_addW0 x y i1 i2 n1 n2 dd dd' sl sl' (by rw [Array.isEmpty_iff_size_eq_zero]; exact l1.symm)) ⟨z1, z2, ?_⟩
        exact C.now (a := b) R e2 hb
      · have ne1 : ¬ i1.isEmpty = true := by rw [Array.isEmpty_iff_size_eq_zero, ← l1, List.length_cons]; omega
        rcases ys with _ | ⟨q, qs⟩
        · refine concat_meets ⟨_, z1, rfl⟩ ⟨_, z2, rfl⟩ noFill_tuple_add seq_tuple_add PySem.F.slot_tuple_add PySem.F.entry_tuple_add (PySem.F.args_tuple_add_2 _ _)
            (tuple_addW1 x y i1 i2 n1 n2 dd dd' sl sl' ne1 (by rw [Array.isEmpty_iff_size_eq_zero]; exact l2.symm)) ⟨z1, z2, ?_⟩
          exact C.now (a := a) R e2 ha
        · have ne2 : ¬ i2.isEmpty = true := by rw [Array.isEmpty_iff_size_eq_zero, ← l2, List.length_cons]; omega
          obtain ⟨s1, e3⟩ := ifB_ff (b := short (p :: ps)) e2
          obtain ⟨s2, e4⟩ := ifB_ff e3
          refine concat_meets ⟨_, z1, rfl⟩ ⟨_, z2, rfl⟩ noFill_tuple_add seq_tuple_add PySem.F.slot_tuple_add PySem.F.entry_tuple_add (PySem.F.args_tuple_add_2 _ _)
            (tuple_addW2 x y i1 i2 n1 n2 dd dd' sl sl' ne1 ne2 (by have := short_le s1 r1; have := short_le s2 r2; rw [sizeLine_eq]; omega)) ⟨z1, z2, ?_⟩
          refine newRef_sound R (t := s.toks) e4 rfl rfl ⟨rfl, _, _, rfl, ?_⟩ C
          rw [Array.toList_append]
          exact (r1.append r2).mono (m.le_add _)
    | _ => (first | exact (ff e2).elim | exact (nn e2).elim | cases e2)
  | list xs =>
    cases o' with
    | list ys =>
      obtain ⟨i1, n1, rfl, r1⟩ := S.rel
      obtain ⟨i2, n2, rfl, r2⟩ := S'.rel
      obtain ⟨s1, e3⟩ := ifB_ff (b := short xs) e2
      obtain ⟨s2, e4⟩ := ifB_ff e3
      refine concat_meets ⟨_, S.at_, rfl⟩ ⟨_, S'.at_, rfl⟩ noFill_list_add seq_list_add PySem.F.slot_list_add PySem.F.entry_list_add (PySem.F.args_list_add_2 _ _)
        (list_addW x y i1 i2 n1 n2 none none #[] #[] (by have := short_le s1 r1; have := short_le s2 r2; rw [sizeLine_eq]; omega)) ⟨S.at_, S'.at_, ?_⟩
      refine newRef_sound R (t := s.toks) e4 rfl rfl ⟨_, _, rfl, ?_⟩ C
      rw [Array.toList_append]
      exact (r1.append r2).mono (m.le_add _)
    | _ => (first | exact (ff e2).elim | exact (nn e2).elim | cases e2)
  | _ => (first | exact (ff e2).elim | exact (nn e2).elim | cases e2)
theorem list_mul_leaf {x : Addr} {items : Array Value} {n1 j : Nat} {i : Int} {v1 : Value} {t : Tok} {Q : Value → Shared → Prop} (jn : i.toNat = j) (i0 : 0 ≤ i) (hi : items = #[v1]) (z1 : s.heap.get? x = some { cls := .type "list", data := .seq items n1 }) (h9 : j ≤ 9)
    (hq : Q (.ref s.heap.objs.size) { s with heap := s.heap.push { cls := .type "list", data := .seq (List.replicate j v1).toArray } }) : wpAny (model G.prog G.w) A (binaryOp .Mult (.ref x) (.int i t)) Q E s := by
  have hz : items.size = 1 := by rw [hi]; rfl
  have f1 : ¬(!Builtin.List.listFitsIndex i) = true := by simp [Builtin.List.listFitsIndex]; omega
  have f2 : ¬ items.size * i.toNat > (2 ^ 63 - 1) / 8 := by rw [jn, hz]; omega
  have f3 : ¬ Builtin.List.listTooLong (items.size * i.toNat) = true := by
    rw [jn, hz]
    have : Builtin.List.listTooLong (1 * j) = false := by unfold Builtin.List.listTooLong; rw [decide_eq_false_iff_not, sizeLine_eq]; omega
    rw [this]; decide
  have fe : List.foldl (fun x1 x2 => x1 ++ x2) #[] (List.replicate (if items.isEmpty = true then 0 else i.toNat) items) = (List.replicate j v1).toArray := by
    rw [hi, show (if (#[v1] : Array Value).isEmpty = true then 0 else i.toNat) = i.toNat from rfl, jn, fold_rep]; simp
  refine wpAny_binaryOp_repeat_ref (T := "list") (U := "int") (by decide) ⟨_, z1, rfl⟩ (fun s' => typeIs_int s' i t) noFill_list_mul F.fills_int_mul F.slot_int_rmul repeat_list F.slot_int_index.lookup
    (call_meets F.slot_int_rmul (typeIs_int s i t) F.entry_int_rmul (F.args_int_rmul_2 _ _) (lm_int_rmul_list_any i t x items n1 none #[])
      ⟨z1, rfl, ⟨_, z1, rfl⟩, call_meets F.slot_list_mul ⟨_, z1, rfl⟩ F.entry_list_mul (F.args_list_mul_2 _ _) (lm_list_mul_any x items n1 none #[] i t f1 f2 f3) ⟨z1, ?_⟩⟩)
  rw [fe]; exact hq
theorem rep_sound (g : GOk G) {a : V} {j : Nat} {t : Tok} {k : V → St → Bool} {v : Value} {Q : Value → Shared → Prop} (e : repV G.P a j k st = true) (ha : VRel m a v) (R : Rel G B m st s) (C : Cont G B m VRel k Q) :
    wpAny (model G.prog G.w) A (binaryOp .Mult v (.int (Int.ofNat j) t)) Q E s := by
  obtain ⟨o, x, ob, rfl, S, e1⟩ := lookV_sound g R ha e
  have jn : (Int.ofNat j).toNat = j := rfl
  cases o with
  | tup xs =>
    rcases xs with _ | ⟨p, _ | ⟨q, qs⟩⟩ <;> try (first | exact (ff e1).elim | exact (nn e1).elim | cases e1)
    obtain ⟨h2, e2⟩ := ifB_ff (b := Nat.ble 2 j) e1
    obtain ⟨h9, e3⟩ := ifB_ff e2
    have h2 := Nat.ble_eq.mp h2
    have h9 := Nat.ble_eq.mp h9
    obtain ⟨hc, i1, n1, hd, r1⟩ := S.rel
    have z1 := S.at_
    obtain ⟨cls, dd, data, sl⟩ := ob
    dsimp only at hc hd
    subst hc hd
    obtain ⟨l⟩ := i1
    rcases l with _ | ⟨v1, _ | ⟨v2, l⟩⟩
    · exact r1.elim
    · refine wpAny_binaryOp_repeat_ref (T := "tuple") (U := "int") (by decide) ⟨_, z1, rfl⟩ (fun s' => typeIs_int s' _ t) noFill_tuple_mul F.fills_int_mul F.slot_int_rmul repeat_tuple F.slot_int_index.lookup
        (call_meets F.slot_int_rmul (typeIs_int s _ t) F.entry_int_rmul (F.args_int_rmul_2 _ _) (int_rmul_tuple _ t x #[v1] n1 dd sl)
          ⟨z1, rfl, ⟨_, z1, rfl⟩, call_meets F.slot_tuple_mul ⟨_, z1, rfl⟩ F.entry_tuple_mul (F.args_tuple_mul_2 _ _) (tuple_mulW x #[v1] n1 dd sl _ t v1 (by simp; omega) (by simp; omega) rfl) ⟨z1, ?_⟩⟩)
      refine newRef_sound R (t := s.toks) e3 rfl rfl ⟨rfl, _, _, rfl, ?_⟩ C
      exact rep_rel (r1.1.mono (m.le_add _)) j
    · exact r1.2.elim
  | list xs =>
    rcases xs with _ | ⟨p, _ | ⟨q, qs⟩⟩ <;> try (first | exact (ff e1).elim | exact (nn e1).elim | cases e1)
    obtain ⟨h9, e3⟩ := ifB_ff (b := Nat.ble j 9) e1
    have h9 := Nat.ble_eq.mp h9
    obtain ⟨i1, n1, rfl, r1⟩ := S.rel
    have z1 := S.at_
    obtain ⟨l⟩ := i1
    rcases l with _ | ⟨v1, _ | ⟨v2, l⟩⟩
    · exact r1.elim
    · refine list_mul_leaf (i := Int.ofNat j) rfl (Int.natCast_nonneg j) rfl z1 h9 ?_
      refine newRef_sound R (t := s.toks) e3 rfl rfl ⟨_, _, rfl, ?_⟩ C
      exact rep_rel (r1.1.mono (m.le_add _)) j
    · exact r1.2.elim
  | _ => (first | exact (ff e1).elim | exact (nn e1).elim | cases e1)
theorem iEq_eq8 (a b : Int) : iEq a b = decide (a = b) := by
  (first | exact (ff a).elim | exact (nn a).elim | cases a) <;> (first | exact (ff b).elim | exact (nn b).elim | cases b) <;> simp only [iEq]
  · rename_i x y
    by_cases q : x = y
    · subst q; simp [Nat.beq_refl]
    · rw [decide_eq_false (fun e => q (Int.ofNat.inj e))]; cases z : Nat.beq x y with | false => rfl | true => exact absurd (Nat.beq_eq.mp z) q
  · rfl
  · rfl
  · rename_i x y
    by_cases q : x = y
    · subst q; simp [Nat.beq_refl]
    · rw [decide_eq_false (fun e => q (Int.negSucc.inj e))]; cases z : Nat.beq x y with | false => rfl | true => exact absurd (Nat.beq_eq.mp z) q
theorem bits_of {i : Int} (h : bitsOk i = true) : 0 ≤ i ∧ i < 2 ^ 64 := by
  unfold bitsOk at h
  split at h
  · have := Nat.ble_eq.mp h
    constructor <;> (simp only [Int.ofNat_eq_natCast]; omega)
  · (first | exact (ff h).elim | exact (nn h).elim | cases h)
theorem nz_of {i : Int} (h : nzI i = true) : i ≠ 0 := by
  intro q
  subst q
  (first | exact (ff h).elim | exact (nn h).elim | cases h)
theorem bin_sound (g : GOk G) {op : Operator} {a b : V} {k : V → St → Bool} {v w : Value} {Q : Value → Shared → Prop} (e : binop G.P op a b k st = true) (ha : VRel m a v) (hb : VRel m b w) (R : Rel G B m st s) (C : Cont G B m VRel k Q) :
    wpAny (model G.prog G.w) A (binaryOp op v w) Q E s := by
  cases op with
  | Add =>
    cases a with
    | int i =>
      cases b with
      | int j => obtain ⟨t, rfl⟩ := ha; obtain ⟨u, rfl⟩ := hb; exact add_int (C.now (a := .int (i + j)) (R.toks _) e ⟨_, rfl⟩)
      | _ => (first | exact (ff e).elim | exact (nn e).elim | cases e)
    | str x =>
      cases b with
      | str y =>
        obtain ⟨x', t, ox, rfl, rfl⟩ := ha
        obtain ⟨y', u, oy, rfl, rfl⟩ := hb
        obtain ⟨z, e1, e2⟩ := ifO_ff e
        obtain ⟨z', e3, e4⟩ := ifO_ff e2
        obtain ⟨p, q, r⟩ := join_sound ox oy e1 e3
        refine PySem.SB.add (fun t' k' => ?_) r
        exact C.now (a := .str z) (R.toks _) e4 ⟨_, _, q, p, rfl⟩
      | _ => (first | exact (ff e).elim | exact (nn e).elim | cases e)
    | _ => exact cat_sound g e ha hb R C
  | Sub =>
    cases a with
    | int i =>
      cases b with
      | int j => obtain ⟨t, rfl⟩ := ha; obtain ⟨u, rfl⟩ := hb; exact sub_int (C.now (a := .int (i - j)) (R.toks _) e ⟨_, rfl⟩)
      | _ => (first | exact (ff e).elim | exact (nn e).elim | cases e)
    | _ => (first | exact (ff e).elim | exact (nn e).elim | cases e)
  | Mult =>
    cases b with
    | int j =>
      obtain ⟨u, rfl⟩ := hb
      cases a with
      | int i =>
        obtain ⟨t, rfl⟩ := ha
        have e' : ifB (bitsOk j) (k (.int (i * j)) st) (ifB (bitsOk i) (k (.int (i * j)) st) false) = true := e
        cases q : bitsOk j with
        | true =>
          rw [q] at e'
          obtain ⟨p1, p2⟩ := bits_of q
          exact mul_int (C.now (a := .int (i * j)) (R.toks _) e' ⟨_, rfl⟩) (.of_right (intBits_le_64 (by omega) (by omega)))
        | false =>
          rw [q] at e'
          obtain ⟨h1, e1⟩ := ifB_ff (b := bitsOk i) e'
          obtain ⟨p1, p2⟩ := bits_of h1
          exact mul_int (C.now (a := .int (i * j)) (R.toks _) e1 ⟨_, rfl⟩) (.of_left (intBits_le_64 (by omega) (by omega)))
      | _ =>
        cases j with
        | ofNat j => exact rep_sound g e ha R C
        | negSucc j => (first | exact (ff e).elim | exact (nn e).elim | cases e)
    | _ => (first | exact (ff e).elim | exact (nn e).elim | cases e)
  | Mod =>
    cases a with
    | int i =>
      cases b with
      | int j =>
        obtain ⟨t, rfl⟩ := ha
        obtain ⟨u, rfl⟩ := hb
        obtain ⟨h1, e1⟩ := ifB_ff (b := nzI j) e
        exact mod_int (nz_of h1) (C.now (a := .int (i.fmod j)) (R.toks _) e1 ⟨_, rfl⟩)
      | _ => (first | exact (ff e).elim | exact (nn e).elim | cases e)
    | _ => (first | exact (ff e).elim | exact (nn e).elim | cases e)
  | FloorDiv =>
    cases a with
    | int i =>
      cases b with
      | int j =>
        obtain ⟨t, rfl⟩ := ha
        obtain ⟨u, rfl⟩ := hb
        obtain ⟨h1, e1⟩ := ifB_ff (b := nzI j) e
        obtain ⟨h2, e2⟩ := ifB_ff (b := bitsOk j) e1
        obtain ⟨p1, p2⟩ := bits_of h2
        refine floordiv_int (nz_of h1) (C.now (a := .int (i.fdiv j)) (R.toks _) e2 ⟨_, rfl⟩) (.inl (PyProof.noPylong_of_log2 ?_))
        have h0 : j.natAbs ≠ 0 := by have := nz_of h1; omega
        have : j.natAbs.log2 < 64 := (Nat.log2_lt h0).mpr (by omega)
        omega
      | _ => (first | exact (ff e).elim | exact (nn e).elim | cases e)
    | _ => (first | exact (ff e).elim | exact (nn e).elim | cases e)
  | Pow =>
    cases a with
    | int i =>
      cases b with
      | int j =>
        obtain ⟨t, rfl⟩ := ha
        obtain ⟨u, rfl⟩ := hb
        obtain ⟨h1, e1⟩ := ifB_ff (b := iEq i 10) e
        obtain ⟨h2, e2⟩ := ifB_ff (b := iEq j 18) e1
        rw [iEq_eq8] at h1 h2
        have h1 := of_decide_eq_true h1
        have h2 := of_decide_eq_true h2
        subst h1 h2
        exact pow_int (by decide) (by decide +kernel) (C.now (a := .int 1000000000000000000) (R.toks _) e2 ⟨_, rfl⟩)
      | _ => (first | exact (ff e).elim | exact (nn e).elim | cases e)
    | _ => (first | exact (ff e).elim | exact (nn e).elim | cases e)
  | _ => (first | exact (ff e).elim | exact (nn e).elim | cases e)
end Sx
end
section
open PySem PySem.W PySem.Calls PyProof.Rows
namespace Sx
variable {G : Gl} {B : Base} {m : Wm} {st : St} {s : Shared} {A : Around} {env : Env} {E : Value → Shared → Prop} {n : Nat} {h : Ih} {c : Cx}
/-! equality of data -/
mutual
inductive DR (m : Wm) : D → PyData → Prop
  | none : DR m .none .none
  | int (i) : DR m (.int i) (.int i)
  | sym {k i} : m.σ[k]? = some i → DR m (.sym k) (.int i)
  | str {n x} : okS x = true → sid x = n → DR m (.str n) (.str x)
  | tup {l xs} : DsR m l xs → DR m (.tup l) (.tuple xs)
  | list {l xs} : DsR m l xs → DR m (.list l) (.list xs)
inductive DsR (m : Wm) : D → List PyData → Prop
  | nil : DsR m .nil []
  | cons {a l x xs} : DR m a x → DsR m l xs → DsR m (.cons a l) (x :: xs)
end
theorem iEq_eq (a b : Int) : iEq a b = decide (a = b) := by
  (first | exact (ff a).elim | exact (nn a).elim | cases a) <;> (first | exact (ff b).elim | exact (nn b).elim | cases b) <;> simp only [iEq]
  · rename_i x y
    by_cases q : x = y
    · subst q; simp [Nat.beq_refl]
    · rw [decide_eq_false (fun e => q (Int.ofNat.inj e))]; cases z : Nat.beq x y with | false => rfl | true => exact absurd (Nat.beq_eq.mp z) q
  · rfl
  · rfl
  · rename_i x y
    by_cases q : x = y
    · subst q; simp [Nat.beq_refl]
    · rw [decide_eq_false (fun e => q (Int.negSucc.inj e))]; cases z : Nat.beq x y with | false => rfl | true => exact absurd (Nat.beq_eq.mp z) q
theorem nbeq_eq (a b : Nat) : Nat.beq a b = decide (a = b) := by
  by_cases q : a = b
  · subst q; simp [Nat.beq_refl]
  · rw [decide_eq_false q]; cases z : Nat.beq a b with | false => rfl | true => exact absurd (Nat.beq_eq.mp z) q
theorem sidEq {x y : Str} (ox : okS x = true) (oy : okS y = true) : (x == y) = Nat.beq (sid x) (sid y) := by
  rw [nbeq_eq]
  by_cases q : x = y
  · subst q; simp
  · rw [decide_eq_false (fun e => q (sid_inj ox oy e))]; exact beq_eq_false_iff_ne.mpr q
theorem eqD_sound : ∀ (a b : D) (r : Bool), eqD a b = some r → (∀ x y, DR m a x → DR m b y → PyData.eqv x y = r) ∧ (∀ xs ys, DsR m a xs → DsR m b ys → PyData.eqvAll xs ys = r) := by
  intro a
  induction a with
  | none =>
    intro b r e
    refine ⟨fun x y p q => ?_, fun xs ys p q => nomatch p⟩
    (first | exact (ff p).elim | exact (nn p).elim | cases p); (first | exact (ff q).elim | exact (nn q).elim | cases q) <;> ((first | exact (ff e).elim | exact (nn e).elim | cases e); simp [PyData.eqv])
  | int i =>
    intro b r e
    refine ⟨fun x y p q => ?_, fun xs ys p q => nomatch p⟩
    (first | exact (ff p).elim | exact (nn p).elim | cases p); (first | exact (ff q).elim | exact (nn q).elim | cases q) <;> first | ((first | exact (ff e).elim | exact (nn e).elim | cases e); simp [PyData.eqv]; done) | skip
    · simp only [eqD, Option.some.injEq] at e; rw [← e, iEq_eq]; simp [PyData.eqv]; rfl
    · (first | exact (ff e).elim | exact (nn e).elim | cases e)
  | sym i =>
    intro b r e
    refine ⟨fun x y p q => ?_, fun xs ys p q => nomatch p⟩
    cases p with
    | sym h1 =>
      cases q with
      | sym h2 =>
        simp only [eqD] at e
        split at e
        · rename_i z; (first | exact (ff e).elim | exact (nn e).elim | cases e)
          rw [Nat.beq_eq.mp z] at h1
          rw [h1] at h2; (first | exact (ff h2).elim | exact (nn h2).elim | cases h2)
          simp [PyData.eqv]
        · (first | exact (ff e).elim | exact (nn e).elim | cases e)
      | int j => (first | exact (ff e).elim | exact (nn e).elim | cases e)
      | _ => (first | exact (ff e).elim | exact (nn e).elim | cases e); simp [PyData.eqv]
  | str x =>
    intro b r e
    refine ⟨fun x y p q => ?_, fun xs ys p q => nomatch p⟩
    cases p with
    | str o1 h1 =>
      cases q with
      | str o2 h2 =>
        subst h1; subst h2
        simp only [eqD, Option.some.injEq] at e
        rw [← e, ← sidEq o1 o2]; simp [PyData.eqv]
      | _ => (first | exact (ff e).elim | exact (nn e).elim | cases e); simp [PyData.eqv]
  | tup l ih =>
    intro b r e
    refine ⟨fun x y p q => ?_, fun xs ys p q => nomatch p⟩
    cases p with
    | tup h1 =>
      cases q with
      | tup h2 => simp only [PyData.eqv]; exact (ih _ r e).2 _ _ h1 h2
      | _ => (first | exact (ff e).elim | exact (nn e).elim | cases e); simp [PyData.eqv]
  | list l ih =>
    intro b r e
    refine ⟨fun x y p q => ?_, fun xs ys p q => nomatch p⟩
    cases p with
    | list h1 =>
      cases q with
      | list h2 => simp only [PyData.eqv]; exact (ih _ r e).2 _ _ h1 h2
      | _ => (first | exact (ff e).elim | exact (nn e).elim | cases e); simp [PyData.eqv]
  | nil =>
    intro b r e
    refine ⟨fun x y p q => (nomatch p), fun xs ys p q => ?_⟩
    (first | exact (ff p).elim | exact (nn p).elim | cases p); (first | exact (ff q).elim | exact (nn q).elim | cases q) <;> ((first | exact (ff e).elim | exact (nn e).elim | cases e); simp [PyData.eqvAll])
  | cons a l iha ihl =>
    intro b r e
    refine ⟨fun x y p q => (nomatch p), fun xs ys p q => ?_⟩
    cases p with
    | cons p1 p2 =>
      cases q with
      | nil => (first | exact (ff e).elim | exact (nn e).elim | cases e); simp [PyData.eqvAll]
      | cons q1 q2 =>
        simp only [eqD] at e
        simp only [PyData.eqvAll]
        split at e
        · rename_i z; rw [(iha _ _ z).1 _ _ p1 q1, (ihl _ _ e).2 _ _ p2 q2, Bool.true_and]
        · rename_i z; (first | exact (ff e).elim | exact (nn e).elim | cases e); rw [(iha _ _ z).1 _ _ p1 q1, Bool.false_and]
        · (first | exact (ff e).elim | exact (nn e).elim | cases e)
theorem okS_strOk {x : Str} (h : okS x = true) : PyData.strOk x = true := by
  have : ∀ l : List Nat, okL l = true → l.all (· < 0x110000) = true := by
    intro l
    induction l with
    | nil => intro _; rfl
    | cons c r ih => intro e; rw [okL_cons] at e; obtain ⟨a, b⟩ := ifB_ff e; rw [List.all_cons, ih b, Bool.and_true]; exact decide_eq_true (Nat.blt_eq.mp a)
  unfold PyData.strOk
  rw [← Array.all_toList]
  exact this _ h
/-- what is read off is what stands there -/
structure RdOk (m : Wm) (s : Shared) (n : Nat) (w : Value) (d : D) (x : PyData) (as : List Addr) : Prop where
  rd : Reads s.heap w x as
  dr : DR m d x
  can : x.canLay0 = true
  dp : x.depth ≤ n
structure RdsOk (m : Wm) (s : Shared) (n : Nat) (ws : List Value) (d : D) (xs : List PyData) (as : List Addr) : Prop where
  rd : ReadsAll s.heap ws xs as
  dr : DsR m d xs
  can : PyData.canLayAll0 xs = true
  dp : PyData.depthAll xs ≤ n
theorem readD_sound (g : GOk G) (R : Rel G B m st s) : ∀ n : Nat, (∀ (v : V) (w : Value) (k : D → St → Bool), readD G.P n v k st = true → VRel m v w → ∃ d x as, k d st = true ∧ RdOk m s n w d x as) ∧
    (∀ (vs : List V) (ws : List Value) (k : D → St → Bool), readDs G.P n vs k st = true → VsRel m vs ws → ∃ d xs as, k d st = true ∧ RdsOk m s n ws d xs as) := by
  intro n
  induction n with
  | zero => exact ⟨fun v w k e _ => (by (first | exact (ff e).elim | exact (nn e).elim | cases e)), fun vs ws k e _ => (by (first | exact (ff e).elim | exact (nn e).elim | cases e))⟩
  | succ n ih =>
    refine ⟨fun v w k e hv => ?_, ?_⟩
    · have deep : lookV G.P v (fun o s => match o with
          | .tup xs => readDs G.P n xs (fun l s => k (.tup l) s) s
          | .list xs => readDs G.P n xs (fun l s => k (.list l) s) s
          | _ => false) st = true → ∃ d x as, k d st = true ∧ RdOk m s (n + 1) w d x as := by
        intro e
        obtain ⟨o, a, ob, rfl, S, e1⟩ := lookV_sound g R hv e
        cases o with
        | tup xs =>
          obtain ⟨hc, i, nn, hd, r⟩ := S.rel
          obtain ⟨d, ys, as, e2, K⟩ := ih.2 xs _ _ e1 r
          exact ⟨_, .tuple ys, as, e2, ⟨.tuple S.at_ hc hd K.rd, .tup K.dr, by simpa [PyData.canLay0] using K.can, by simp only [PyData.depth]; have := K.dp; omega⟩⟩
        | list xs =>
          obtain ⟨i, nn, rfl, r⟩ := S.rel
          obtain ⟨d, ys, as, e2, K⟩ := ih.2 xs _ _ e1 r
          exact ⟨_, .list ys, _, e2, ⟨.list S.at_ rfl rfl K.rd, .list K.dr, by simpa [PyData.canLay0] using K.can, by simp only [PyData.depth]; have := K.dp; omega⟩⟩
        | _ => (first | exact (ff e1).elim | exact (nn e1).elim | cases e1)
      cases v with
      | none => have hv : w = .none := hv; subst hv; exact ⟨_, .none, [], e, ⟨.none, .none, by simp [PyData.canLay0], by simp [PyData.depth]⟩⟩
      | int i => obtain ⟨t, rfl⟩ := hv; exact ⟨_, .int i, [], e, ⟨.int i t, .int i, by simp [PyData.canLay0], by simp [PyData.depth]⟩⟩
      | sym k => obtain ⟨i, t, q, rfl⟩ := hv; exact ⟨_, .int i, [], e, ⟨.int i t, .sym q, by simp [PyData.canLay0], by simp [PyData.depth]⟩⟩
      | str n => obtain ⟨x, t, o, q, rfl⟩ := hv; exact ⟨_, .str x, [], e, ⟨.str x t, .str o q, by simpa [PyData.canLay0] using okS_strOk o, by simp [PyData.depth]⟩⟩
      | ref i => exact deep e
      | old a => exact deep e
      | _ => (first | exact (ff e).elim | exact (nn e).elim | cases e)
    · intro vs ws k e hv
      cases vs with
      | nil =>
        cases ws with
        | nil => exact ⟨_, [], [], e, ⟨.nil, .nil, by simp [PyData.canLayAll0], by simp [PyData.depthAll]⟩⟩
        | cons _ _ => exact hv.elim
      | cons v vs =>
        cases ws with
        | nil => exact hv.elim
        | cons w ws =>
          obtain ⟨d, x, as, e1, K1⟩ := ih.1 v w _ e hv.1
          obtain ⟨ds, xs, bs, e2, K2⟩ := ih.2 vs ws _ e1 hv.2
          exact ⟨_, x :: xs, as ++ bs, e2, ⟨.cons K1.rd K2.rd, .cons K1.dr K2.dr, by simp [PyData.canLayAll0, K1.can, K2.can], by simp only [PyData.depthAll]; have := K1.dp; have := K2.dp; omega⟩⟩
theorem shaped_of {n : Nat} {w : Value} {d : D} {x : PyData} {as : List Addr} (K : RdOk m s n w d x as) (h : n ≤ 64) : SeqAt.shaped x = true := by
  unfold SeqAt.shaped; rw [K.can, Bool.true_and]; exact decide_eq_true (Nat.le_trans K.dp h)
theorem Rel.noMods (g : GOk G) (R : Rel G B m st s) {a : Addr} (h : a ∈ m.ρ) : (a == sysModules) = false := by
  obtain ⟨o, e⟩ := g.sm
  have := (R.kbHere _ _ e).2.1
  cases q : (a == sysModules) with
  | false => rfl
  | true => exact absurd (beq_iff_eq.mp q ▸ h) this
theorem has_empty {a : Addr} {k : Int} {u : Tok} {ep : Nat} {t : SetTable} {Q : Bool → Shared → Prop} (ho : s.heap.get? a = some { cls := .type "frozenset", data := .set #[] ep t }) (hf : t.fits 0 = true)
    (hq : Q false { s with toks := s.toks + 1 }) : wpAny (model G.prog G.w) A (contains (.ref a) (.int k u)) Q E s := by
  have hel : ElemsOf (intKind G.prog G.w) (#[] : Array (Int × Value)).toList := fun e he => by (first | exact (ff he).elim | exact (nn he).elim | cases he)
  have hmem : ∀ k : Int, (fun _ : Int => false) k = true ↔ ∃ e ∈ (#[] : Array (Int × Value)).toList, (intKind G.prog G.w).is k e.2 = true := fun k => ⟨fun e => (by (first | exact (ff e).elim | exact (nn e).elim | cases e)), fun ⟨e, he, _⟩ => (by (first | exact (ff he).elim | exact (nn he).elim | cases he))⟩
  have hkey : (intKind G.prog G.w).is k (.int k u) = true := by simp [intKind, Value.isInt]
  have hT : s.TypeIs (.ref a) "frozenset" := ⟨_, ho, rfl⟩
  unfold contains
  try with_reducible refine wpAny_holding ?_
  refine wpAny_bind (wpAny_specialOf hT FB.slot_frozenset_contains.lookup ?_)
  show wpAny _ _ (if (some (Value.builtin "frozenset.__contains__") == some Value.none) = true then _ else _) _ E s
  rw [if_neg (by rw [beq_builtin_none]; exact Bool.false_ne_true)]
  refine wpAny_bind (wpAny_callSpecialUnlessNone?_slot (name := Str.ofString "__contains__") hT FB.slot_frozenset_contains
    (wpAny_call_entry FB.slot_frozenset_contains hT FB.entry_frozenset_contains ?_ (FB.args_frozenset_contains_2 _ _)))
  unfold Builtin.«frozenset.__contains__» Builtin.Frozenset.oneOther
  simp only [List.isEmpty_nil, bind_assoc]
  unfold Builtin.Frozenset.addrOf Builtin.Frozenset.withSetAsKey setContains
  refine wpAny_bind (wpAny_pure ?_)
  try dsimp only
  refine wpAny_bind (wpAny_pure ?_)
  try dsimp only
  refine wpAny_bind (wpAny_tryCatch ?_)
  refine wpAny_holding ?_
  refine wpAny_bind ((intKind G.prog G.w).pyHash hkey ?_)
  refine wpAny_bind (setFind_any (s := { s with toks := s.toks + 1 }) hkey rfl ho rfl hel hmem (by decide) hf fun r hr => ?_)
  refine wpAny_pure ?_
  show wpAny _ _ (ret (Value.bool r.isSome)) _ _ _
  rw [hr]
  exact wpAny_pure ⟨_, rfl, wpAny_truthy_bool hq⟩

/-! dicts -/
theorem keyEq_sound_str {x y : Str} {v : V} {r : Bool} (hy : KStr y v) (ox : okS x = true) (e : keyEq (.str (sid x)) v = some r) : r = decide (y = x) := by
  obtain ⟨oy, rfl⟩ := hy
  simp only [keyEq, Option.some.injEq] at e
  rw [← e, ← sidEq ox oy]
  by_cases q : y = x
  · subst q; simp
  · rw [decide_eq_false q]; exact beq_eq_false_iff_ne.mpr fun z => q z.symm
theorem keyEq_sound_int {x y : Int} {v : V} {r : Bool} (hy : KInt y v) (e : keyEq (.int x) v = some r) : r = decide (y = x) := by
  have hy : v = .int y := hy
  subst hy
  simp only [keyEq, Option.some.injEq] at e
  rw [← e, iEq_eq]
  by_cases q : y = x
  · subst q; simp
  · rw [decide_eq_false q, decide_eq_false fun z => q z.symm]
theorem dFind_sound {K : Type} [DecidableEq K] {kk : K → V → Prop} {k : K} {kv : V} (ke : ∀ {y v r}, kk y v → keyEq kv v = some r → r = decide (y = k)) : ∀ {es : List (V × V)} {kvs : List (K × Value)} {r : Option V}, EsRel kk m es kvs → dFind kv es = some r →
    match r with
    | some v => ∃ w, valueAt kvs k = some w ∧ VRel m v w
    | none => valueAt kvs k = none
  | [], [], r, _, e => by (first | exact (ff e).elim | exact (nn e).elim | cases e); rfl
  | e1 :: es, p :: ps, r, ⟨h1, h2, h3⟩, e => by
    unfold dFind at e
    split at e
    · rename_i q; (first | exact (ff e).elim | exact (nn e).elim | cases e)
      have := (ke h1 q).symm
      exact ⟨p.2, by simp [valueAt, this], h2⟩
    · rename_i q
      have z := (ke h1 q).symm
      have ih := dFind_sound ke h3 e
      have : valueAt (p :: ps) k = valueAt ps k := by simp [valueAt, z]
      rw [this]; exact ih
    · (first | exact (ff e).elim | exact (nn e).elim | cases e)
theorem dPut_sound {K : Type} [DecidableEq K] {kk : K → V → Prop} {k : K} {kv v : V} {w : Value} (hk : kk k kv) (hv : VRel m v w) (ke : ∀ {y v r}, kk y v → keyEq kv v = some r → r = decide (y = k)) : ∀ {es : List (V × V)} {kvs : List (K × Value)} {es' : List (V × V)}, (kvs.map (·.1)).Nodup → EsRel kk m es kvs → dPut kv v es = some es' → EsRel kk m es' (stored kvs k w)
  | [], [], es', _, _, e => by (first | exact (ff e).elim | exact (nn e).elim | cases e); exact ⟨hk, hv, trivial⟩
  | e1 :: es, p :: ps, es', nd, ⟨h1, h2, h3⟩, e => by
    simp only [List.map_cons, List.nodup_cons] at nd
    unfold dPut at e
    split at e
    · rename_i q; (first | exact (ff e).elim | exact (nn e).elim | cases e)
      have z := (ke h1 q).symm
      have z := of_decide_eq_true z
      have nin : k ∉ ps.map (·.1) := z ▸ nd.1
      have : stored (p :: ps) k w = (p.1, w) :: ps := by
        unfold stored
        rw [if_pos (by simp [z]), List.map_cons, if_pos z, map_store_of_not_mem ps k w nin]
      rw [this]; exact ⟨h1, hv, h3⟩
    · rename_i q
      have z := of_decide_eq_false (ke h1 q).symm
      split at e
      · rename_i l hl; (first | exact (ff e).elim | exact (nn e).elim | cases e)
        have ih := dPut_sound hk hv ke nd.2 h3 hl
        have : stored (p :: ps) k w = p :: stored ps k w := by
          unfold stored
          simp only [List.any_cons, decide_eq_false z, Bool.false_or]
          split
          · rw [List.map_cons, if_neg z]
          · rfl
        rw [this]; exact ⟨h1, h2, ih⟩
      · (first | exact (ff e).elim | exact (nn e).elim | cases e)
    · (first | exact (ff e).elim | exact (nn e).elim | cases e)
theorem IsDict.at {K : Type} [DecidableEq K] {knd : PySem.KeyKind G.prog G.w K} {ob : Obj} {kvs : List (K × Value)} {a : Addr} {h : Heap} (x : IsDict knd ob kvs) (e : h.get? a = some ob) : Heap.DictOf knd h a kvs := by
  obtain ⟨x1, es, ep, x2, x3, x4, x5⟩ := x
  exact ⟨ob, es, ep, e, x1, x2, x3, x4, x5⟩
theorem IsDict.of {K : Type} [DecidableEq K] {knd : PySem.KeyKind G.prog G.w K} {kvs : List (K × Value)} {a : Addr} {h : Heap} (x : Heap.DictOf knd h a kvs) : ∃ ob, h.get? a = some ob ∧ IsDict knd ob kvs := by
  obtain ⟨ob, es, ep, e, x1, x2, x3, x4, x5⟩ := x
  exact ⟨ob, e, x1, es, ep, x2, x3, x4, x5⟩
theorem strsOf_sound : ∀ {xs : List V} {ws : List Value} {ys : List Nat}, strsOf xs = some ys → VsRel m xs ws → ∃ ds as, ReadsAll s.heap ws ds as ∧ PyData.canLayAll0 ds = true ∧ PyData.depthAll ds = 0 ∧ ∀ x : Str, okS x = true → (ds.any fun y => PyData.eqv y (.str x)) = hasN (sid x) ys
  | [], [], ys, e, _ => by (first | exact (ff e).elim | exact (nn e).elim | cases e); exact ⟨[], [], .nil, by simp [PyData.canLayAll0], by simp [PyData.depthAll], fun _ _ => rfl⟩
  | v :: xs, w :: ws, ys, e, h => by
    unfold strsOf at e
    split at e
    · rename_i y
      split at e
      · rename_i l hl
        (first | exact (ff e).elim | exact (nn e).elim | cases e)
        obtain ⟨x', t, o, q, rfl⟩ := h.1
        obtain ⟨ds, as, r, c1, d1, hs⟩ := strsOf_sound hl h.2
        refine ⟨.str x' :: ds, [] ++ as, .cons (.str x' t) r, by simp [PyData.canLayAll0, PyData.canLay0, okS_strOk o, c1], by simp [PyData.depthAll, PyData.depth, d1], fun x ox => ?_⟩
        rw [List.any_cons, hs x ox]
        show (PyData.eqv (.str x') (.str x) || _) = ifB (Nat.beq (sid x) y) true (hasN (sid x) l)
        have : PyData.eqv (.str x') (.str x) = Nat.beq (sid x) y := by
          simp only [PyData.eqv]; rw [← q, sidEq o ox, nbeq_eq, nbeq_eq]
          by_cases z : sid x' = sid x
          · rw [z]
          · rw [decide_eq_false z, decide_eq_false (Ne.symm z)]
        rw [this]
        cases Nat.beq (sid x) y <;> rfl
      · (first | exact (ff e).elim | exact (nn e).elim | cases e)
    · (first | exact (ff e).elim | exact (nn e).elim | cases e)
/-- a key, and the dict's rules for it -/
theorem isKey_str {v : V} {w : Value} {n : Nat} (h : VRel m v w) (e : v = .str n) : ∃ x, okS x = true ∧ sid x = n ∧ (PySem.strKind G.prog G.w).is x w = true := by
  subst e
  obtain ⟨x, t, o, q, rfl⟩ := h
  exact ⟨x, o, q, by simp [PySem.strKind, Value.isStrOf]⟩
theorem isKey_int {v : V} {w : Value} {i : Int} (h : VRel m v w) (e : v = .int i) : (intKind G.prog G.w).is i w = true := by
  subst e
  obtain ⟨t, rfl⟩ := h
  simp [intKind, Value.isInt]
theorem kind_str {es : List (V × V)} {ob : Obj} {x : Str} {r : Option V} (ox : okS x = true) (h : ORel G m st.fd s.heap (.dict es) ob) (e : dFind (.str (sid x)) es = some r) :
    ∃ kvs, IsDict (PySem.strKind G.prog G.w) ob kvs ∧ EsRel KStr m es kvs := by
  rcases h with h | ⟨kvs, h1, h2⟩
  · exact h
  · cases es with
    | nil =>
      cases kvs with
      | nil =>
        obtain ⟨a, des, ep, b, c, d, nd⟩ := h1
        have : des.toList = [] := by cases q : des.toList with | nil => rfl | cons _ _ => rw [q] at d; (first | exact (ff d).elim | exact (nn d).elim | cases d)
        exact ⟨[], ⟨a, des, ep, b, (fun e he => by rw [← Array.mem_toList_iff, this] at he; (first | exact (ff he).elim | exact (nn he).elim | cases he)), (by rw [this]; exact .nil), List.nodup_nil⟩, trivial⟩
      | cons _ _ => exact h2.elim
    | cons e1 es =>
      cases kvs with
      | nil => exact h2.elim
      | cons p ps =>
        have : e1.1 = .int p.1 := h2.1
        unfold dFind at e
        rw [this] at e
        (first | exact (ff e).elim | exact (nn e).elim | cases e)
theorem kind_int {es : List (V × V)} {ob : Obj} {x : Int} {r : Option V} (h : ORel G m st.fd s.heap (.dict es) ob) (e : dFind (.int x) es = some r) :
    ∃ kvs, IsDict (intKind G.prog G.w) ob kvs ∧ EsRel KInt m es kvs := by
  rcases h with ⟨kvs, h1, h2⟩ | h
  · cases es with
    | nil =>
      cases kvs with
      | nil =>
        obtain ⟨a, des, ep, b, c, d, nd⟩ := h1
        have : des.toList = [] := by cases q : des.toList with | nil => rfl | cons _ _ => rw [q] at d; (first | exact (ff d).elim | exact (nn d).elim | cases d)
        exact ⟨[], ⟨a, des, ep, b, (fun e he => by rw [← Array.mem_toList_iff, this] at he; (first | exact (ff he).elim | exact (nn he).elim | cases he)), (by rw [this]; exact .nil), List.nodup_nil⟩, trivial⟩
      | cons _ _ => exact h2.elim
    | cons e1 es =>
      cases kvs with
      | nil => exact h2.elim
      | cons p ps =>
        have : e1.1 = .str (sid p.1) := h2.1.2
        unfold dFind at e
        rw [this] at e
        (first | exact (ff e).elim | exact (nn e).elim | cases e)
  · exact h
theorem Seen.mem {v : V} {i : Nat} {o : O} {a : Addr} {ob : Obj} (S : Seen G m st s v o a ob) (e : v = .ref i) : a ∈ m.ρ := List.mem_of_getElem? (S.idx i e).1
theorem isIn_sound (g : GOk G) {a b : V} {k : Bool → St → Bool} {v w : Value} {op : CmpOp} {f : Bool → Bool} (hop : (op = .In ∧ f = id) ∨ (op = .NotIn ∧ f = not)) {Q : Value → Shared → Prop} (e : isIn G.P a b k st = true) (ha : VRel m a v) (hb : VRel m b w) (R : Rel G B m st s) (O : Okay 0 A)
    (C : ∀ r t, k r st = true → Q (.bool (f r)) { s with toks := t }) : wpAny (model G.prog G.w) A (compareOp op v w) Q E s := by
  obtain ⟨o, x, ob, rfl, S, e1⟩ := lookV_sound g R hb e
  have hbr : ∀ {es}, o = .dict es → ∃ i, b = .ref i := fun q => by
    cases b with
    | ref i => exact ⟨i, rfl⟩
    | old c => obtain ⟨xs, z⟩ := S.old c rfl; rw [q] at z; (first | exact (ff z).elim | exact (nn z).elim | cases z)
    | _ => (first | exact (ff e).elim | exact (nn e).elim | cases e)
  cases o with
  | tup xs =>
    cases a with
    | str n =>
      obtain ⟨x', t, ox, rfl, rfl⟩ := ha
      obtain ⟨ys, h1, h2⟩ := ifO_ff e1
      obtain ⟨hc, i, nn, hd, r⟩ := S.rel
      obtain ⟨ds, as, q1, q2, q3, q4⟩ := strsOf_sound (s := s) h1 r
      have C' := C _ s.toks h2
      rw [← q4 x' ox] at C'
      have hu : A.units + 1 + min (PyData.depthAll ds) (PyData.depth (.str x')) < cLine := by rw [q3]; have := O.u; omega
      have hd0 : PyData.canLay0 (.str x') = true := by simpa [PyData.canLay0] using okS_strOk ox
      rcases hop with ⟨rfl, rfl⟩ | ⟨rfl, rfl⟩
      · exact SeqAt.in_tuple_reads (.tuple S.at_ hc hd q1) (.str x' t) q2 hd0 hu C'
      · exact SeqAt.notIn_tuple_reads (.tuple S.at_ hc hd q1) (.str x' t) q2 hd0 hu C'
    | _ => (first | exact (ff e1).elim | exact (nn e1).elim | cases e1)
  | dict es =>
    obtain ⟨i, hi⟩ := hbr rfl
    have nm := R.noMods g (S.mem hi)
    obtain ⟨h1, h2⟩ := ifB_ff (b := isKey a) e1
    obtain ⟨r, h3, h4⟩ := ifO_ff h2
    have C' := C _ (s.toks + 1) h4
    cases a with
    | str n =>
      obtain ⟨x', ox, rfl, hk⟩ := isKey_str (G := G) ha rfl
      obtain ⟨kvs, d1, d2⟩ := kind_str ox S.rel h3
      have z := dFind_sound (k := x') (fun hy q => keyEq_sound_str hy ox q) d2 h3
      have zz : (valueAt kvs x').isSome = r.isSome := by
        cases r with
        | none => exact congrArg Option.isSome (show _ = (none : Option Value) from z)
        | some v => obtain ⟨w, z, _⟩ := z; exact congrArg Option.isSome z
      rw [← zz] at C'
      rcases hop with ⟨rfl, rfl⟩ | ⟨rfl, rfl⟩
      · exact wpAny_in_of hk nm (d1.at S.at_).mapOf C'
      · exact wpAny_notIn_of hk nm (d1.at S.at_).mapOf C'
    | int i' =>
      have hk := isKey_int (G := G) ha rfl
      obtain ⟨kvs, d1, d2⟩ := kind_int S.rel h3
      have z := dFind_sound (k := i') (fun hy q => keyEq_sound_int hy q) d2 h3
      have zz : (valueAt kvs i').isSome = r.isSome := by
        cases r with
        | none => exact congrArg Option.isSome (show _ = (none : Option Value) from z)
        | some v => obtain ⟨w, z, _⟩ := z; exact congrArg Option.isSome z
      rw [← zz] at C'
      rcases hop with ⟨rfl, rfl⟩ | ⟨rfl, rfl⟩
      · exact wpAny_in_of hk nm (d1.at S.at_).mapOf C'
      · exact wpAny_notIn_of hk nm (d1.at S.at_).mapOf C'
    | _ => (first | exact (ff h1).elim | exact (nn h1).elim | cases h1)
  | fset =>
    cases a with
    | int i =>
      obtain ⟨t, rfl⟩ := ha
      obtain ⟨ep, tt, rfl, hf⟩ := S.rel
      rcases hop with ⟨rfl, rfl⟩ | ⟨rfl, rfl⟩
      · exact wpAny_bind (has_empty S.at_ hf (wpAny_pure (C false _ e1)))
      · exact wpAny_bind (has_empty S.at_ hf (wpAny_pure (C false _ e1)))
    | _ => (first | exact (ff e1).elim | exact (nn e1).elim | cases e1)
  | _ => (first | exact (ff e1).elim | exact (nn e1).elim | cases e1)
end Sx
end
section
open PySem PySem.W PySem.Calls PyProof.Rows
namespace Sx
variable {G : Gl} {B : Base} {m : Wm} {st : St} {s : Shared} {A : Around} {env : Env} {E : Value → Shared → Prop} {n : Nat} {h : Ih} {c : Cx}
theorem sameV_sound (g : GOk G) {a b : V} {v w : Value} {k : Bool → St → Bool} (e : sameV G.P a b k st = true) (ha : VRel m a v) (hb : VRel m b w) (R : Rel G B m st s) :
    ∃ r x y as bs, k r st = true ∧ Reads s.heap v x as ∧ Reads s.heap w y bs ∧ SeqAt.shaped x = true ∧ SeqAt.shaped y = true ∧ PyData.eqv x y = r := by
  obtain ⟨d, x, as, e1, K1⟩ := (readD_sound g R 60).1 a v _ e ha
  obtain ⟨d', y, bs, e2, K2⟩ := (readD_sound g R 60).1 b w _ e1 hb
  obtain ⟨r, e3, e4⟩ := ifO_ff e2
  exact ⟨r, x, y, as, bs, e4, K1.rd, K2.rd, shaped_of K1 (by omega), shaped_of K2 (by omega), (eqD_sound d d' r e3).1 x y K1.dr K2.dr⟩
theorem iLt_lt10 (a b : Int) : iLt a b = decide (a < b) := by
  (first | exact (ff a).elim | exact (nn a).elim | cases a) <;> (first | exact (ff b).elim | exact (nn b).elim | cases b) <;> simp only [iLt]
  · rename_i x y
    rcases Nat.lt_or_ge x y with q | q
    · rw [show Nat.blt x y = true from Nat.blt_eq.mpr q, decide_eq_true]; exact Int.ofNat_lt.mpr q
    · rw [decide_eq_false (fun z => by have := Int.ofNat_lt.mp z; omega)]
      cases z : Nat.blt x y with | false => rfl | true => have := Nat.blt_eq.mp z; omega
  · rename_i x y
    rw [decide_eq_false]
    intro z
    have h1 := Int.negSucc_lt_zero y
    have h2 : (0 : Int) ≤ Int.ofNat x := Int.natCast_nonneg x
    omega
  · rename_i x y
    rw [decide_eq_true]
    have h1 := Int.negSucc_lt_zero x
    have h2 : (0 : Int) ≤ Int.ofNat y := Int.natCast_nonneg y
    omega
  · rename_i x y
    rcases Nat.lt_or_ge y x with q | q
    · rw [show Nat.blt y x = true from Nat.blt_eq.mpr q, decide_eq_true]; omega
    · rw [decide_eq_false (fun z => by omega)]
      cases z : Nat.blt y x with | false => rfl | true => have := Nat.blt_eq.mp z; omega
/-- an iterator, at its turn -/
theorem cmp_sound (g : GOk G) : CmpSound G := by
  intro B m op a b k st s A v w Q E e ha hb R O C
  have C' : ∀ r t, k r st = true → Q (.bool r) { s with toks := t } := fun r t h => C m r st _ (Wm.Le.refl m) (R.toks t) h
  cases op with
  | Eq =>
    obtain ⟨r, x, y, as, bs, e1, rd1, rd2, s1, s2, rfl⟩ := sameV_sound g e ha hb R
    exact SeqAt.compareEq_shaped rd1 rd2 s1 s2 (by have := O.u; omega) (C m _ st s (Wm.Le.refl m) R e1)
  | NotEq =>
    obtain ⟨r, x, y, as, bs, e1, rd1, rd2, s1, s2, rfl⟩ := sameV_sound g e ha hb R
    exact SeqAt.compareNe_shaped rd1 rd2 s1 s2 (by have := O.u; omega) (C m _ st s (Wm.Le.refl m) R e1)
  | Is =>
    cases b with
    | none =>
      have hb : w = .none := hb
      subst hb
      cases a with
      | none => have ha : v = .none := ha; subst ha; exact wpAny_is_plain rfl (C m true st s (Wm.Le.refl m) R e)
      | ref i => obtain ⟨x, _, rfl⟩ := ha; exact wpAny_is_other rfl (fun q => nomatch q) (C m false st s (Wm.Le.refl m) R e)
      | _ => (first | exact (ff e).elim | exact (nn e).elim | cases e)
    | _ => (first | exact (ff e).elim | exact (nn e).elim | cases e)
  | In => exact isIn_sound g (.inl ⟨rfl, rfl⟩) e ha hb R O fun r t h => C' r t h
  | NotIn => exact isIn_sound g (k := fun r s => k (!r) s) (.inr ⟨rfl, rfl⟩) e ha hb R O fun r t h => C' (!r) t h
  | Gt =>
    cases a with
    | int i =>
      cases b with
      | int j =>
        obtain ⟨t, rfl⟩ := ha
        obtain ⟨u, rfl⟩ := hb
        have e' : k (iLt j i) st = true := e
        rw [iLt_lt10] at e'
        exact PyProof.Rows.gt_int (C m _ st s (Wm.Le.refl m) R e')
      | _ => (first | exact (ff e).elim | exact (nn e).elim | cases e)
    | _ => (first | exact (ff e).elim | exact (nn e).elim | cases e)
  | GtE =>
    cases a with
    | int i =>
      cases b with
      | int j =>
        obtain ⟨t, rfl⟩ := ha
        obtain ⟨u, rfl⟩ := hb
        have e' : k (!(iLt i j)) st = true := e
        rw [iLt_lt10, show (!decide (i < j)) = decide (j ≤ i) by rw [← decide_not]; exact decide_eq_decide.mpr Int.not_lt] at e'
        exact PyProof.Rows.ge_int (C m _ st s (Wm.Le.refl m) R e')
      | _ => (first | exact (ff e).elim | exact (nn e).elim | cases e)
    | _ => (first | exact (ff e).elim | exact (nn e).elim | cases e)
  | _ => (first | exact (ff e).elim | exact (nn e).elim | cases e)

/-! parts of rows -/
theorem place_sound {xs : List V} {i : Int} {j : Nat} (e : place xs i = some j) : j < xs.length ∧ ((0 ≤ i ∧ i.toNat = j ∧ i < xs.length) ∨ (i < 0 ∧ -(xs.length : Int) ≤ i ∧ (i + xs.length).toNat = j)) := by
  cases i with
  | ofNat p =>
    simp only [place] at e
    split at e
    · rename_i q; (first | exact (ff e).elim | exact (nn e).elim | cases e)
      have := Nat.blt_eq.mp q
      exact ⟨this, .inl ⟨Int.natCast_nonneg _, rfl, by show ((j : Nat) : Int) < _; omega⟩⟩
    · (first | exact (ff e).elim | exact (nn e).elim | cases e)
  | negSucc p =>
    simp only [place] at e
    split at e
    · rename_i q; (first | exact (ff e).elim | exact (nn e).elim | cases e)
      have := Nat.ble_eq.mp q
      refine ⟨by omega, .inr ⟨Int.negSucc_lt_zero p, ?_, ?_⟩⟩
      · rw [Int.negSucc_eq]; omega
      · rw [Int.negSucc_eq]; omega
    · (first | exact (ff e).elim | exact (nn e).elim | cases e)
theorem seqIndex_of {i : Int} {l j : Nat} (q : (0 ≤ i ∧ i.toNat = j ∧ i < l) ∨ (i < 0 ∧ -(l : Int) ≤ i ∧ (i + l).toNat = j)) : seqIndex? i l = some j := by
  unfold seqIndex?
  rcases q with ⟨a, b, c⟩ | ⟨a, b, c⟩
  · simp; omega
  · simp; omega
theorem sub_tail {prog : Program} {w : World} {value slice : PySem.Expr} {o i : Value} {T id : String} {Q : Value → Shared → Prop} (hT : s.TypeIs o T)
    (hl : typeLookup (.type T) "__getitem__" = pure (some (.builtin id))) (h : wpAny (model prog w) A (getItem o i) Q E s) : wpAny (model prog w) A (subscriptTail value slice o i) Q E s := by
  unfold subscriptTail
  refine wpAny_bind ?_
  rw [getitemInPython_of_ne hT.not_modules]
  refine wpAny_bind (wpAny_specialOf hT hl ?_)
  have key : ∀ l, wpAny (model prog w) A (operate l (getItem o i)) (fun r s₃ => wpAny (model prog w) A (letTemporaryGo value o r >>= fun _ => pure r) Q E s₃) E s :=
    fun l => wpAny_operateT (wpAny_mono h (fun r s₃ h₃ => wpAny_bind (wpAny_letTemporaryGo (wpAny_pure h₃))) fun _ _ x => x)
  have fin : wpAny (model prog w) A (subscripted slice false o i) (fun r s₃ => wpAny (model prog w) A (letTemporaryGo value o r >>= fun _ => pure r) Q E s₃) E s := by
    unfold subscripted
    split
    · exact key _
    · rename_i q; (first | exact (ff q).elim | exact (nn q).elim | cases q)
    · exact key _
  first
    | exact wpAny_pure (wpAny_bind fin)
    | exact wpAny_bind (wpAny_pure (wpAny_bind fin))
    | exact wpAny_bind fin
theorem VsRel.arr {xs : List V} {items : Array Value} (hx : VsRel m xs items.toList) : xs.length = items.size := hx.length
theorem subscr_sound (g : GOk G) {value slice : PySem.Expr} {a b : V} {v w : Value} {k : V → St → Bool} {Q : Value → Shared → Prop} (e : subscr G.P a b k st = true) (ha : VRel m a v) (hb : VRel m b w) (R : Rel G B m st s) (C : Cont G B m VRel k Q) :
    wpAny (model G.prog G.w) A (subscriptTail value slice v w) Q E s := by
  obtain ⟨o, x, ob, rfl, S, e1⟩ := lookV_sound g R ha e
  cases o with
  | list xs =>
    obtain ⟨items, hl, _, r⟩ := S.list
    cases b with
    | int i =>
      obtain ⟨t, rfl⟩ := hb
      obtain ⟨h0, e2⟩ := ifB_ff (b := short xs) e1
      obtain ⟨j, h1, e3⟩ := ifO_ff e2
      obtain ⟨y, h2, e4⟩ := ifO_ff e3
      obtain ⟨z, h3, h4⟩ := r.nth h2
      obtain ⟨p, q⟩ := place_sound h1
      have hz : items[j]? = some z := by rw [← Array.getElem?_toList]; exact h3
      have sz := short_le h0 r
      have lz := r.arr
      refine sub_tail (T := "list") (let ⟨o, h1, h2, _⟩ := hl; ⟨o, h1, h2⟩) list_getitem_lookup ?_
      rcases q with ⟨q1, q2, q3⟩ | ⟨q1, q2, q3⟩
      · exact wpAny_getItem_list hl q1 (by omega) (by rw [q2]; exact hz) (C.now (a := y) R e4 h4)
      · exact wpAny_getItem_list_neg hl q1 (by omega) (by omega) (by rw [← lz, q3]; exact hz) (C.now (a := y) R e4 h4)
    | _ => (first | exact (ff e1).elim | exact (nn e1).elim | cases e1)
  | fix ob0 xs =>
    obtain ⟨items, hl, r⟩ := S.fix
    cases b with
    | int i =>
      obtain ⟨t, rfl⟩ := hb
      obtain ⟨h0, e2⟩ := ifB_ff (b := short xs) e1
      obtain ⟨j, h1, e3⟩ := ifO_ff e2
      obtain ⟨y, h2, e4⟩ := ifO_ff e3
      obtain ⟨z, h3, h4⟩ := r.nth h2
      obtain ⟨p, q⟩ := place_sound h1
      have hz : items[j]? = some z := by rw [← Array.getElem?_toList]; exact h3
      have sz := short_le h0 r
      have lz := r.arr
      refine sub_tail (T := "list") (let ⟨o, h1, h2, _⟩ := hl; ⟨o, h1, h2⟩) list_getitem_lookup ?_
      rcases q with ⟨q1, q2, q3⟩ | ⟨q1, q2, q3⟩
      · exact wpAny_getItem_list hl q1 (by omega) (by rw [q2]; exact hz) (C.now (a := y) R e4 h4)
      · exact wpAny_getItem_list_neg hl q1 (by omega) (by omega) (by rw [← lz, q3]; exact hz) (C.now (a := y) R e4 h4)
    | _ => (first | exact (ff e1).elim | exact (nn e1).elim | cases e1)
  | tup xs =>
    obtain ⟨items, hl, r⟩ := S.tup
    cases b with
    | int i =>
      obtain ⟨t, rfl⟩ := hb
      obtain ⟨h0, e2⟩ := ifB_ff (b := short xs) e1
      obtain ⟨j, h1, e3⟩ := ifO_ff e2
      obtain ⟨y, h2, e4⟩ := ifO_ff e3
      obtain ⟨z, h3, h4⟩ := r.nth h2
      obtain ⟨p, q⟩ := place_sound h1
      have hz : items[j]? = some z := by rw [← Array.getElem?_toList]; exact h3
      have sz := short_le h0 r
      have lz := r.arr
      refine sub_tail (T := "tuple") (let ⟨o, h1, h2, _⟩ := hl; ⟨o, h1, h2⟩) slot_tuple_getitem.lookup ?_
      refine PyProof.Rows.getItem_tuple hl (j := j) (by omega) (by omega) (seqIndex_of ?_) hz (C.now (a := y) R e4 h4)
      rw [← lz]; exact q
    | _ => (first | exact (ff e1).elim | exact (nn e1).elim | cases e1)
  | dict es =>
    obtain ⟨h1, e2⟩ := ifB_ff (b := isKey b) e1
    obtain ⟨r, h2, e3⟩ := ifO_ff e2
    obtain ⟨y, h3, e4⟩ := ifO_ff e3
    subst h3
    have hT : ∀ {K : Type} [DecidableEq K] {knd : PySem.KeyKind G.prog G.w K} {kvs}, IsDict knd ob kvs → s.TypeIs (.ref x) "dict" := fun d => ⟨ob, S.at_, d.1.1⟩
    cases b with
    | str n =>
      obtain ⟨x', ox, rfl, hk⟩ := isKey_str (G := G) hb rfl
      obtain ⟨kvs, d1, d2⟩ := kind_str ox S.rel h2
      obtain ⟨z, h5, h6⟩ := dFind_sound (k := x') (fun hy q => keyEq_sound_str hy ox q) d2 h2
      exact sub_tail (hT d1) PySem.slot_dict_getitem.lookup (wpAny_getItem_of hk (d1.at S.at_).mapOf h5 (C.now (a := y) (R.toks _) e4 h6))
    | int i' =>
      have hk := isKey_int (G := G) hb rfl
      obtain ⟨kvs, d1, d2⟩ := kind_int S.rel h2
      obtain ⟨z, h5, h6⟩ := dFind_sound (k := i') (fun hy q => keyEq_sound_int hy q) d2 h2
      exact sub_tail (hT d1) PySem.slot_dict_getitem.lookup (wpAny_getItem_of hk (d1.at S.at_).mapOf h5 (C.now (a := y) (R.toks _) e4 h6))
    | _ => (first | exact (ff h1).elim | exact (nn h1).elim | cases h1)
  | _ => (first | exact (ff e1).elim | exact (nn e1).elim | cases e1)
end Sx
end
section
open PySem PySem.W PySem.Calls PyProof.Rows
namespace Sx
variable {G : Gl} {B : Base} {m : Wm} {st : St} {s : Shared} {A : Around} {env : Env} {E : Value → Shared → Prop} {n : Nat} {h : Ih} {c : Cx}
theorem nsSet_le {M : Model} {a : Addr} {f : Str → Option Value} {n : Nat} {name : Str} {v : Value} {Q : Unit → Shared → Prop} (hn : Nz s.heap a f n)
    (hQ : ∀ h', Nz h' a (fun x => if x = name then some v else f x) (if (f name).isSome then n else n + 1) → Heap.SameBut a s.heap h' → Q () { s with heap := h', toks := s.toks + 1 }) : wpAny M A (nsSet a name v) Q E s := by
  intro Γ p _
  obtain ⟨o, es, ep, ho, hd, hk, hm, hz⟩ := hn
  simp only [nsSet, strHash, Sem.wp_bind', Sem.wp_cmd_ask, Sem.wp_pure', Sem.wp_cmd_mkText]
  rw [Sem.wp_loadPart_of M Γ _ p { s with toks := s.toks + 1 } (o := o) _ ho]
  have hany : es.any (·.refKey) = false := by
    rw [Array.any_eq_false']; intro e he; obtain ⟨n, t, h⟩ := hk e he; simp [DictEntry.refKey, h]
  have hsome : (f name).isSome = es.any (·.key.isStr name) := by
    rw [← hm name]; simp only [nsFind, findBy, Option.isSome_map]
    rw [Bool.eq_iff_iff]; simp only [Array.find?_isSome, Array.any_eq_true]
    constructor
    · rintro ⟨x, hx, hp⟩; obtain ⟨i, hi, rfl⟩ := Array.mem_iff_getElem.mp hx; exact ⟨i, hi, hp⟩
    · rintro ⟨i, hi, hp⟩; exact ⟨_, Array.getElem_mem hi, hp⟩
  simp only [hd, aRefKeyMayBeTheName_at, hany, Bool.and_false, Bool.false_eq_true, if_false, Sem.wp_cmd_updatePart]
  refine ⟨by rw [ho]; rfl, hQ _ ?_ (Heap.SameBut.update ..)⟩
  obtain ⟨c, d, dt, sl⟩ := o
  subst hd
  cases hi : es.findIdx? (·.key.isStr name) with
  | some i =>
    have hs : (f name).isSome = true := by
      rw [hsome, Array.any_eq_true]
      obtain ⟨hi1, hi2, _⟩ := Array.findIdx?_eq_some_iff_getElem.mp hi
      exact ⟨i, hi1, hi2⟩
    rw [if_pos hs]
    refine ⟨_, _, ep, Heap.get?_update_self _ ho (by simp only [Obj.putName_eq, Obj.putNameByArray, hi]; rfl), by simp only [Obj.putName_eq, Obj.putNameByArray, hi]; rfl, hk.modify _ _, fun x => ?_, by rw [Array.size_modify]; exact hz⟩
    show _ = if x = name then some v else f x
    rw [← hm]; exact findBy_modify (fun n v => v.isStr n) Value.isStr_inj es name x v i hi
  | none =>
    have hs : (f name).isSome = false := by
      rw [hsome, Array.any_eq_false]
      intro i hi1 hi2
      exact absurd hi2 (by have := Array.findIdx?_eq_none_iff.mp hi _ (Array.getElem_mem hi1); rw [this]; exact Bool.false_ne_true)
    rw [hs, if_neg Bool.false_ne_true]
    refine ⟨_, _, ep + 1, Heap.get?_update_self _ ho (by simp only [Obj.putName_eq, Obj.putNameByArray, hi]; rfl), by simp only [Obj.putName_eq, Obj.putNameByArray, hi]; rfl, hk.push _ _ _ _, fun x => ?_, by rw [Array.size_push]; omega⟩
    show _ = if x = name then some v else f x
    rw [← hm]
    exact findBy_push (fun n v => v.isStr n) es name x _ _ v (fun y => by
      show (name == y) = decide (y = name)
      by_cases h : y = name
      · subst h; simp
      · have : ¬ name = y := fun e => h e.symm
        simp [h, this]) hi
theorem setK_len {β : Type} (x : Nat) (v : β) : ∀ l : List (Nat × β), (setK x v l).length = if (lk x l).isSome then l.length else l.length + 1
  | [] => rfl
  | p :: r => by
    rw [setK_cons, lk_cons]
    by_cases q : x = p.1
    · rw [if_pos q, if_pos q]; rfl
    · rw [if_neg q, if_neg q, List.length_cons, setK_len x v r]
      split <;> rfl
theorem handed_of {v : V} {w : Value} (hv : VRel m v w) : handedIn w = true := by
  cases v with
  | none => rw [show w = .none from hv]; rfl
  | tt b => rw [show w = .bool b from hv]; rfl
  | int i => obtain ⟨t, rfl⟩ := hv; rfl
  | sym k => obtain ⟨i, t, _, rfl⟩ := hv; rfl
  | str x => obtain ⟨x, t, _, _, rfl⟩ := hv; rfl
  | ref i => obtain ⟨a, _, rfl⟩ := hv; rfl
  | old a => rw [show w = .ref a from hv]; rfl
  | bi b => rw [show w = b.val from hv]; (first | exact (ff b).elim | exact (nn b).elim | cases b) <;> decide +kernel
theorem strKeys_find {es : Array DictEntry} (hk : StrKeys es) (name : Str) : (match es.toList.find? (·.key.isStr name) with
      | some e => some (some e.val)
      | none => if es.toList.any (·.refKey) then none else some none) = some (nsFind es name) := by
  have nr : es.toList.any (·.refKey) = false := by
    rw [List.any_eq_false]
    intro e he
    obtain ⟨n, t, q⟩ := hk e (Array.mem_toList_iff.mp he)
    unfold DictEntry.refKey
    rw [q]; exact Bool.false_ne_true
  rw [nr]
  unfold nsFind findBy
  rw [← Array.find?_toList]
  cases es.toList.find? (fun e => e.key.isStr name) <;> rfl
theorem lookIn_ns {h : Heap} {a : Addr} {f : Str → Option Value} (hn : h.Ns a f) : ∃ o, h.get? a = some o ∧ ∀ name, lookIn name o = some (f name) := by
  obtain ⟨o, es, ep, ho, hd, hk, hf⟩ := hn
  refine ⟨o, ho, fun name => ?_⟩
  unfold lookIn
  rw [hd]
  exact (strKeys_find hk name).trans (by rw [hf])
structure Cls (K : Frag) (C : Addr) : Prop where
  hasD : hasDictIn K C = true
  ga : findIn K (.ref C) "__getattribute__" = some (some (.builtin "object.__getattribute__"))
  gt : findIn K (.ref C) "__getattr__" = some none
  over : plainOver K C = true
  sa : findIn K (.ref C) "__setattr__" = some (some (.builtin "object.__setattr__"))
theorem clsOk_of {K : Frag} {C : Addr} (e : clsOk K C = true) : Cls K C := by
  unfold clsOk at e
  simp only [Bool.and_eq_true] at e
  obtain ⟨⟨⟨a, b⟩, d⟩, f⟩ := e
  obtain ⟨b1, b2⟩ := plainGet_of b
  refine ⟨a, b1, b2, d, ?_⟩
  split at f
  · rename_i i hi; rw [hi, beq_iff_eq.mp f]
  · (first | exact (ff f).elim | exact (nn f).elim | cases f)
structure Inst (G : Gl) (m : Wm) (s : Shared) (C : Addr) (d : Nat) (ms : List (Nat × V)) (a : Addr) (dx : Addr) (f : Str → Option Value) (od : Obj) : Prop where
  I : InstAt s.heap a (instObj C dx) C (some od)
  d : m.ρ[d]? = some dx
  ns : Nz s.heap dx f ms.length
  look : ∀ name, lookIn name od = some (f name)
  at' : ∀ x, okS x = true → match lk (sid x) ms with
        | some v => ∃ w, f x = some w ∧ VRel m v w
        | none => f x = none
theorem Seen.inst {v : V} {C : Addr} {d : Nat} {ms : List (Nat × V)} {a : Addr} {ob : Obj} (S : Seen G m st s v (.inst C d ms) a ob) : ∃ dx f od, Inst G m s C d ms a dx f od := by
  obtain ⟨dx, f, h1, rfl, h3, h4⟩ := S.rel
  obtain ⟨od, h5, h6⟩ := lookIn_ns h3.ns
  exact ⟨dx, f, od, ⟨S.at_, rfl, rfl, h5⟩, h1, h3, h6, h4⟩
theorem attr_of (g : GOk G) {C : Addr} {x : Str} (e : G.P.attr C x = true) : Cls G.K C ∧ findIn G.K (.ref C) x = some none ∧ okS x = true := by
  obtain ⟨sm, hp⟩ := g.pg
  rw [hp] at e
  change attrIn G.K C x = true at e
  obtain ⟨h1, e⟩ := ifB_ff (b := clsOk G.K C) e
  obtain ⟨r, h2, e⟩ := ifO_ff (o := findIn G.K (.ref C) x) e
  cases r with
  | none => exact ⟨clsOk_of h1, h2, e⟩
  | some => exact (ff e).elim
theorem getAttr_sound (g : GOk G) {v : V} {x : Str} {w : Value} {ex : Bool} {k : V → St → Bool} {Q : Value → Shared → Prop} (e : Sx.getAttr G.P v x k st = true) (hv : VRel m v w) (R : Rel G B m st s) (C : Cont G B m VRel k Q) :
    wpAny (model G.prog G.w) A (PySem.getAttr w x ex) Q E s := by
  cases v with
  | ref i =>
    obtain ⟨a, hi, rfl⟩ := hv
    unfold Sx.getAttr at e
    obtain ⟨o, ob, S, e1⟩ := look_sound R hi e
    cases o with
    | inst D d ms =>
      obtain ⟨h1, e2⟩ := ifB_ff (b := G.P.attr D x) e1
      obtain ⟨y, h2, e3⟩ := ifO_ff e2
      obtain ⟨K, h3, ox⟩ := attr_of g h1
      obtain ⟨dx, f, od, T⟩ := S.inst
      have z := T.at' x ox
      rw [h2] at z
      obtain ⟨w, z1, z2⟩ := z
      exact get_value (R.kin g) T.I K.ga (findObj_own K.hasD h3 rfl (by rw [T.look, z1])) (handed_of z2) (C.now (a := y) (R.toks _) e3 z2)
    | _ => (first | exact (ff e1).elim | exact (nn e1).elim | cases e1)
  | _ => (first | exact (ff e).elim | exact (nn e).elim | cases e)
theorem setAttr_sound (g : GOk G) {v y : V} {x : Str} {w z : Value} {k : Unit → St → Bool} {Q : Unit → Shared → Prop} (e : Sx.setAttr G.P v x y k st = true) (hv : VRel m v w) (hy : VRel m y z) (R : Rel G B m st s)
    (C : ∀ st' s', Rel G B m st' s' → k () st' = true → Q () s') : wpAny (model G.prog G.w) A (PySem.setAttr w x z) Q E s := by
  cases v with
  | ref i =>
    obtain ⟨a, hi, rfl⟩ := hv
    unfold Sx.setAttr at e
    obtain ⟨o, ob, S, e1⟩ := look_sound R hi e
    cases o with
    | inst D d ms =>
      obtain ⟨h1, e1'⟩ := ifB_ff (b := G.P.attr D x) e1
      obtain ⟨hz, e2⟩ := ifB_ff (b := Nat.ble ms.length 1000) e1'
      have hz := Nat.ble_eq.mp hz
      obtain ⟨K, h3, ox⟩ := attr_of g h1
      obtain ⟨dx, f, od, T⟩ := S.inst
      have X := R.kin g
      refine set_plain X T.I K.sa ?_
      have X' : G.K.In ({ s with toks := s.toks + 1 } : Shared).heap := X
      have T' : InstAt ({ s with toks := s.toks + 1 } : Shared).heap a (instObj D dx) D (some od) := T.I
      refine osa_open (s := { s with toks := s.toks + 1 }) X' T' K.over (r := none) (by unfold takerIn; rw [h3]; rfl) fun b => ?_
      obtain ⟨cd, hc, hd⟩ := any_some K.hasD
      refine wpAny_bind (wpAny_pure (wpAny_bind (wpAny_bind (wpAny_loadPart T'.at_ (wpAny_bind ((looks_clsIn X' hc).here ?_))))))
      rw [hd]
      refine wpAny_pure (a := some dx) (wpAny_bind (wpAny_pure (wpAny_bind ?_)))
      have hsz : (if (f x).isSome then ms.length else ms.length + 1) = (setK (sid x) y ms).length := by
        rw [setK_len]
        have := T.at' x ox
        split at this
        · rename_i v hv; obtain ⟨w, p, _⟩ := this; rw [hv, p]; rfl
        · rename_i hv; rw [hv, this]; rfl
      refine nsSet_le (s := { s with toks := s.toks + 1 }) T.ns fun h' hn hs => ?_
      rw [hsz] at hn
      obtain ⟨o', es', ep', q1, q2, _, _, q3⟩ := id hn
      refine wpAny_bind (wpAny_lookBehind q1 (by rw [q2]; exact pastItsLine_dict (by have := setK_len (sid x) y ms; rw [sizeLine_eq]; split at this <;> omega)) (wpAny_pure ?_))
      refine C _ _ (R.attr (i := i) (d := d) (dx := dx) (ms' := setK (sid x) y ms) (t := s.toks + 1 + 1) hi (S.idx i rfl).2 T.d (fun b o nb q => hs.extBut b o nb q) hn fun x' ox' => ?_) e2
      rw [lk_setK]
      by_cases q : sid x' = sid x
      · rw [if_pos q, sid_inj ox' ox q]
        exact ⟨z, if_pos rfl, hy⟩
      · have nq : x' ≠ x := fun e => q (by rw [e])
        rw [if_neg q]
        have := T.at' x' ox'
        cases q2 : lk (sid x') ms with
        | some v => rw [q2] at this; obtain ⟨w, p, r⟩ := this; exact ⟨w, (if_neg nq).trans p, r⟩
        | none => rw [q2] at this; exact (if_neg nq).trans this
    | _ => (first | exact (ff e1).elim | exact (nn e1).elim | cases e1)
  | _ => (first | exact (ff e).elim | exact (nn e).elim | cases e)
end Sx
end
section
open PySem PySem.W PySem.Calls PyProof.Rows
namespace Sx
set_option maxRecDepth 100000
variable {G : Gl} {B : Base} {m : Wm} {st : St} {s : Shared} {A : Around} {env : Env} {E : Value → Shared → Prop} {n : Nat} {h : Ih} {c : Cx}
theorem mapSeq_plain (its : Array Value) (n : Nat) (f : Array Value → Array Value) : ∃ n', Obj.mapSeq f { cls := .type "list", data := .seq its n } = { cls := .type "list", data := .seq (f its) n' } := ⟨_, rfl⟩
theorem setItem_plain {l : Addr} {items : Array Value} {k : Int} {t : Tok} {v : Value} {Q : Unit → Shared → Prop} (hl : s.heap.PlainList l items)
    (h0 : 0 ≤ k) (hfit : k < 2 ^ 63) (hn : k < items.size) (hz : items.size ≤ sizeLine)
    (hQ : ∀ h', h'.PlainList l (items.setIfInBounds k.toNat v) → Heap.SameBut l s.heap h' → Q () { s with heap := h' }) :
    wpAny (model G.prog G.w) A (PySem.setItem (.ref l) (.int k t) v) Q E s := by
  obtain ⟨ne, ho⟩ := hl
  unfold PySem.setItem
  try with_reducible refine wpAny_holding ?_
  first | refine wpAny_bind (wpAny_pure ?_) | skip
  refine wpAny_bind (wpAny_sequenceKey (T := "list") ⟨_, ho, rfl⟩ (by decide) ?_)
  refine wpAny_bind (wpAny_callSpecial?_slot (name := Str.ofString "__setitem__") ⟨_, ho, rfl⟩ PySem.slot_list_setitem
    (wpAny_call_entry PySem.slot_list_setitem ⟨_, ho, rfl⟩ PySem.entry_list_setitem ?_ (PySem.args_list_setitem _ _ _)))
  show wpAny _ _ (Builtin.List.listSubscript? (.int k t) >>= _) _ _ s
  refine wpAny_bind (wpAny_listSubscript_int (PySem.fitsIndex_of h0 hfit) ?_)
  clear hfit
  obtain ⟨j, rfl⟩ := Int.eq_ofNat_of_zero_le h0
  have hj : j < items.size := by omega
  have hx' : items[j]? = some items[j] := Array.getElem?_eq_getElem hj
  show wpAny _ _ ((seqItemAt l j >>= fun r => pure (r.map (j, ·))) >>= _) _ _ s
  refine wpAny_bind (wpAny_bind (wpAny_seqItemAt ho rfl (wpAny_pure ?_)))
  rw [hx']
  show wpAny _ _ (setSeqItemAt l j v >>= _) _ _ s
  obtain ⟨n', hm⟩ := mapSeq_plain items ne (·.setIfInBounds j v)
  have hfin : (s.heap.update l (Obj.mapSeq (·.setIfInBounds j v))).PlainList l (items.setIfInBounds j v) :=
    ⟨n', by rw [Heap.get?_update_self _ ho (by rw [hm]; rfl), hm]⟩
  refine wpAny_bind (wpAny_setSeqItemAt ho rfl ?_)
  first
    | exact wpAny_bind (wpAny_pure (wpAny_pure ⟨.none, rfl, wpAny_pure (hQ _ hfin (Heap.SameBut.update ..))⟩))
    | exact wpAny_pure ⟨.none, rfl, wpAny_pure (hQ _ hfin (Heap.SameBut.update ..))⟩
theorem setNth_rel {x : V} {v : Value} (hv : VRel m x v) : ∀ {xs : List V} {vs : List Value} {i : Nat}, VsRel m xs vs → VsRel m (setNth x xs i) (vs.set i v)
  | [], [], _, _ => trivial
  | y :: ys, w :: ws, 0, ⟨_, b⟩ => ⟨hv, b⟩
  | y :: ys, w :: ws, i + 1, ⟨a, b⟩ => ⟨a, setNth_rel hv b⟩
theorem EsRel.len {K : Type} {kk : K → V → Prop} : ∀ {es : List (V × V)} {kvs : List (K × Value)}, EsRel kk m es kvs → es.length = kvs.length
  | [], [], _ => rfl
  | _ :: _, _ :: _, ⟨_, _, c⟩ => by rw [List.length_cons, List.length_cons, c.len]
theorem dPut_find {k v : V} : ∀ {es es' : List (V × V)}, dPut k v es = some es' → ∃ r, dFind k es = some r
  | [], _, _ => ⟨_, rfl⟩
  | p :: r, es', e => by
    unfold dPut at e
    unfold dFind
    split at e
    · exact ⟨_, rfl⟩
    · split at e
      · rename_i l hl; exact dPut_find hl
      · (first | exact (ff e).elim | exact (nn e).elim | cases e)
    · (first | exact (ff e).elim | exact (nn e).elim | cases e)
theorem setItem_sound (g : GOk G) {a b v : V} {u w z : Value} {k : Unit → St → Bool} {Q : Unit → Shared → Prop} (e : Sx.setItem a b v k st = true) (ha : VRel m a u) (hb : VRel m b w) (hv : VRel m v z) (R : Rel G B m st s)
    (C : ∀ st' s', Rel G B m st' s' → k () st' = true → Q () s') : wpAny (model G.prog G.w) A (PySem.setItem u w z) Q E s := by
  cases a with
  | ref i =>
    obtain ⟨x, hi, rfl⟩ := ha
    unfold Sx.setItem at e
    obtain ⟨o, ob, S, e1⟩ := look_sound R hi e
    cases o with
    | list xs =>
      obtain ⟨items, _, hl, r⟩ := S.list
      cases b with
      | int j =>
        cases j with
        | ofNat j =>
          obtain ⟨t, rfl⟩ := hb
          obtain ⟨h0, e2⟩ := ifB_ff (b := short xs) e1
          obtain ⟨h1, e3⟩ := ifB_ff e2
          have sz := short_le h0 r
          have lz := r.arr
          have h1 := Nat.blt_eq.mp h1
          refine setItem_plain hl (Int.natCast_nonneg j) (by show (j : Int) < _; omega) (by show (j : Int) < _; omega) (by rw [sizeLine_eq]; omega) fun h' hp hs => ?_
          obtain ⟨n', hp⟩ := hp
          have hr : VsRel m (setNth v xs j) (items.setIfInBounds j z).toList := by rw [Array.toList_setIfInBounds]; exact setNth_rel hv r
          have ho : ORel G m st.fd h' (.list (setNth v xs j)) { cls := .type "list", data := .seq (items.setIfInBounds j z) n' } := ⟨_, n', rfl, hr⟩
          exact C _ _ (R.upd (t := s.toks) hi (S.idx i rfl).2 rfl rfl (fun b o nb q => hs.extBut b o nb q) hp ho) e3
        | negSucc j => (first | exact (ff e1).elim | exact (nn e1).elim | cases e1)
      | _ => (first | exact (ff e1).elim | exact (nn e1).elim | cases e1)
    | dict es =>
      obtain ⟨h1, e2⟩ := ifB_ff (b := isKey b) e1
      obtain ⟨h2, e3⟩ := ifB_ff e2
      obtain ⟨es', h3, e4⟩ := ifO_ff e3
      have h2 := Nat.ble_eq.mp h2
      obtain ⟨r, hr⟩ := dPut_find h3
      have fin : ∀ {K : Type} [DecidableEq K] {knd : PySem.KeyKind G.prog G.w K} {kvs : List (K × Value)} {kk : K} (h' : Heap), Heap.DictOf knd h' x (stored kvs kk z) → Heap.SameBut x s.heap h' →
          (∀ ob', IsDict knd ob' (stored kvs kk z) → ORel G m st.fd h' (.dict es') ob') → Q () { s with heap := h', toks := s.toks + 1 } := by
        intro K _ knd kvs kk h' hd hs ho
        obtain ⟨ob', q1, q2⟩ := IsDict.of hd
        exact C _ _ (R.upd (t := s.toks + 1) hi (S.idx i rfl).2 rfl rfl (fun b o nb q => hs.extBut b o nb q) q1 (ho ob' q2)) e4
      cases b with
      | str nn =>
        obtain ⟨x', ox, rfl, hk⟩ := isKey_str (G := G) hb rfl
        obtain ⟨kvs, d1, d2⟩ := kind_str ox S.rel hr
        have nd : (kvs.map (·.1)).Nodup := by obtain ⟨_, _, _, _, _, _, q⟩ := d1; exact q
        have d3 := dPut_sound (k := x') ⟨ox, rfl⟩ hv (fun hy q => keyEq_sound_str hy ox q) nd d2 h3
        refine wpAny_setItem_pairs hk (d1.at S.at_) (fun h' hd hs => fin h' hd hs fun ob' q => .inl ⟨_, q, d3⟩) (by rw [← d2.len, sizeLine_eq]; omega)
      | int i' =>
        have hk := isKey_int (G := G) hb rfl
        obtain ⟨kvs, d1, d2⟩ := kind_int S.rel hr
        have nd : (kvs.map (·.1)).Nodup := by obtain ⟨_, _, _, _, _, _, q⟩ := d1; exact q
        have d3 := dPut_sound (k := i') (kk := KInt) rfl hv (fun hy q => keyEq_sound_int hy q) nd d2 h3
        refine wpAny_setItem_pairs hk (d1.at S.at_) (fun h' hd hs => fin h' hd hs fun ob' q => .inr ⟨_, q, d3⟩) (by rw [← d2.len, sizeLine_eq]; omega)
      | _ => (first | exact (ff h1).elim | exact (nn h1).elim | cases h1)
    | _ => (first | exact (ff e1).elim | exact (nn e1).elim | cases e1)
  | _ => (first | exact (ff e).elim | exact (nn e).elim | cases e)

/-! cuts -/
noncomputable def PtRel : Pt → Value → Prop
  | .none, v => v = .none
  | .int i, v => ∃ t, v = .int i t
theorem part_sound (IE : SEv G h n) {e : Option PySem.Expr} {k : Pt → St → Bool} {Q : Value → Shared → Prop} (h1 : part h c e k st = true) (V : EnvOk m c env) (hB : B.L = env.locals) (R : Rel G B m st s) (O : Okay n A)
    (C : Cont G B m (fun _ => PtRel) k Q) : wpAny (model G.prog G.w) A (evalPart e env) Q E s := by
  cases e with
  | none => exact wpAny_evalPart_none (C.now (a := Pt.none) R h1 rfl)
  | some x =>
    refine wpAny_evalPart_some (IE B m c x _ st s A env _ E h1 V hB R O fun m1 a st1 v s1 l1 R1 r1 e1 => ?_)
    cases a with
    | int i => exact C m1 (.int i) st1 v s1 l1 R1 r1 e1
    | none => exact C m1 .none st1 v s1 l1 R1 r1 e1
    | _ => (first | exact (ff e1).elim | exact (nn e1).elim | cases e1)
theorem adjust_upto (b n : Nat) (hb : b ≤ n) : Builtin.Slice.sliceAdjust none (some (b : Int)) 1 (n : Int) = (0, (b : Int)) := by
  unfold Builtin.Slice.sliceAdjust
  have h1 : ¬ ((1 : Int) < 0) := by omega
  have h2 : ¬ ((b : Int) < 0) := by omega
  simp only [h1, h2, if_false]
  congr 1
  omega
theorem places_upto (b : Nat) : Builtin.Slice.slicePlaces 0 (b : Int) 1 = b := by
  unfold Builtin.Slice.slicePlaces
  have h1 : (1 : Int) > 0 := by omega
  simp only [h1, if_true, Int.ediv_one]
  split <;> omega
theorem pick_upto (xs : Array Value) (b : Nat) : ((List.range b).filterMap fun (k : Nat) => xs[((0 : Int) + (k : Int) * 1).toNat]?).toArray = (xs.toList.take b).toArray := by
  have e : (fun (k : Nat) => xs[((0 : Int) + (k : Int) * 1).toNat]?) = fun k => xs[0 + k]? := by
    funext k
    have : ((0 : Int) + (k : Int) * 1).toNat = 0 + k := by omega
    rw [this]
  rw [e]
  have := pick_run xs 0 b
  rw [List.filterMap_map] at this
  have e2 : ((fun x => xs[x]?) ∘ fun x => 0 + x) = fun k => xs[0 + k]? := rfl
  rw [e2] at this
  rw [this, List.drop_zero]
theorem sliceApplied_upto {sl : Addr} {b n : Nat} {u : Tok} {Q : Int × Int × Nat → Shared → Prop} (hs : s.heap.IsSliceOf sl .none (.int b u) .none) (hb : b ≤ n) (q : Q (0, 1, b) s) :
    wpAny (model G.prog G.w) A (Builtin.Slice.sliceApplied (.ref sl) (pure (n : Int))) Q E s := by
  obtain ⟨os, hos, hcs, hds⟩ := id hs
  unfold Builtin.Slice.sliceApplied Builtin.Slice.sliceFields
  refine wpAny_bind (wpAny_bind (wpAny_field hos hds (x := .none) rfl (wpAny_bind (wpAny_field hos hds (x := .int b u) rfl (wpAny_bind (wpAny_field hos hds (x := .none) rfl (wpAny_pure ?_)))))))
  refine wpAny_bind (slicePart_none ?_)
  show wpAny _ _ (if ((1 : Int) == 0) = true then _ else _) _ _ s
  rw [if_neg (by decide)]
  refine wpAny_bind (slicePart_none (wpAny_bind (slicePart_int (wpAny_bind (wpAny_pure ?_)))))
  show wpAny _ _ (match Builtin.Slice.sliceAdjust none (some (b : Int)) 1 (n : Int) with | (lo, hi) => pure (lo, (1 : Int), Builtin.Slice.slicePlaces lo hi 1)) _ _ s
  rw [adjust_upto b n hb]
  show wpAny _ _ (pure ((0 : Int), (1 : Int), Builtin.Slice.slicePlaces 0 (b : Int) 1)) _ _ s
  rw [places_upto b]
  exact wpAny_pure q
theorem getItem_tuple_upto {t sl : Addr} {items : Array Value} {b : Nat} {u : Tok} {Q : Value → Shared → Prop} (ht : IsTup s.heap t items) (hs : s.heap.IsSliceOf sl .none (.int b u) .none) (hb : b ≤ items.size)
    (h1 : b = items.size → Q (.ref t) s)
    (h2 : b ≠ items.size → Q (.ref s.heap.objs.size) { s with heap := s.heap.push { cls := .type "tuple", data := .seq (items.toList.take b).toArray } })
    (hsz : items.size ≤ sizeLine) : wpAny (model G.prog G.w) A (getItem (.ref t) (.ref sl)) Q E s := by
  have hdrop : sizeOk (.seq (items.toList.take b).toArray) := by
    show (items.toList.take b).toArray.size ≤ sizeLine
    rw [List.size_toArray, List.length_take, Array.length_toList]
    omega
  obtain ⟨os, hos, hcs, hds⟩ := id hs
  have hTs : s.TypeIs (.ref sl) "slice" := ⟨os, hos, hcs⟩
  unfold getItem
  try with_reducible refine wpAny_holding ?_
  first | refine wpAny_bind (wpAny_pure ?_) | skip
  refine wpAny_bind (wpAny_sequenceKey ht.typeIs (by decide) ?_)
  refine wpAny_bind (wpAny_callSpecial?_slot (name := Str.ofString "__getitem__") ht.typeIs slot_tuple_getitem
    (wpAny_call_entry slot_tuple_getitem ht.typeIs PyProof.Rows.entry_tuple_getitem ?_ (PyProof.Rows.args_tuple_getitem _ _)))
  show wpAny _ _ (Builtin.Tuple.tupleItemsOf (.ref t) >>= _) _ _ s
  refine wpAny_bind (tupleItemsOf_ ht ?_)
  refine wpAny_bind (wpAny_typeOf hTs ?_)
  rw [if_pos (by decide)]
  refine wpAny_bind (sliceApplied_upto hs hb ?_)
  by_cases hw : b = items.size
  · have hyes : ((0 : Int) == 0 && (1 : Int) == 1 && b == items.size) = true := by simp [hw]
    show wpAny _ _ (if ((0 : Int) == 0 && (1 : Int) == 1 && b == items.size) = true then _ else _) _ _ s
    rw [if_pos hyes]
    have hq := h1 hw
    obtain ⟨ot, hot, hct, _⟩ := id ht
    unfold Builtin.Tuple.tupleIsExact
    refine wpAny_bind (wpAny_bind (wpAny_typeOf ht.typeIs (wpAny_pure ?_)))
    rw [if_pos (by decide)]
    exact wpAny_bind (wpAny_rule (wpAny_bind (wpAny_pure (wpAny_pure ⟨_, rfl, wpAny_pure hq⟩))))
  · have hno : ¬ (((0 : Int) == 0 && (1 : Int) == 1 && b == items.size) = true) := by simp [hw]
    show wpAny _ _ (if ((0 : Int) == 0 && (1 : Int) == 1 && b == items.size) = true then _ else _) _ _ s
    rw [if_neg hno, pick_upto items b]
    have hq := h2 hw
    first
      | exact wpAny_bind (m := Builtin.Tuple.tupleExact _) (wpAny_newObj_type (wpAny_pure ⟨_, rfl, wpAny_pure hq⟩) hdrop)
      | exact wpAny_bind (m := Builtin.Tuple.tupleExact _) (wpAny_newObj_type (wpAny_bind (wpAny_pure (wpAny_pure ⟨_, rfl, wpAny_pure hq⟩))) hdrop)
      | exact wpAny_bind (wpAny_bind (m := Builtin.Tuple.tupleExact _) (wpAny_newObj_type (wpAny_pure (wpAny_pure ⟨_, rfl, wpAny_pure hq⟩)) hdrop))
      | exact wpAny_bind (wpAny_bind (m := Builtin.Tuple.tupleExact _) (wpAny_newObj_type (wpAny_pure ⟨_, rfl, wpAny_pure hq⟩) hdrop))
end Sx
end
section
open PySem PySem.W PySem.Calls PyProof.Rows
namespace Sx
set_option maxRecDepth 100000
variable {G : Gl} {B : Base} {m : Wm} {st : St} {s : Shared} {A : Around} {env : Env} {E : Value → Shared → Prop} {n : Nat} {h : Ih} {c : Cx}
theorem VsRel.drop : ∀ {xs : List V} {vs : List Value} (i : Nat), VsRel m xs vs → VsRel m (xs.drop i) (vs.drop i)
  | xs, vs, 0, r => r
  | [], [], i + 1, _ => trivial
  | _ :: _, _ :: _, i + 1, ⟨_, r⟩ => r.drop i
theorem VsRel.take : ∀ {xs : List V} {vs : List Value} (i : Nat), VsRel m xs vs → VsRel m (xs.take i) (vs.take i)
  | xs, vs, 0, _ => trivial
  | [], [], i + 1, _ => trivial
  | _ :: _, _ :: _, i + 1, ⟨a, r⟩ => ⟨a, r.take i⟩
noncomputable def PtOpt : Pt → Option Int
  | .none => none
  | .int i => some i
theorem PtRel.part {p : Pt} {v : Value} (h : PtRel p v) : IsPart v (PtOpt p) := by
  cases p with
  | none => rw [show v = .none from h]; exact .none
  | int i => obtain ⟨t, rfl⟩ := h; exact .int i t
theorem cutOf_list {xs : List V} {lo hi sp : Pt} {ys : List V} {items : Array Value} (e : cutOf xs lo hi sp = some ys) (r : VsRel m xs items.toList) : PtOpt sp ≠ some 0 ∧ VsRel m ys (slicePick items (PtOpt lo) (PtOpt hi) (PtOpt sp)).toList := by
  cases lo with
  | int i =>
    cases hi with
    | none =>
      cases sp with
      | none =>
        cases i with
        | ofNat p =>
          (first | exact (ff e).elim | exact (nn e).elim | cases e)
          refine ⟨(fun q => nomatch q), ?_⟩
          show VsRel m _ (slicePick items (some (p : Int)) none none).toList
          rw [slicePick_from']
          exact r.drop p
        | negSucc p => (first | exact (ff e).elim | exact (nn e).elim | cases e)
      | int j => (first | exact (ff e).elim | exact (nn e).elim | cases e)
    | int j => (first | exact (ff e).elim | exact (nn e).elim | cases e)
  | none =>
    cases hi with
    | int i =>
      cases sp with
      | none =>
        cases i with
        | ofNat p =>
          (first | exact (ff e).elim | exact (nn e).elim | cases e)
          refine ⟨(fun q => nomatch q), ?_⟩
          show VsRel m _ (slicePick items none (some (p : Int)) none).toList
          rw [slicePick_upto']
          exact r.take p
        | negSucc p => (first | exact (ff e).elim | exact (nn e).elim | cases e)
      | int j => (first | exact (ff e).elim | exact (nn e).elim | cases e)
    | none =>
      cases sp with
      | none => (first | exact (ff e).elim | exact (nn e).elim | cases e)
      | int j =>
        cases j with
        | ofNat p => (first | exact (ff e).elim | exact (nn e).elim | cases e)
        | negSucc p =>
          cases p with
          | succ p => (first | exact (ff e).elim | exact (nn e).elim | cases e)
          | zero =>
            cases xs with
            | cons _ _ => (first | exact (ff e).elim | exact (nn e).elim | cases e)
            | nil =>
              (first | exact (ff e).elim | exact (nn e).elim | cases e)
              refine ⟨(fun q => nomatch q), ?_⟩
              have l := r.arr
              have z := slicePick_size_le items none none (some (Int.negSucc 0))
              have : (slicePick items none none (some (Int.negSucc 0))).toList = [] := by
                apply List.eq_nil_of_length_eq_zero
                rw [Array.length_toList]; rw [← l] at z; exact Nat.le_zero.mp z
              show VsRel m [] (slicePick items none none (some (Int.negSucc 0))).toList
              rw [this]; trivial
theorem cut_sound (g : GOk G) {value slice : PySem.Expr} {a : V} {v vl vu vs : Value} {lo hi sp : Pt} {k : V → St → Bool} {Q : Value → Shared → Prop} (e : cut G.P a lo hi sp k st = true) (ha : VRel m a v) (h1 : PtRel lo vl) (h2 : PtRel hi vu) (h3 : PtRel sp vs)
    (R : Rel G B m st s) (C : Cont G B m VRel k Q) :
    wpAny (model G.prog G.w) A (subscriptTail value slice v (.ref s.heap.objs.size)) Q E { s with heap := s.heap.push { cls := .type "slice", data := .fields #[vl, vu, vs] } } := by
  obtain ⟨o, x, ob, rfl, S, e1⟩ := lookV_sound g R ha e
  have hs := Heap.IsSliceOf.new s.heap vl vu vs
  have R1 : Rel G B m st { s with heap := s.heap.push { cls := .type "slice", data := .fields #[vl, vu, vs] } } := R.ext (t := s.toks) fun b o e => Heap.get?_push_of_some _ e
  have at1 := Heap.get?_push_of_some { cls := .type "slice", data := .fields #[vl, vu, vs] } S.at_
  cases o with
  | list xs =>
    obtain ⟨h0, e2⟩ := ifB_ff (b := short xs) e1
    obtain ⟨ys, h4, e3⟩ := ifO_ff e2
    obtain ⟨items, nn, rfl, r⟩ := S.rel
    have sz := short_le h0 r
    obtain ⟨h5, h6⟩ := cutOf_list h4 r
    refine sub_tail (T := "list") ⟨_, at1, rfl⟩ list_getitem_lookup (wpAny_getItem_list_slice ⟨_, at1, rfl, nn, rfl⟩ hs h1.part h2.part h3.part h5 ?_ (by rw [sizeLine_eq]; omega))
    have ho : ORel G (m.add (s.heap.push { cls := .type "slice", data := .fields #[vl, vu, vs] }).objs.size) st.fd ((s.heap.push { cls := .type "slice", data := .fields #[vl, vu, vs] }).push { cls := .type "list", data := .seq (slicePick items (PtOpt lo) (PtOpt hi) (PtOpt sp)) }) (.list ys)
        { cls := .type "list", data := .seq (slicePick items (PtOpt lo) (PtOpt hi) (PtOpt sp)) } := ⟨_, _, rfl, h6.mono (m.le_add _)⟩
    exact newRef_sound R1 (t := s.toks) e3 rfl rfl ho C
  | tup xs =>
    obtain ⟨h0, e2⟩ := ifB_ff (b := short xs) e1
    obtain ⟨hc, e3⟩ := ifB_ff e2
    obtain ⟨ys, h4, e4⟩ := ifO_ff e3
    obtain ⟨hcls, items, nn, hd, r⟩ := S.rel
    have sz := short_le h0 r
    have lz := r.arr
    have ht : IsTup (s.heap.push { cls := .type "slice", data := .fields #[vl, vu, vs] }) x items := ⟨_, at1, hcls, nn, hd⟩
    have szl : items.size ≤ sizeLine := by rw [sizeLine_eq]; omega
    have fin : ∀ ws : List Value, VsRel m ys ws → newRef (.tup ys) k st = true → Q (.ref (s.heap.push { cls := .type "slice", data := .fields #[vl, vu, vs] }).objs.size)
        { s with heap := (s.heap.push { cls := .type "slice", data := .fields #[vl, vu, vs] }).push { cls := .type "tuple", data := .seq ws.toArray } } := fun ws hw e5 => by
      have ho : ORel G (m.add (s.heap.push { cls := .type "slice", data := .fields #[vl, vu, vs] }).objs.size) st.fd ((s.heap.push { cls := .type "slice", data := .fields #[vl, vu, vs] }).push { cls := .type "tuple", data := .seq ws.toArray }) (.tup ys)
          { cls := .type "tuple", data := .seq ws.toArray } := ⟨rfl, _, _, rfl, hw.mono (m.le_add _)⟩
      exact newRef_sound R1 (t := s.toks) e5 rfl rfl ho C
    refine sub_tail (T := "tuple") ht.typeIs slot_tuple_getitem.lookup ?_
    cases lo with
    | int i =>
      cases hi with
      | none =>
        cases sp with
        | none =>
          cases i with
          | ofNat p =>
            (first | exact (ff h4).elim | exact (nn h4).elim | cases h4)
            obtain ⟨t, rfl⟩ := h1
            have h2 : vu = .none := h2
            have h3 : vs = .none := h3
            subst h2 h3
            cases p with
            | zero => (first | exact (ff hc).elim | exact (nn hc).elim | cases hc)
            | succ p =>
              have hc := Nat.ble_eq.mp hc
              have ne : Nat.beq (xs.drop (p + 1)).length xs.length = false := by
                rw [nbeq_eq, decide_eq_false]; rw [List.length_drop]; omega
              rw [ne] at e4
              exact getItem_tuple_from ht hs (by omega) (by omega) (fin _ (r.drop (p + 1)) e4) szl
          | negSucc p => (first | exact (ff h4).elim | exact (nn h4).elim | cases h4)
        | int j => (first | exact (ff h4).elim | exact (nn h4).elim | cases h4)
      | int j => (first | exact (ff h4).elim | exact (nn h4).elim | cases h4)
    | none =>
      cases hi with
      | int i =>
        cases sp with
        | none =>
          cases i with
          | ofNat p =>
            (first | exact (ff h4).elim | exact (nn h4).elim | cases h4)
            obtain ⟨t, rfl⟩ := h2
            have h1 : vl = .none := h1
            have h3 : vs = .none := h3
            subst h1 h3
            have hc := Nat.ble_eq.mp hc
            refine getItem_tuple_upto ht hs (by omega) (fun q => ?_) (fun q => ?_) szl
            · have eq : Nat.beq (xs.take p).length xs.length = true := by
                rw [nbeq_eq, decide_eq_true]; rw [List.length_take]; omega
              rw [eq] at e4
              exact C.now (a := a) R1 e4 ha
            · have ne : Nat.beq (xs.take p).length xs.length = false := by
                rw [nbeq_eq, decide_eq_false]; rw [List.length_take]; omega
              rw [ne] at e4
              exact fin _ (r.take p) e4
          | negSucc p => (first | exact (ff h4).elim | exact (nn h4).elim | cases h4)
        | int j => (first | exact (ff h4).elim | exact (nn h4).elim | cases h4)
      | none => (first | exact (ff hc).elim | exact (nn hc).elim | cases hc)
  | _ => (first | exact (ff e1).elim | exact (nn e1).elim | cases e1)

/-! calls -/
noncomputable def Callable (G : Gl) : V → Prop
  | .old a => keepIn G.K (.ref a) = true
  | .bi _ => True
  | _ => False
noncomputable def KCl (G : Gl) (h : Ih) : Prop := ∀ (f : V) (xs : List V) (k : V → St → Bool) (st : St), h.cl f xs k st = true → Callable G f
theorem keeps_of {M : Model} {f : V} {fv : Value} (hf : VRel m f fv) (c : Callable G f) (hh : Heap) (X : G.K.In hh) : ∃ k, (k = Keeper.frame ∨ k = Keeper.machine ∨ k = Keeper.boundFrame) ∧ Looks M hh (keeperOf fv) k := by
  cases f with
  | old a => rw [show fv = .ref a from hf]; exact keeps_K c hh X
  | bi b => rw [show fv = b.val from hf]; (first | exact (ff b).elim | exact (nn b).elim | cases b) <;> exact ⟨.machine, .inr (.inl rfl), .now⟩
  | _ => exact c.elim
theorem noStar_any : ∀ {es : List PySem.Expr} {pos : Pos}, noStar es = true → (backTo pos (starEach es env)).any (·.1) = false
  | [], _, _ => rfl
  | x :: r, pos, ns => by
    have hs : starEach (x :: r) env = (false, eval x env) :: starEach r env ∧ noStar r = true := by
      (first | exact (ff x).elim | exact (nn x).elim | cases x) <;> first | exact ⟨rfl, ns⟩ | (first | exact (ff ns).elim | exact (nn ns).elim | cases ns)
    rw [hs.1]
    show (false || (backTo pos (starEach r env)).any (·.1)) = false
    rw [noStar_any hs.2]; rfl
theorem evalArgs_of {M : Model} {f : Value} {es : List PySem.Expr} {pos : Pos} {Q : Args → Shared → Prop} (ns : noStar es = true) (w : wpAny M A (spliced (backTo pos (starEach es env))) (fun vs s' => Q ⟨vs, []⟩ s') E s) :
    wpAny M A (evalArgs f true (backTo pos (starEach es env)) []) Q E s := by
  cases es with
  | nil =>
    have w' : wpAny M A (spliced []) (fun vs s' => Q ⟨vs, []⟩ s') E s := w
    show wpAny M A (evalArgs f true [] []) Q E s
    unfold evalArgs
    show wpAny M A (spliced [] >>= _) Q E s
    refine wpAny_bind (wpAny_mono w' (fun vs s' h' => ?_) fun _ _ x => x)
    refine wpAny_holding ?_
    exact wpAny_bind (wpAny_pure (wpAny_bind (wpAny_pure (wpAny_pure h'))))
  | cons x r =>
    have hs : starEach (x :: r) env = (false, eval x env) :: starEach r env := by (first | exact (ff x).elim | exact (nn x).elim | cases x) <;> first | rfl | (first | exact (ff ns).elim | exact (nn ns).elim | cases ns)
    rw [hs] at w ⊢
    exact evalArgs_plain w
theorem callWith_sound (g : GOk G) (IE : SEv G h n) (IC : SCl G h n) (KC : KCl G h) {f : V} {xs0 : List V} {fv : Value} {first : List Value} {es : List PySem.Expr} {pos : Pos} {k : V → St → Bool} {Q : Value → Shared → Prop}
    (e : mapE (h.ev c) es (fun vs s => h.cl f (xs0 ++ vs) k s) st = true) (ns : noStar es = true) (hf : VRel m f fv) (hx : VsRel m xs0 first) (V : EnvOk m c env) (hB : B.L = env.locals) (R : Rel G B m st s) (O : Okay n A) (C : Cont G B m VRel k Q) :
    wpAny (model G.prog G.w) A (callWith pos fv first (backTo pos (starEach es env)) []) Q E s := by
  refine callWith_of (P := fun hh => G.K.In hh ∧ Callable G f) (by rw [noStar_any ns]; rfl) (fun hh p => keeps_of hf p.2 hh p.1) (evalArgs_of ns ?_)
  refine evs_sound IE es m st s _ _ pos e ns V hB R O fun m1 vs st1 ws s1 l1 R1 r1 e1 => ⟨⟨R1.kin g, KC _ _ _ _ e1⟩, ?_⟩
  exact IC B m1 f (xs0 ++ vs) k st1 s1 A fv (first ++ ws) Q E e1 (hf.mono l1) ((hx.mono l1).append r1.1) R1 O (C.mono l1)
theorem meth_of (g : GOk G) {C f : Addr} {x : Str} (e : G.P.meth C x = some f) : Cls G.K C ∧ findIn G.K (.ref C) x = some (some (.ref f)) ∧ typeIn G.K (.ref f) = some (.type "function") ∧ okS x = true := by
  obtain ⟨sm, hp⟩ := g.pg
  rw [hp] at e
  change methIn G.K C x = some f at e
  obtain ⟨r, h1, e⟩ := ifO_nn (o := findIn G.K (.ref C) x) e
  obtain ⟨v, rfl, e⟩ := ifO_nn (o := r) e
  obtain ⟨f', h2, e⟩ := ifO_nn (o := isFrag v) e
  obtain ⟨o, h3, e⟩ := ifO_nn (o := G.K.lookup f') e
  obtain ⟨h4, e⟩ := ifB_nn (b := isTyp "function" o.cls) e
  obtain ⟨_, _, e⟩ := ifO_nn (o := asFunc o) e
  obtain ⟨h5, e⟩ := ifB_nn (b := okS x) e
  obtain ⟨h6, e⟩ := ifB_nn (b := clsOk G.K C) e
  obtain rfl := Option.some.inj e
  refine ⟨clsOk_of h6, isFrag_eq h2 ▸ h1, ?_, h5⟩
  show (G.K.lookup f').map (·.cls) = _
  rw [h3]; exact congrArg some (isTyp_eq h4)
theorem listMeth_of {x : Str} {b : Bi} (ox : okS x = true) (e : lk (sid x) listMeths = some b) : ∃ id, b.val = .builtin id ∧ Slot "list" x id ∧ typeOf (.builtin id) = pure (.type "method_descriptor") := by
  unfold listMeths at e
  rw [lk_cons, lk_cons, lk_cons, lk_nil] at e
  split at e
  · rename_i q; (first | exact (ff e).elim | exact (nn e).elim | cases e)
    rw [sid_inj (b := ("append" : Str)) ox (by decide +kernel) q]
    exact ⟨_, rfl, F.slot_list_append, type_list_append⟩
  split at e
  · rename_i q; (first | exact (ff e).elim | exact (nn e).elim | cases e)
    rw [sid_inj (b := ("pop" : Str)) ox (by decide +kernel) q]
    exact ⟨_, rfl, F.slot_list_pop, F.type_list_pop⟩
  split at e
  · rename_i q; (first | exact (ff e).elim | exact (nn e).elim | cases e)
    rw [sid_inj (b := ("extend" : Str)) ox (by decide +kernel) q]
    exact ⟨_, rfl, F.slot_list_extend, F.type_list_extend⟩
  (first | exact (ff e).elim | exact (nn e).elim | cases e)
theorem getMeth_sound (g : GOk G) {v : V} {x : Str} {w : Value} {pl : Sem Bool} {k : V × List V → St → Bool} {Q : Value × List Value → Shared → Prop} (e : getMeth G.P v x k st = true) (hv : VRel m v w) (R : Rel G B m st s)
    (C : ∀ f fv, VRel m f fv → k (f, [v]) st = true → Q (fv, [w]) s) : wpAny (model G.prog G.w) A (getMethod w x pl) Q E s := by
  cases v with
  | ref i =>
    obtain ⟨a, hi, rfl⟩ := hv
    unfold getMeth at e
    obtain ⟨o, ob, S, e1⟩ := look_sound R hi e
    cases o with
    | inst D d ms =>
      obtain ⟨f, h1, e2⟩ := ifO_ff (o := G.P.meth D x) e1
      obtain ⟨K, h2, h3, ox⟩ := meth_of g h1
      obtain ⟨dx, ff, od, T⟩ := S.inst
      have z := T.at' x ox
      cases q : lk (sid x) ms with
      | some y => rw [q] at e2; (first | exact (ff e2).elim | exact (nn e2).elim | cases e2)
      | none =>
        rw [q] at e2 z
        refine method_fn (R.kin g) T.I K.ga K.gt h2 h3 ?_ (C (.old f) _ rfl e2)
        show (lookIn x od).map (·.isSome) = some false
        rw [T.look, z]; rfl
    | list xs =>
      obtain ⟨ox, e2⟩ := ifB_ff (b := okS x) e1
      obtain ⟨b, h1, e3⟩ := ifO_ff e2
      obtain ⟨items, nn, rfl, r⟩ := S.rel
      obtain ⟨id, hb, hs, ht⟩ := listMeth_of ox h1
      refine getMethod_builtin (T := "list") ⟨_, S.at_, rfl⟩ F.plainAttrs_list hs ht (fun a' q => ?_) (C (.bi b) _ hb.symm e3)
      (first | exact (ff q).elim | exact (nn q).elim | cases q); exact ⟨_, S.at_, rfl⟩
    | _ => (first | exact (ff e1).elim | exact (nn e1).elim | cases e1)
  | _ => (first | exact (ff e).elim | exact (nn e).elim | cases e)
end Sx
end
section
open PySem PySem.W PySem.Calls PyProof.Rows
namespace Sx
set_option maxRecDepth 100000
variable {G : Gl} {B : Base} {m : Wm} {st : St} {s : Shared} {A : Around} {env : Env} {E : Value → Shared → Prop} {n : Nat} {h : Ih} {c : Cx}
theorem base_whole {o : PySem.Expr} {x : Str} {whole : Sem Value} (hp : plainBase o = true) : attributeBase o x env whole = whole := by
  cases o with
  | Call f a k p => (first | exact (ff f).elim | exact (nn f).elim | cases f) <;> first | rfl | (first | exact (ff hp).elim | exact (nn hp).elim | cases hp)
  | _ => first | rfl | (first | exact (ff hp).elim | exact (nn hp).elim | cases hp)
theorem attr_rule {prog : Program} {w : World} {o : PySem.Expr} {x : Str} {pos : Pos} {Q : Value → Shared → Prop} (hp : plainBase o = true) (q : wpAny (model prog w) A (eval o env) (fun ov s1 => wpAny (model prog w) A (PySem.getAttr ov x true) Q E s1) E s) :
    wpAny (model prog w) A (eval (.Attribute o x pos) env) Q E s := by
  rw [arm_eval_Attribute, base_whole hp]
  refine wpAny_bind (wpAny_mono q (fun ov s1 q1 => wpAny_bind (wpAny_standAt (wpAny_bind (wpAny_holding (wpAny_mono q1 (fun r s2 q2 => ?_) fun _ _ z => z))))) fun _ _ z => z)
  exact wpAny_bind (wpAny_letTemporaryGo (wpAny_pure q2))
theorem mcall_rule {prog : Program} {w : World} {o : PySem.Expr} {x : Str} {apos pos : Pos} {args : List PySem.Expr} {Q : Value → Shared → Prop} (hp : plainBase o = true) (ns : noStar args = true) (hl : args.length < 20) (hline : (apos.endLine == pos.line) = true)
    (q : wpAny (model prog w) A (eval o env) (fun ov s1 => ∀ pl, wpAny (model prog w) A (getMethod ov x pl) (fun p s2 => wpAny (model prog w) A (callWith pos p.1 p.2 (backTo pos (starEach args env)) []) Q E s2) E s1) E s) :
    wpAny (model prog w) A (eval (.Call (.Attribute o x apos) args [] pos) env) Q E s := by
  rw [arm_eval_Call, base_whole hp]
  refine wpAny_bind (wpAny_mono q (fun ov s1 q1 => wpAny_bind (wpAny_standAt ?_)) fun _ _ z => z)
  have hall : (backTo pos (starEach args env)).all (fun x => !x.1) = true := by
    have := noStar_any (env := env) (pos := pos) ns
    rw [List.all_eq_not_any_not]
    simp only [Bool.not_not]
    rw [this]; rfl
  have hform : methodCallForm (args.length + ([] : List Keyword).length) (backTo pos (starEach args env)) (backToKw pos (keywordEach [] env)) = true := by
    show ((backTo pos (starEach args env)).all (fun x => !x.1) && true && decide (args.length + 0 + 0 < 30)) = true
    rw [hall]; simp; omega
  have hpos : methodCallPos true o env apos pos = pure pos := by unfold methodCallPos; simp [hline]
  unfold methodCall
  rw [hform]
  refine wpAny_bind (wpAny_holding (wpAny_mono (q1 _) (fun p s2 q2 => ?_) fun _ _ z => z))
  exact wpAny_bind (wpAny_of_eq hpos q2)
noncomputable def notAttr : PySem.Expr → Prop
  | .Attribute .. => False
  | _ => True
theorem call_rule {M : Model} {f : PySem.Expr} {args : List PySem.Expr} {pos : Pos} {Q : Value → Shared → Prop} (hf : notAttr f)
    (q : wpAny M A (eval f env) (fun fv s1 => wpAny M A (callWith pos fv [] (backTo pos (starEach args env)) []) Q E s1) E s) : wpAny M A (eval (.Call f args [] pos) env) Q E s := by
  (first | exact (ff f).elim | exact (nn f).elim | cases f) <;> first | exact wpAny_bind q | exact hf.elim
theorem boolOp_sound (IE : SEv G h n) (op : BoolOp) (pos : Pos) : ∀ (es : List PySem.Expr) (m : Wm) (st : St) (s : Shared) (k : Bool → St → Bool) (Q : Value → Shared → Prop), es ≠ [] → boolE op (fun e k s => h.ev c e (fun v s => truth v k s) s) es k st = true → EnvOk m c env → B.L = env.locals → Rel G B m st s → Okay n A →
    Cont G B m (fun _ a b => b = .bool a) k Q → wpAny (model G.prog G.w) A (boolOp pos op (evalEach es env)) Q E s
  | [], _, _, _, _, _, ne, _, _, _, _, _, _ => absurd rfl ne
  | [x], m, st, s, k, Q, _, e, V, hB, R, O, C => by
    show wpAny _ _ (eval x env) _ _ _
    cases op with
    | And =>
      rw [boolE_and] at e
      refine IE B m c x _ st s A env _ E e V hB R O fun m1 a st1 v s1 l1 R1 r1 e1 => ?_
      cases a with
      | tt b => (first | exact (ff b).elim | exact (nn b).elim | cases b) <;> exact C m1 _ st1 v s1 l1 R1 r1 e1
      | _ => (first | exact (ff e1).elim | exact (nn e1).elim | cases e1)
    | Or =>
      rw [boolE_or] at e
      refine IE B m c x _ st s A env _ E e V hB R O fun m1 a st1 v s1 l1 R1 r1 e1 => ?_
      cases a with
      | tt b => (first | exact (ff b).elim | exact (nn b).elim | cases b) <;> exact C m1 _ st1 v s1 l1 R1 r1 e1
      | _ => (first | exact (ff e1).elim | exact (nn e1).elim | cases e1)
  | x :: y :: r, m, st, s, k, Q, _, e, V, hB, R, O, C => by
    have eq : boolOp pos op (evalEach (x :: y :: r) env) = (do
      let v ← eval x env
      standAt pos
      let t ← holding [v] (truthy v)
      match op, t with
      | .And, false | .Or, true => pure v
      | _, _ => boolOp pos op (evalEach (y :: r) env)) := rfl
    rw [eq]
    cases op with
    | And =>
      rw [boolE_and] at e
      refine wpAny_bind (IE B m c x _ st s A env _ E e V hB R O fun m1 a st1 v s1 l1 R1 r1 e1 => ?_)
      cases a with
      | tt b =>
        rw [show v = .bool b from r1]
        refine wpAny_bind (wpAny_standAt (wpAny_bind (wpAny_holding (wpAny_truthy_bool ?_))))
        cases b with
        | true => exact boolOp_sound IE .And pos (y :: r) m1 st1 s1 k Q (fun z => nomatch z) e1 (V.mono l1) hB R1 O (C.mono l1)
        | false => exact wpAny_pure (C m1 false st1 _ s1 l1 R1 rfl e1)
      | _ => (first | exact (ff e1).elim | exact (nn e1).elim | cases e1)
    | Or =>
      rw [boolE_or] at e
      refine wpAny_bind (IE B m c x _ st s A env _ E e V hB R O fun m1 a st1 v s1 l1 R1 r1 e1 => ?_)
      cases a with
      | tt b =>
        rw [show v = .bool b from r1]
        refine wpAny_bind (wpAny_standAt (wpAny_bind (wpAny_holding (wpAny_truthy_bool ?_))))
        cases b with
        | false => exact boolOp_sound IE .Or pos (y :: r) m1 st1 s1 k Q (fun z => nomatch z) e1 (V.mono l1) hB R1 O (C.mono l1)
        | true => exact wpAny_pure (C m1 true st1 _ s1 l1 R1 rfl e1)
      | _ => (first | exact (ff e1).elim | exact (nn e1).elim | cases e1)
/-- displays of dicts -/
noncomputable def prs (pos : Pos) (env : Env) : List (Option PySem.Expr) → List PySem.Expr → List (Sem Value × Sem Value)
  | some k :: ks, v :: vs => (eval k env, do let x ← eval v env; standAt pos; pure x) :: prs pos env ks vs
  | _, _ => []
noncomputable def PairsRel (m : Wm) : List (V × V) → List (Value × Value) → Prop
  | [], [] => True
  | p :: ps, q :: qs => VRel m p.1 q.1 ∧ VRel m p.2 q.2 ∧ PairsRel m ps qs
  | _, _ => False
theorem prs_zip (pos : Pos) : ∀ (ks : List (Option PySem.Expr)) (vs : List PySem.Expr), dictOk ks vs = true → (evalEachOpt ks env).zip ((evalEach vs env).map fun v => do let x ← v; standAt pos; pure x) = (prs pos env ks vs).map (fun p => (some p.1, p.2)) ∧ (prs pos env ks vs).length = ks.length
  | [], [], _ => ⟨rfl, rfl⟩
  | [], _ :: _, e => by (first | exact (ff e).elim | exact (nn e).elim | cases e)
  | none :: ks, vs, e => by (first | exact (ff vs).elim | exact (nn vs).elim | cases vs) <;> (first | exact (ff e).elim | exact (nn e).elim | cases e)
  | some k :: ks, [], e => by (first | exact (ff e).elim | exact (nn e).elim | cases e)
  | some k :: ks, v :: vs, e => by
    obtain ⟨p, q⟩ := prs_zip pos ks vs e
    refine ⟨?_, congrArg (· + 1) q⟩
    show (some (eval k env), _) :: ((evalEachOpt ks env).zip ((evalEach vs env).map fun v => do let x ← v; standAt pos; pure x)) = _
    rw [p]; rfl
theorem evPairs_sound (IE : SEv G h n) (pos : Pos) : ∀ (ks : List (Option PySem.Expr)) (vs : List PySem.Expr) (m : Wm) (st : St) (s : Shared) (k : List (V × V) → St → Bool) (Q : List (Value × Value) → Shared → Prop), evPairs h c ks vs k st = true → dictOk ks vs = true → EnvOk m c env → B.L = env.locals → Rel G B m st s → Okay n A →
    Cont G B m PairsRel k Q → wpAny (model G.prog G.w) A (evalPairs (prs pos env ks vs)) Q E s
  | [], [], m, st, s, k, Q, e, _, V, hB, R, O, C => wpAny_pure (C.now (a := []) R e trivial)
  | [], _ :: _, _, _, _, _, _, _, d, _, _, _, _, _ => by (first | exact (ff d).elim | exact (nn d).elim | cases d)
  | none :: ks, vs, _, _, _, _, _, _, d, _, _, _, _, _ => by (first | exact (ff vs).elim | exact (nn vs).elim | cases vs) <;> (first | exact (ff d).elim | exact (nn d).elim | cases d)
  | some kx :: ks, [], _, _, _, _, _, _, d, _, _, _, _, _ => by (first | exact (ff d).elim | exact (nn d).elim | cases d)
  | some kx :: ks, v :: vs, m, st, s, k, Q, e, d, V, hB, R, O, C => by
    show wpAny _ _ (evalPairs ((eval kx env, do let x ← eval v env; standAt pos; pure x) :: prs pos env ks vs)) _ _ _
    unfold evalPairs
    refine wpAny_bind (IE B m c kx _ st s A env _ E e V hB R O fun m1 a st1 w1 s1 l1 R1 r1 e1 => ?_)
    refine wpAny_bind (wpAny_holding (wpAny_bind (IE B m1 c v _ st1 s1 A env _ E e1 (V.mono l1) hB R1 O fun m2 b st2 w2 s2 l2 R2 r2 e2 => wpAny_bind (wpAny_standAt (wpAny_pure ?_)))))
    refine wpAny_bind (wpAny_holding ?_)
    refine evPairs_sound IE pos ks vs m2 st2 s2 _ _ e2 d ((V.mono l1).mono l2) hB R2 O fun m3 ps st3 qs s3 l3 R3 r3 e3 => wpAny_pure ?_
    exact C m3 ((a, b) :: ps) st3 _ s3 ((l1.trans l2).trans l3) R3 ⟨(r1.mono l2).mono l3, r2.mono l3, r3⟩ e3
theorem mem_stored {K : Type} [DecidableEq K] {k : K} {w : Value} {x : K} : ∀ {kvs : List (K × Value)}, x ∈ (stored kvs k w).map (·.1) → x = k ∨ x ∈ kvs.map (·.1) := by
  intro kvs hx
  unfold stored at hx
  split at hx
  · refine .inr ?_
    rw [List.map_map] at hx
    have : ((fun x : K × Value => x.1) ∘ fun kv => if kv.1 = k then (kv.1, w) else kv) = fun kv => kv.1 := by funext kv; show (if kv.1 = k then (kv.1, w) else kv).1 = kv.1; split <;> rfl
    rwa [this] at hx
  · rw [List.map_append] at hx
    rcases List.mem_append.mp hx with h | h
    · exact .inr h
    · exact .inl (List.mem_singleton.mp h)
theorem stored_nodup {K : Type} [DecidableEq K] {k : K} {w : Value} {kvs : List (K × Value)} (nd : (kvs.map (·.1)).Nodup) : ((stored kvs k w).map (·.1)).Nodup := by
  unfold stored
  split
  · rw [List.map_map]
    have : ((fun x : K × Value => x.1) ∘ fun kv => if kv.1 = k then (kv.1, w) else kv) = fun kv => kv.1 := by funext kv; show (if kv.1 = k then (kv.1, w) else kv).1 = kv.1; split <;> rfl
    rw [this]; exact nd
  · rename_i hn
    rw [List.map_append]
    refine List.nodup_append.mpr ⟨nd, by simp, fun a ha b hb q => hn ?_⟩
    have hb : b = k := List.mem_singleton.mp hb
    obtain ⟨kv, h1, h2⟩ := List.mem_map.mp ha
    rw [List.any_eq_true]
    exact ⟨kv, h1, decide_eq_true (h2.trans (q.trans hb))⟩
theorem putAll_inv {p : V × V} {r es es' : List (V × V)} (e : putAll (p :: r) es = some es') : ∃ n es1, p.1 = .str n ∧ dPut (.str n) p.2 es = some es1 ∧ putAll r es1 = some es' := by
  obtain ⟨p1, p2⟩ := p
  cases p1 with
  | str n =>
    change (match dPut (.str n) p2 es with | some es1 => putAll r es1 | none => none) = some es' at e
    cases q : dPut (.str n) p2 es with
    | some es1 => rw [q] at e; exact ⟨n, es1, rfl, q, e⟩
    | none => rw [q] at e; exact (nn e).elim
  | _ => exact (nn e).elim
theorem putAll_sound {ps : List (V × V)} : ∀ {qs : List (Value × Value)} {es es' : List (V × V)} {kvs0 : List (Str × Value)}, PairsRel m ps qs → (kvs0.map (·.1)).Nodup → EsRel KStr m es kvs0 → putAll ps es = some es' →
    ∃ kvs, Carries (PySem.strKind G.prog G.w) qs kvs ∧ EsRel KStr m es' (merged kvs0 kvs) := by
  induction ps with
  | nil =>
    intro qs es es' kvs0 h _ r e
    obtain rfl := Option.some.inj e
    cases qs with
    | nil => exact ⟨[], trivial, r⟩
    | cons => exact h.elim
  | cons p ps ih =>
    intro qs es es' kvs0 h nd r e
    cases qs with
    | nil => exact h.elim
    | cons q qs =>
      obtain ⟨h1, h2, h3⟩ := h
      obtain ⟨nn, es1, hp, hd, e⟩ := putAll_inv e
      obtain ⟨x, ox, rfl, hk⟩ := isKey_str (G := G) h1 hp
      have r1 := dPut_sound (k := x) ⟨ox, rfl⟩ h2 (fun hy z => keyEq_sound_str hy ox z) nd r hd
      obtain ⟨kvs, c1, c2⟩ := ih h3 (stored_nodup nd) r1 e
      exact ⟨(x, q.2) :: kvs, ⟨hk, rfl, c1⟩, c2⟩
theorem dict_sound (IE : SEv G h n) {ks : List (Option PySem.Expr)} {vs : List PySem.Expr} {pos : Pos} {k : V → St → Bool} {Q : Value → Shared → Prop} (hl : ks.length ≤ 15) (hd : dictOk ks vs = true) (hne : ks ≠ [])
    (e : make (.dict []) (fun d s => evPairs h c ks vs (fun ps s => ifO (putAll ps []) false fun es => look d (fun o s => match o with
      | .dict [] => store d (.dict es) (fun _ s => k (.ref d) s) s
      | _ => false) s) s) st = true) (V : EnvOk m c env) (hB : B.L = env.locals) (R : Rel G B m st s) (O : Okay n A) (C : Cont G B m VRel k Q) :
    wpAny (model G.prog G.w) A (eval (.Dict ks vs pos) env) Q E s := by
  obtain ⟨h1, e1⟩ := ifB_ff (b := Nat.blt st.n 512) e
  obtain ⟨z1, z2⟩ := prs_zip (env := env) pos ks vs hd
  have ho : ORel G (m.add s.heap.objs.size) st.fd (s.heap.push emptyDict) (.dict []) emptyDict :=
    .inl ⟨[], ⟨⟨rfl, rfl, rfl⟩, #[], 0, rfl, (fun e he => by simp at he), .nil, List.nodup_nil⟩, trivial⟩
  have R1 := R.add (t := s.toks) (get?_size _) (Nat.blt_eq.mp h1) rfl (fun b o q => Heap.get?_push_of_some _ q) (Heap.get?_push_size _ rfl) ho
  have l1 := m.le_add s.heap.objs.size
  have at1 : (m.add s.heap.objs.size).ρ[st.n]? = some s.heap.objs.size := by rw [← R.len]; exact m.add_at _
  refine wpAny_Dict_pairs (knd := PySem.strKind G.prog G.w) z1 (fun q => hne (List.eq_nil_of_length_eq_zero (by rw [← z2, q]; rfl))) (by rw [z2]; exact hl) ?_
  refine evPairs_sound IE pos ks vs _ _ _ _ _ e1 hd (V.mono l1) hB R1 O fun m2 ps st2 qs s2 l2 R2 r2 e2 => ?_
  obtain ⟨es, h3, e3⟩ := ifO_ff e2
  have at2 := l2.at at1
  obtain ⟨o, ob, S, e4⟩ := look_sound R2 at2 e3
  cases o with
  | dict es0 =>
    cases es0 with
    | cons _ _ => (first | exact (ff e4).elim | exact (nn e4).elim | cases e4)
    | nil =>
      obtain ⟨kvs0, d1, d2⟩ := kind_str (x := "") (r := none) (by decide +kernel) S.rel rfl
      cases kvs0 with
      | cons _ _ => exact d2.elim
      | nil =>
        obtain ⟨kvs, c1, c2⟩ := putAll_sound (G := G) (kvs0 := []) r2 List.nodup_nil d2 h3
        refine ⟨kvs, c1, d1.at S.at_, fun h' hd' hs => ?_⟩
        obtain ⟨ob', q1, q2⟩ := IsDict.of hd'
        have R3 := R2.upd (t := s2.toks + qs.length) at2 (S.idx _ rfl).2 rfl rfl (fun b o nb q => hs.extBut b o nb q) q1 (show ORel G m2 st2.fd h' (.dict es) ob' from .inl ⟨_, q2, c2⟩)
        exact C m2 (.ref st.n) _ _ _ (l1.trans l2) R3 ⟨_, at2, rfl⟩ e4
  | _ => (first | exact (ff e4).elim | exact (nn e4).elim | cases e4)
end Sx
end
section
open PySem PySem.W PySem.Calls PyProof.Rows
namespace Sx
set_option maxRecDepth 100000
variable {G : Gl} {B : Base} {m : Wm} {st : St} {s : Shared} {A : Around} {env : Env} {E : Value → Shared → Prop} {n : Nat} {h : Ih} {c : Cx}
noncomputable def HComp (G : Gl) (h : Ih) (n : Nat) : Prop := ∀ (B : Base) (m : Wm) (c : Cx) (elt tg it : PySem.Expr) (ifs : List PySem.Expr) (sc : Scope) (p : Pos) (k : V → St → Bool) (st : St) (s : Shared) (A : Around) (env : Env) (Q : Value → Shared → Prop) (E : Value → Shared → Prop),
  compE G.P h c elt tg it ifs sc k st = true → notSet it = true → EnvOk m c env → B.L = env.locals → Rel G B m st s → Okay n A → Cont G B m VRel k Q → wpAny (model G.prog G.w) A (eval (.ListComp elt [⟨tg, it, ifs, 0⟩] sc p) env) Q E s
noncomputable def HLam (G : Gl) : Prop := ∀ (B : Base) (m : Wm) (c : Cx) (a1 a2 : List Arg) (a3 : Option Arg) (a4 : List Arg) (a6 : Option Arg) (b : PySem.Expr) (sc : Scope) (p : Pos) (k : V → St → Bool) (st : St) (s : Shared) (A : Around) (env : Env) (Q : Value → Shared → Prop) (E : Value → Shared → Prop),
  lamE G.P c sc.names k st = true → EnvOk m c env → B.L = env.locals → Rel G B m st s → A.handled = none → Cont G B m VRel k Q → wpAny (model G.prog G.w) A (eval (.Lambda ⟨a1, a2, a3, a4, [], a6, []⟩ b sc p) env) Q E s
theorem ev_if {P : Pg} {b : Bool} {v : Xv} {k : V → St → Bool} (e : evOf P h c (ifB b v .bad) k st = true) : b = true ∧ evOf P h c v k st = true := by
  cases b with
  | true => exact ⟨rfl, e⟩
  | false => exact (ff e).elim
theorem isZ_eq {i : Int} (h : isZ i = true) : i = 0 := by
  cases i with
  | ofNat n => exact congrArg Int.ofNat (Nat.beq_eq.mp h)
  | negSucc n => exact (ff h).elim
theorem const_cst {P : Pg} {kc : Const} {k : V → St → Bool} (e : evOf P h c (constV kc) k st = true) : ∃ v, constV kc = .cst v := by
  cases kc with
  | str x =>
    obtain ⟨q, _⟩ := ev_if (b := okS x) e
    exact ⟨.str (sid x), by show ifB (okS x) _ _ = _; rw [q]⟩
  | _ => first | exact ⟨_, rfl⟩ | exact (ff e).elim
theorem attr_or (f : PySem.Expr) : (∃ o x p, f = .Attribute o x p) ∨ (notAttr f ∧ ∀ args pos, callF f args pos = .call f args) := by
  cases f with
  | Attribute o x p => exact .inl ⟨o, x, p, rfl⟩
  | _ => exact .inr ⟨trivial, fun _ _ => rfl⟩
theorem slice_or (i : PySem.Expr) : (∃ lo hi sp p, i = .Slice lo hi sp p) ∨ ∀ o, subV o i = .sub o i := by
  cases i with
  | Slice lo hi sp p => exact .inl ⟨lo, hi, sp, p, rfl⟩
  | _ => exact .inr fun _ => rfl
theorem ev_step (g : GOk G) (IE : SEv G h n) (IC : SCl G h n) (KC : KCl G h) (HC : HComp G h n) (HL : HLam G) : SEv G (ihBody G.P h) (n + 1) := by
  intro B m c e k st s A env Q E e1 V hB R O C
  have O' := O.pred
  have OK : ∀ {k}, k ≤ n + 1 → Okay k A := fun q => O.le q
  change evOf G.P h c (view c.sc e) k st = true at e1
  cases e with
  | Constant kc kd pos =>
    obtain ⟨v, hv⟩ := const_cst e1
    change evOf G.P h c (constV kc) k st = true at e1
    rw [hv] at e1; exact ev_const hv e1 R C
  | Name x pos =>
    have nb := nameV_ok (sc := c.sc) (x := x) rfl (fun z => by
      change evOf G.P h c (nameV c.sc x) k st = true at e1
      rw [z] at e1; exact ff e1)
    refine ev_name g rfl V hB R C ?_
    change evOf G.P h c (nameV c.sc x) k st = true at e1
    revert e1
    obtain ⟨_, h1 | h1 | h1⟩ := nb <;> rw [h1.1] <;> intro e1 <;> exact e1
  | BoolOp op es pos =>
    cases es with
    | nil => exact (ff e1).elim
    | cons x r =>
      rw [arm_eval_BoolOp]
      exact boolOp_sound IE op pos (x :: r) m st s (fun b s => k (.tt b) s) Q (fun z => nomatch z) e1 V hB R O' fun m1 a st1 b s1 l1 R1 r1 e2 => C m1 (.tt a) st1 b s1 l1 R1 r1 e2
  | BinOp l op r pos =>
    refine wpAny_BinOp (IE B m c l _ st s A env _ E e1 V hB R O' fun m1 a st1 v s1 l1 R1 r1 e2 => ?_)
    refine IE B m1 c r _ st1 s1 A env _ E e2 (V.mono l1) hB R1 O' fun m2 b st2 w s2 l2 R2 r2 e3 => ?_
    exact bin_sound g e3 (r1.mono l2) r2 R2 (C.mono (l1.trans l2))
  | UnaryOp op x pos =>
    cases op with
    | USub =>
      refine wpAny_UnaryOp (IE B m c x _ st s A env _ E e1 V hB R O' fun m1 a st1 v s1 l1 R1 r1 e2 => ?_)
      cases a with
      | int i => obtain ⟨t, rfl⟩ := r1; exact neg_int (C m1 (.int (-i)) st1 _ _ l1 (R1.toks _) ⟨_, rfl⟩ e2)
      | _ => exact (ff e2).elim
    | Not =>
      refine wpAny_UnaryOp (IE B m c x _ st s A env _ E e1 V hB R O' fun m1 a st1 v s1 l1 R1 r1 e2 => ?_)
      exact not_value (truth_sound e2 r1 fun b e3 => C m1 (.tt (!b)) st1 _ _ l1 R1 rfl e3)
    | _ => exact (ff e1).elim
  | Lambda a b sc pos =>
    obtain ⟨a1, a2, a3, a4, a5, a6, a7⟩ := a
    cases a5 with
    | cons => exact (ff e1).elim
    | nil =>
      cases a7 with
      | cons => exact (ff e1).elim
      | nil => exact HL B m c a1 a2 a3 a4 a6 b sc pos k st s A env Q E e1 V hB R O.hn C
  | IfExp t a b pos =>
    refine wpAny_IfExp (isTrue_sound (cmp_sound g) IE 20 t m st s _ _ e1 V hB R O' fun m1 x st1 y s1 l1 R1 r1 e2 => ?_)
    subst r1
    cases x with
    | true => exact IE B m1 c a k st1 s1 A env Q E e2 (V.mono l1) hB R1 O' (C.mono l1)
    | false => exact IE B m1 c b k st1 s1 A env Q E e2 (V.mono l1) hB R1 O' (C.mono l1)
  | Dict ks vs pos =>
    cases ks with
    | nil =>
      cases vs with
      | nil =>
        have ho : ORel G (m.add s.heap.objs.size) st.fd (s.heap.push emptyDict) (.dict []) emptyDict :=
          .inl ⟨[], ⟨⟨rfl, rfl, rfl⟩, #[], 0, rfl, (fun e he => by simp at he), .nil, List.nodup_nil⟩, trivial⟩
        exact wpAny_Dict_empty (newRef_sound R (t := s.toks) e1 rfl rfl ho C)
      | cons v vs => exact (ff e1).elim
    | cons k0 ks =>
      obtain ⟨h1, e1⟩ := ev_if e1
      obtain ⟨h2, e1⟩ := ev_if e1
      exact dict_sound IE (Nat.ble_eq.mp h1) h2 (fun z => nomatch z) e1 V hB R O' C
  | List es pos =>
    obtain ⟨h1, e1⟩ := ev_if e1
    obtain ⟨h2, e1⟩ := ev_if e1
    refine wpAny_List_spliced (evs_sound IE es m st s _ _ pos e1 h1 V hB R O' fun m1 xs st1 vs s1 l1 R1 r1 e2 => ⟨by rw [r1.2, sizeLine_eq]; have := Nat.blt_eq.mp h2; omega, ?_⟩)
    exact newRef_sound R1 (t := s1.toks) e2 rfl rfl (show ORel G _ _ _ (.list xs) _ from ⟨_, _, rfl, r1.1.mono (m1.le_add _)⟩) (C.mono l1)
  | Tuple es x1 pos =>
    obtain ⟨h1, e1⟩ := ev_if e1
    obtain ⟨h2, e1⟩ := ev_if e1
    refine wpAny_Tuple_spliced (evs_sound IE es m st s _ _ pos e1 h1 V hB R O' fun m1 xs st1 vs s1 l1 R1 r1 e2 => ⟨by rw [r1.2, sizeLine_eq]; have := Nat.blt_eq.mp h2; omega, ?_⟩)
    exact newRef_sound R1 (t := s1.toks) e2 rfl rfl (show ORel G _ _ _ (.tup xs) _ from ⟨rfl, _, _, rfl, r1.1.mono (m1.le_add _)⟩) (C.mono l1)
  | ListComp elt gs sc pos =>
    rcases gs with _ | ⟨⟨tg, it, ifs, as⟩, _ | ⟨g2, gs⟩⟩
    · exact (ff e1).elim
    · obtain ⟨h0, e2⟩ := ev_if e1
      obtain ⟨h1, e3⟩ := ev_if e2
      clear e1 e2
      obtain rfl := isZ_eq h0
      exact HC B m c elt tg it ifs sc pos k st s A env Q E e3 h1 V hB R O' C
    · exact (ff e1).elim
  | Compare l ops rs pos =>
    rcases ops with _ | ⟨o, _ | ⟨o2, os⟩⟩
    · exact (ff e1).elim
    · rcases rs with _ | ⟨r, _ | ⟨r2, rs⟩⟩
      · exact (ff e1).elim
      · obtain ⟨h1, e1⟩ := ev_if e1
        refine wpAny_Compare1 (IE B m c l _ st s A env _ E e1 V hB R O' fun m1 a st1 v s1 l1 R1 r1 e2 => ?_) (notSet_marks h1)
        refine IE B m1 c r _ st1 s1 A env _ E e2 (V.mono l1) hB R1 O' fun m2 b st2 w s2 l2 R2 r2 e3 => ?_
        exact cmp_sound g B m2 o a b _ st2 s2 A v w Q E e3 (r1.mono l2) r2 R2 (OK (Nat.zero_le _)) fun m3 t st3 s3 l3 R3 e4 => C m3 (.tt t) st3 _ s3 ((l1.trans l2).trans l3) R3 rfl e4
      · exact (ff e1).elim
    · exact (ff e1).elim
  | Call f args kws pos =>
    cases kws with
    | nil =>
      obtain ⟨h1, e1⟩ := ev_if e1
      obtain ⟨h2, e1⟩ := ev_if e1
      rcases attr_or f with ⟨o, x, apos, rfl⟩ | ⟨hf, q⟩
      · obtain ⟨h3, e1⟩ := ev_if e1
        obtain ⟨h4, e1⟩ := ev_if e1
        refine mcall_rule h3 h1 (Nat.blt_eq.mp h2) h4 (IE B m c o _ st s A env _ E e1 V hB R O' fun m1 a st1 v s1 l1 R1 r1 e2 pl => ?_)
        refine getMeth_sound g e2 r1 R1 fun f fv hf e3 => ?_
        exact callWith_sound g IE IC KC (xs0 := [a]) e3 h1 hf ⟨r1, trivial⟩ (V.mono l1) hB R1 O' (C.mono l1)
      · rw [q] at e1
        refine call_rule hf (IE B m c f _ st s A env _ E e1 V hB R O' fun m1 a st1 v s1 l1 R1 r1 e2 => ?_)
        exact callWith_sound g IE IC KC (xs0 := []) e2 h1 r1 trivial (V.mono l1) hB R1 O' (C.mono l1)
    | cons => exact (ff e1).elim
  | Attribute o x pos =>
    obtain ⟨h1, e1⟩ := ev_if e1
    refine attr_rule h1 (IE B m c o _ st s A env _ E e1 V hB R O' fun m1 a st1 v s1 l1 R1 r1 e2 => ?_)
    exact getAttr_sound g e2 r1 R1 (C.mono l1)
  | Subscript o i pos =>
    change evOf G.P h c (subV o i) k st = true at e1
    rcases slice_or i with ⟨lo, hi, sp, p2, rfl⟩ | q
    · refine Subscript_ (IE B m c o _ st s A env _ E e1 V hB R O' fun m1 a st1 v s1 l1 R1 r1 e2 => ?_)
      refine wpAny_Slice (part_sound IE e2 (V.mono l1) hB R1 O' fun m2 p st2 vl s2 l2 R2 r2 e3 => ?_)
      refine part_sound IE e3 ((V.mono l1).mono l2) hB R2 O' fun m3 p' st3 vu s3 l3 R3 r3 e4 => ?_
      refine part_sound IE e4 (((V.mono l1).mono l2).mono l3) hB R3 O' fun m4 p'' st4 vs s4 l4 R4 r4 e5 => ?_
      exact cut_sound g e5 (((r1.mono l2).mono l3).mono l4) r2 r3 r4 R4 (C.mono (((l1.trans l2).trans l3).trans l4))
    · rw [q] at e1
      refine Subscript_ (IE B m c o _ st s A env _ E e1 V hB R O' fun m1 a st1 v s1 l1 R1 r1 e2 => ?_)
      refine IE B m1 c i _ st1 s1 A env _ E e2 (V.mono l1) hB R1 O' fun m2 b st2 w s2 l2 R2 r2 e3 => ?_
      exact subscr_sound g e3 (r1.mono l2) r2 R2 (C.mono (l1.trans l2))
  | _ => exact (ff e1).elim
end Sx
end
section
open PySem PySem.W PySem.Calls PyProof.Rows
namespace Sx
set_option maxRecDepth 100000
variable {G : Gl} {B : Base} {m : Wm} {st : St} {s : Shared} {A : Around} {env : Env} {E : Value → Shared → Prop} {n : Nat} {h : Ih} {c : Cx}
theorem iLt_lt (a b : Int) : iLt a b = decide (a < b) := by
  (first | exact (ff a).elim | exact (nn a).elim | cases a) <;> (first | exact (ff b).elim | exact (nn b).elim | cases b) <;> simp only [iLt]
  · rename_i x y
    rcases Nat.lt_or_ge x y with q | q
    · rw [show Nat.blt x y = true from Nat.blt_eq.mpr q, decide_eq_true]; exact Int.ofNat_lt.mpr q
    · rw [decide_eq_false (fun z => by have := Int.ofNat_lt.mp z; omega)]
      cases z : Nat.blt x y with | false => rfl | true => have := Nat.blt_eq.mp z; omega
  · rename_i x y
    rw [decide_eq_false]
    intro z
    have h1 := Int.negSucc_lt_zero y
    have h2 : (0 : Int) ≤ Int.ofNat x := Int.natCast_nonneg x
    omega
  · rename_i x y
    rw [decide_eq_true]
    have h1 := Int.negSucc_lt_zero x
    have h2 : (0 : Int) ≤ Int.ofNat y := Int.natCast_nonneg y
    omega
  · rename_i x y
    rcases Nat.lt_or_ge y x with q | q
    · rw [show Nat.blt y x = true from Nat.blt_eq.mpr q, decide_eq_true]; omega
    · rw [decide_eq_false (fun z => by omega)]
      cases z : Nat.blt y x with | false => rfl | true => have := Nat.blt_eq.mp z; omega
/-- an iterator, at its turn -/
noncomputable def IterAt (h : Heap) (it : Addr) (kd : Sk) (a : Addr) (i : Nat) : Prop := match kd with
  | .list => h.IsListIter it a i
  | .tup => h.IsTupleIter it a i
  | .rng lo hi => ∃ left, IsRangeIter h it (lo + i) left 1 ∧ (0 < left ↔ lo + i < hi) ∧ (0 < left → left = hi - (lo + i))
theorem IterAt.at {h h' : Heap} {it a : Addr} {kd : Sk} {i : Nat} (x : IterAt h it kd a i) (k : ∀ o, h.get? it = some o → h'.get? it = some o) : IterAt h' it kd a i := by
  cases kd with
  | list => obtain ⟨o, e, r⟩ := x; exact ⟨o, k o e, r⟩
  | tup => obtain ⟨o, e, r⟩ := x; exact ⟨o, k o e, r⟩
  | rng lo hi => obtain ⟨l, e, r⟩ := x; exact ⟨l, k _ e, r⟩
theorem IterAt.here {h : Heap} {it a : Addr} {kd : Sk} {i : Nat} (x : IterAt h it kd a i) : ∃ o, h.get? it = some o := by
  cases kd with
  | list => obtain ⟨o, e, r⟩ := x; exact ⟨o, e⟩
  | tup => obtain ⟨o, e, r⟩ := x; exact ⟨o, e⟩
  | rng lo hi => obtain ⟨l, e, r⟩ := x; exact ⟨_, e⟩
theorem rangeSize_one (a b : Int) : Builtin.Range.rangeSize a b 1 = if a < b then b - a else 0 := by
  unfold Builtin.Range.rangeSize
  simp only [show (1 : Int) > 0 from by decide, if_true, Int.ediv_one]
  split <;> omega
/-- a source is asked for its iterator -/
theorem iter_sound (g : GOk G) {src : V} {w : Value} {k : Sk → St → Bool} {Q : Value → Shared → Prop} (e : lookV G.P src (fun o s => ifO (skOf o) false fun kd => k kd s) st = true) (hv : VRel m src w) (R : Rel G B m st s)
    (q : ∀ kd a it h', k kd st = true → w = .ref a → IterAt h' it kd a 0 → Far G B m it → (∀ b o, s.heap.get? b = some o → h'.get? b = some o) → s.heap.get? it = none → Q (.ref it) { s with heap := h' }) : wpAny (model G.prog G.w) A (pyIter w) Q E s := by
  obtain ⟨o, x, ob, rfl, S, e1⟩ := lookV_sound g R hv e
  obtain ⟨kd, h1, e2⟩ := ifO_ff e1
  cases o with
  | list xs =>
    (first | exact (ff h1).elim | exact (nn h1).elim | cases h1)
    obtain ⟨items, hl, _, r⟩ := S.list
    exact wpAny_pyIter_list hl (q .list x _ _ e2 rfl ⟨_, Heap.get?_push_size _ rfl, rfl, rfl⟩ R.farNew (fun b o z => Heap.get?_push_of_some _ z) (get?_size _))
  | tup xs =>
    (first | exact (ff h1).elim | exact (nn h1).elim | cases h1)
    obtain ⟨items, hl, r⟩ := S.tup
    exact wpAny_pyIter_tuple hl (q .tup x _ _ e2 rfl ⟨_, Heap.get?_push_size _ rfl, rfl, rfl⟩ R.farNew (fun b o z => Heap.get?_push_of_some _ z) (get?_size _))
  | rng lo hi =>
    change ifB (small lo) (ifB (small hi) (some (.rng lo hi)) none) none = some kd at h1
    cases hz : small lo with
    | false => rw [hz] at h1; (first | exact (ff h1).elim | exact (nn h1).elim | cases h1)
    | true =>
      cases hz' : small hi with
      | false => rw [hz, hz'] at h1; (first | exact (ff h1).elim | exact (nn h1).elim | cases h1)
      | true =>
      rw [hz, hz'] at h1
      (first | exact (ff h1).elim | exact (nn h1).elim | cases h1)
      have p1 := small_of hz
      have p2 := small_of hz'
      obtain ⟨t, u, v, rfl⟩ := S.rel
      have sm : Builtin.Range.small lo hi 1 = true := small_one (by omega) (by omega) (by omega) (by omega)
      have I0 : IterAt (s.heap.push { cls := .type "range_iterator", data := .fields #[rawInt lo, rawInt (Builtin.Range.rangeSize lo hi 1), rawInt 1] }) s.heap.objs.size (.rng lo hi) x 0 := by
        refine ⟨Builtin.Range.rangeSize lo hi 1, ?_, ?_, ?_⟩
        · have := Heap.get?_push_size s.heap (o := { cls := .type "range_iterator", data := .fields #[rawInt lo, rawInt (Builtin.Range.rangeSize lo hi 1), rawInt 1] }) rfl
          simpa using this
        · rw [rangeSize_one]; simp; split <;> omega
        · rw [rangeSize_one]; simp; split <;> omega
      exact wpAny_pyIter_range S.at_ sm (q (.rng lo hi) x _ _ e2 rfl I0 R.farNew (fun b o z => Heap.get?_push_of_some _ z) (get?_size _))
  | _ => (first | exact (ff h1).elim | exact (nn h1).elim | cases h1)
theorem next_sound (g : GOk G) {kd : Sk} {src : V} {i : Nat} {it a : Addr} {k : Option V → St → Bool} {Q : Option Value → Shared → Prop} (e : nextItem G.P kd src i k st = true) (hv : VRel m src (.ref a)) (R : Rel G B m st s) (I : IterAt s.heap it kd a i) (hh : A.handled = none)
    (qs : ∀ x v h' tk, k (some x) st = true → VRel m x v → IterAt h' it kd a (i + 1) → Heap.SameBut it s.heap h' → Q (some v) { s with heap := h', toks := tk })
    (qn : ∀ h', k none st = true → Heap.ExtBut it s.heap h' → Q none { s with heap := h' }) : wpAny (model G.prog G.w) A (pyNext (.ref it)) Q E s := by
  cases kd with
  | list =>
    obtain ⟨o, x, ob, hx, S, e1⟩ := lookV_sound g R hv e
    (first | exact (ff hx).elim | exact (nn hx).elim | cases hx)
    cases o with
    | list xs =>
      obtain ⟨items, hl, _, r⟩ := S.list
      change k (nthV xs i) st = true at e1
      cases hn : nthV xs i with
      | some y =>
        rw [hn] at e1
        obtain ⟨v, h1, h2⟩ := r.nth hn
        exact wpAny_pyNext_list_item I hl (by rw [← Array.getElem?_toList]; exact h1) fun h' hi hs => qs y v h' s.toks e1 h2 hi hs
      | none =>
        rw [hn] at e1
        exact wpAny_pyNext_list_end hh I hl (by rw [← Array.getElem?_toList]; exact r.nth_none hn) fun h' hs => qn h' e1 hs
    | _ => (first | exact (ff e1).elim | exact (nn e1).elim | cases e1)
  | tup =>
    obtain ⟨o, x, ob, hx, S, e1⟩ := lookV_sound g R hv e
    (first | exact (ff hx).elim | exact (nn hx).elim | cases hx)
    cases o with
    | tup xs =>
      obtain ⟨items, hl, r⟩ := S.tup
      change k (nthV xs i) st = true at e1
      cases hn : nthV xs i with
      | some y =>
        rw [hn] at e1
        obtain ⟨v, h1, h2⟩ := r.nth hn
        exact wpAny_pyNext_tuple_item I hl (by rw [← Array.getElem?_toList]; exact h1) fun h' hi hs => qs y v h' s.toks e1 h2 hi hs
      | none =>
        rw [hn] at e1
        exact wpAny_pyNext_tuple_end hh I hl (by rw [← Array.getElem?_toList]; exact r.nth_none hn) fun h' hs => qn h' e1 hs
    | _ => (first | exact (ff e1).elim | exact (nn e1).elim | cases e1)
  | rng lo hi =>
    obtain ⟨left, h1, h2, h3⟩ := I
    change k (ifB (iLt (lo + i) hi) (some (.int (lo + i))) none) st = true at e
    by_cases q : lo + i < hi
    · rw [iLt_lt, decide_eq_true q] at e
      refine wpAny_pyNext_range_item h1 (h2.mpr q) fun h' hi' hs => qs (.int (lo + i)) _ h' (s.toks + 1) e ⟨_, rfl⟩ ⟨left - 1, ?_, ?_, ?_⟩ hs
      · have : lo + ((i + 1 : Nat) : Int) = lo + i + 1 := by omega
        rw [this]; exact hi'
      · have := h3 (h2.mpr q); omega
      · have := h3 (h2.mpr q); omega
    · rw [iLt_lt, decide_eq_false q] at e
      exact wpAny_pyNext_range_end hh h1 (by have := mt h2.mp q; omega) fun h' hs => qn h' e hs

/-! storing -/
noncomputable def AsgOk (G : Gl) (B : Base) (A : Around) (env : Env) (E : Value → Shared → Prop) (c : Cx) (m : Wm) (t : Value → Sem Unit) (f : V → EM Unit) : Prop := ∀ (m' : Wm) (x : V) (v : Value) (st : St) (s : Shared) (k : Unit → St → Bool) (Q : Unit → Shared → Prop),
  m.Le m' → f x k st = true → VRel m' x v → EnvOk m' c env → B.L = env.locals → Rel G B m' st s → (∀ m'' st' s', m'.Le m'' → Rel G B m'' st' s' → k () st' = true → Q () s') → wpAny (model G.prog G.w) A (t v) Q E s
theorem storeName_free {M : Model} {name : Str} {cc : Addr} {v₀ : Option Value} {v : Value} {Q : Unit → Shared → Prop} (hk : env.scope.kind = .function) (hl : env.kindOf name = some .free)
    (hc : env.cells.lookup name = some cc) (hv : s.heap.IsCell cc v₀)
    (q : ∀ h', h'.IsCell cc (some v) → Heap.SameBut cc s.heap h' → Q () { s with heap := h' }) : wpAny M A (storeName env name v) Q E s := by
  unfold storeName
  simp only [hl, hk]
  exact wpAny_bind (wpAny_cellOf hc (wpAny_cellSet hv q))
theorem st_loc {x : Str} {y : V} {v : Value} {k : Unit → St → Bool} {Q : Unit → Shared → Prop} (hx : kindOf x c.sc.names = some .local) (e : storeLoc (sid x) y k st = true) (hy : VRel m y v) (V : EnvOk m c env) (hB : B.L = env.locals) (R : Rel G B m st s)
    (C : ∀ st' s', Rel G B m st' s' → k () st' = true → Q () s') : wpAny (model G.prog G.w) A (storeName env x v) Q E s := by
  obtain ⟨f, hn, hf⟩ := R.loc
  have hn' := hn
  rw [hB] at hn'
  refine wpAny_storeName_local (V.loc x hx) hn' (fun h' hn' hs => ?_) (by rw [V.kind]; rfl)
  rw [← hB] at hn' hs
  exact C _ _ (R.setLoc (t := s.toks + 1) hf (kindOf_lookup hx).1 hy (fun b o nb q => hs.extBut b o nb q) hn') e
theorem st_cel {x : Str} {y : V} {v : Value} {k : Unit → St → Bool} {Q : Unit → Shared → Prop} (hx : kindOf x c.sc.names = some .cell ∨ kindOf x c.sc.names = some .free) (e : storeCell c (sid x) y k st = true) (hy : VRel m y v) (V : EnvOk m c env) (R : Rel G B m st s)
    (C : ∀ st' s', Rel G B m st' s' → k () st' = true → Q () s') : wpAny (model G.prog G.w) A (storeName env x v) Q E s := by
  obtain ⟨j, h1, h2⟩ := ifO_ff e
  have ox : okS x = true := by rcases hx with h | h <;> exact (kindOf_lookup h).1
  obtain ⟨a, ob, o, p, S, h3⟩ := cell_sound R V ox h1 h2
  cases o with
  | cell v0 =>
    obtain ⟨w, hd, _⟩ := S.rel
    have hc : s.heap.IsCell a w := ⟨_, S.at_, hd⟩
    have fin : ∀ h', h'.IsCell a (some v) → Heap.SameBut a s.heap h' → Q () { s with heap := h' } := fun h' hc' hs => by
      obtain ⟨ob', q1, q2⟩ := hc'
      exact C _ _ (R.upd (t := s.toks) (S.idx j rfl).1 (S.idx j rfl).2 rfl rfl (fun b o nb q => hs.extBut b o nb q) q1 (show ORel G m st.fd h' (.cell (some y)) ob' from ⟨_, q2, v, rfl, hy⟩)) h3
    rcases V.cel x hx with z | z
    · exact wpAny_storeName_cell V.kind z p hc fin
    · exact storeName_free V.kind z p hc fin
  | _ => (first | exact (ff h3).elim | exact (nn h3).elim | cases h3)
theorem bindName_eq (x : Str) (v : Value) : True := trivial
end Sx
end
section
open PySem PySem.W PySem.Calls PyProof.Rows
namespace Sx
set_option maxRecDepth 100000
variable {G : Gl} {B : Base} {m : Wm} {st : St} {s : Shared} {A : Around} {env : Env} {E : Value → Shared → Prop} {n : Nat} {h : Ih} {c : Cx}
noncomputable def asgX : Xv → Bool
  | .loc _ | .cel _ | .attr .. | .sub .. | .tup _ => true
  | _ => false
noncomputable def locX : Xv → Bool
  | .loc _ | .cel _ => true
  | _ => false
theorem asg_of_loc {v : Xv} (h : locX v = true) : asgX v = true := by cases v <;> first | rfl | exact (ff h).elim
theorem na_of {sc : Scope} {e : PySem.Expr} (h : match e with | .Name .. | .Attribute .. | .Subscript .. | .Tuple .. => False | _ => True) : asgX (view sc e) = false := by
  cases e with
  | Name => exact h.elim
  | Attribute => exact h.elim
  | Subscript => exact h.elim
  | Tuple => exact h.elim
  | Constant k _ _ =>
    cases k with
    | str x => exact if_X (f := asgX) (b := okS x) rfl rfl
    | _ => rfl
  | BoolOp op es p => clear h; cases es <;> rfl
  | UnaryOp op x p => clear h; cases op <;> rfl
  | Dict ks vs p =>
    clear h
    cases ks with
    | nil => cases vs <;> rfl
    | cons => (refine if_X (f := asgX) rfl ?_; refine if_X (f := asgX) rfl ?_; rfl)
  | List es p => (refine if_X (f := asgX) rfl ?_; refine if_X (f := asgX) rfl ?_; rfl)
  | ListComp elt gs sc' p =>
    clear h
    rcases gs with _ | ⟨⟨tg, it, ifs, as⟩, _ | ⟨g2, gs⟩⟩
    · rfl
    · (refine if_X (f := asgX) rfl ?_; refine if_X (f := asgX) rfl ?_; rfl)
    · rfl
  | Compare l ops rs p =>
    clear h
    rcases ops with _ | ⟨o, _ | ⟨o2, os⟩⟩
    · rfl
    · rcases rs with _ | ⟨r, _ | ⟨r2, rs⟩⟩
      · rfl
      · (refine if_X (f := asgX) rfl ?_; rfl)
      · rfl
    · rfl
  | Call f args kws pos =>
    clear h
    cases kws with
    | nil =>
      refine if_X (f := asgX) rfl ?_; refine if_X (f := asgX) rfl ?_
      cases f with
      | Attribute => (refine if_X (f := asgX) rfl ?_; refine if_X (f := asgX) rfl ?_; rfl)
      | _ => rfl
    | cons => rfl
  | Lambda a b sc' p =>
    obtain ⟨a1, a2, a3, a4, a5, a6, a7⟩ := a
    cases a5 with
    | nil => cases a7 <;> rfl
    | cons => rfl
  | _ => rfl
theorem nl_of {o i : PySem.Expr} : locX (subV o i) = false := by cases i <;> rfl
theorem loc_name {sc : Scope} {e : PySem.Expr} (h : locX (view sc e) = true) : ∃ x p, e = .Name x p := by
  cases e with
  | Name x p => exact ⟨x, p, rfl⟩
  | Attribute o x p => exact (ff ((show locX (ifB (plainBase o) (.attr o x) .bad) = false from (if_X (f := locX) rfl rfl)).symm.trans h)).elim
  | Subscript o i p => exact (ff (nl_of.symm.trans h)).elim
  | Tuple es k p => exact (ff ((show locX (ifB (noStar es) (ifB (Nat.blt es.length 1000) (.tup es) .bad) .bad) = false from (if_X (f := locX) rfl (if_X (f := locX) rfl rfl))).symm.trans h)).elim
  | _ => exact (ff ((na_of trivial).symm.trans (asg_of_loc h))).elim
theorem nameOf_inv {y : Xv} {v : V} {k : Unit → St → Bool} (e : nameOf c y v k st = true) : (∃ x, y = .loc x ∧ storeLoc x v k st = true) ∨ ∃ x, y = .cel x ∧ storeCell c x v k st = true := by
  cases y with
  | loc x => exact .inl ⟨x, rfl, e⟩
  | cel x => exact .inr ⟨x, rfl, e⟩
  | _ => exact (ff e).elim
theorem storeCell_inv {x : Nat} {v : V} {k : Unit → St → Bool} (e : storeCell c x v k st = true) : ∃ st', k () st' = true := by
  obtain ⟨j, _, h2⟩ := ifO_ff e
  obtain ⟨o, _, h4⟩ := ifO_ff h2
  cases o with
  | cell w => exact ⟨_, h4⟩
  | _ => exact (ff h4).elim
theorem st_name {x : Str} {p : Pos} {y : V} {v : Value} {k : Unit → St → Bool} {Q : Unit → Shared → Prop} (e : assignName c (.Name x p) y k st = true) (hy : VRel m y v) (V : EnvOk m c env) (hB : B.L = env.locals) (R : Rel G B m st s)
    (C : ∀ st' s', Rel G B m st' s' → k () st' = true → Q () s') : wpAny (model G.prog G.w) A (storeName env x v) Q E s := by
  change nameOf c (nameV c.sc x) y k st = true at e
  have nb : nameV c.sc x ≠ .bad := fun z => by rw [z] at e; exact ff e
  obtain ⟨N, h1 | h1 | h1⟩ := nameV_ok rfl nb
  · rw [h1.1] at e; exact st_loc h1.2 e hy V hB R C
  · rw [h1.1] at e; exact st_cel h1.2 e hy V R C
  · rw [h1.1] at e; exact (ff e).elim
theorem names_sound : ∀ (es : List PySem.Expr) (xs : List V) (vs : List Value) (m : Wm) (st : St) (s : Shared) (k : Unit → St → Bool) (Q : Unit → Shared → Prop), assignNames c es xs k st = true → VsRel m xs vs → EnvOk m c env → B.L = env.locals → Rel G B m st s →
    (∀ st' s', Rel G B m st' s' → k () st' = true → Q () s') → wpAny (model G.prog G.w) A (assignInOrder ((assignEach es env).map (·.2)) vs) Q E s
  | [], [], [], m, st, s, k, Q, e, _, V, hB, R, C => wpAny_assignInOrder_none (C st s R e)
  | [], _ :: _, _, _, _, _, _, _, e, _, _, _, _, _ => by (first | exact (ff e).elim | exact (nn e).elim | cases e)
  | [], [], _ :: _, _, _, _, _, _, _, r, _, _, _, _ => r.elim
  | x :: es, [], _, _, _, _, _, _, e, _, _, _, _, _ => by (first | exact (ff e).elim | exact (nn e).elim | cases e)
  | x :: es, y :: xs, [], _, _, _, _, _, _, r, _, _, _, _ => r.elim
  | x :: es, y :: xs, v :: vs, m, st, s, k, Q, e, r, V, hB, R, C => by
    change assignName c x y (fun _ s => assignNames c es xs k s) st = true at e
    have hl : locX (view c.sc x) = true := by rcases nameOf_inv e with ⟨z, q, _⟩ | ⟨z, q, _⟩ <;> (rw [q]; rfl)
    obtain ⟨nm, p, rfl⟩ := loc_name hl
    show wpAny _ _ (assignInOrder (PySem.assign (.Name nm p) env :: (assignEach es env).map (·.2)) (v :: vs)) _ _ _
    refine wpAny_assignInOrder_more (wpAny_assign_Name (st_name e r.1 V hB R fun st' s' R' e' => ?_))
    exact names_sound es xs vs m st' s' k Q e' r.2 V hB R' C
theorem names_len : ∀ (es : List PySem.Expr) (xs : List V) (k : Unit → St → Bool) (st : St), assignNames c es xs k st = true → es.length = xs.length
  | [], [], _, _, _ => rfl
  | [], _ :: _, _, _, e => by (first | exact (ff e).elim | exact (nn e).elim | cases e)
  | _ :: _, [], _, _, e => by (first | exact (ff e).elim | exact (nn e).elim | cases e)
  | x :: es, y :: xs, k, st, e => by
    change assignName c x y (fun _ s => assignNames c es xs k s) st = true at e
    have : ∃ st', assignNames c es xs k st' = true := by
      rcases nameOf_inv e with ⟨z, _, q⟩ | ⟨z, _, q⟩
      · exact ⟨_, q⟩
      · exact storeCell_inv q
    obtain ⟨st', h⟩ := this
    rw [List.length_cons, List.length_cons, names_len es xs k st' h]
theorem each_plain : ∀ (es : List PySem.Expr), noStar es = true → (assignEach es env).length = es.length ∧ (assignEach es env).findIdx? (·.1) = none
  | [], _ => ⟨rfl, rfl⟩
  | x :: r, ns => by
    have hs : assignEach (x :: r) env = (false, PySem.assign x env) :: assignEach r env ∧ noStar r = true := by
      (first | exact (ff x).elim | exact (nn x).elim | cases x) <;> first | exact ⟨rfl, ns⟩ | (first | exact (ff ns).elim | exact (nn ns).elim | cases ns)
    obtain ⟨a, b⟩ := each_plain r hs.2
    rw [hs.1]
    refine ⟨by rw [List.length_cons, List.length_cons, a], ?_⟩
    rw [List.findIdx?_cons, b]; rfl
theorem assign_list {es : List PySem.Expr} {k : Nat} {pos : Pos} {t : Addr} {items : Array Value} {Q : Unit → Shared → Prop} (hh : A.handled = none) (ht : s.heap.IsList t items)
    (hn : (assignEach es env).length = items.size) (hstar : (assignEach es env).findIdx? (·.1) = none)
    (q : ∀ h', Heap.ExtBut s.heap.objs.size s.heap h' → wpAny (model G.prog G.w) A (assignInOrder ((assignEach es env).map (·.2)) items.toList) Q E { s with heap := h' }) :
    wpAny (model G.prog G.w) A (PySem.assign (.Tuple es k pos) env (.ref t)) Q E s := by
  rw [arm_assign_Tuple]
  refine wpAny_bind (wpAny_standAt ?_)
  unfold unpack
  rw [hn, hstar]
  exact wpAny_bind (wpAny_holding (kun_itemsOf hh ht q))
theorem as_if {P : Pg} {b : Bool} {w : Xv} {v : V} {k : Unit → St → Bool} (e : asgOf P h c (ifB b w .bad) v k st = true) : b = true ∧ asgOf P h c w v k st = true := by
  cases b with
  | true => exact ⟨rfl, e⟩
  | false => exact (ff e).elim
theorem as_X {P : Pg} {w : Xv} {v : V} {k : Unit → St → Bool} (e : asgOf P h c w v k st = true) : asgX w = true := by
  cases w <;> first | rfl | exact (ff e).elim
theorem as_name {P : Pg} {x : Str} {v : V} {k : Unit → St → Bool} (e : asgOf P h c (nameV c.sc x) v k st = true) : nameOf c (nameV c.sc x) v k st = true := by
  have nb : nameV c.sc x ≠ .bad := fun z => by rw [z] at e; exact ff e
  obtain ⟨_, ⟨h1, _⟩ | ⟨h1, _⟩ | ⟨h1, _⟩⟩ := nameV_ok rfl nb <;> rw [h1] at e ⊢ <;> exact e
theorem as_sub {P : Pg} {o i : PySem.Expr} {v : V} {k : Unit → St → Bool} (e : asgOf P h c (subV o i) v k st = true) : asgOf P h c (.sub o i) v k st = true := by
  cases i <;> first | exact e | exact (ff e).elim
theorem as_seq {o : O} {f : List V → Bool} (e : (match o with | .tup xs | .list xs => f xs | _ => false) = true) : (∃ xs, o = .tup xs ∧ f xs = true) ∨ ∃ xs, o = .list xs ∧ f xs = true := by
  cases o with
  | tup xs => exact .inl ⟨xs, rfl, e⟩
  | list xs => exact .inr ⟨xs, rfl, e⟩
  | _ => exact (ff e).elim
theorem assign_sound (g : GOk G) (IE : SEv G h n) {tg : PySem.Expr} {y : V} {v : Value} {k : Unit → St → Bool} {Q : Unit → Shared → Prop} (e : Sx.assign G.P h c tg y k st = true) (hy : VRel m y v) (V : EnvOk m c env) (hB : B.L = env.locals) (R : Rel G B m st s) (O : Okay n A)
    (C : ∀ m' st' s', m.Le m' → Rel G B m' st' s' → k () st' = true → Q () s') : wpAny (model G.prog G.w) A (PySem.assign tg env v) Q E s := by
  have C0 : ∀ st' s', Rel G B m st' s' → k () st' = true → Q () s' := fun st' s' R' e' => C m st' s' (Wm.Le.refl m) R' e'
  change asgOf G.P h c (view c.sc tg) y k st = true at e
  cases tg with
  | Name x p => exact wpAny_assign_Name (st_name (p := p) (as_name e) hy V hB R C0)
  | Attribute o x p =>
    obtain ⟨h1, e⟩ := as_if e
    rw [arm_assign_Attribute]
    refine wpAny_bind (wpAny_holding (IE B m c o _ st s A env _ E e V hB R O fun m1 a st1 w s1 l1 R1 r1 e1 => wpAny_bind (wpAny_standAt ?_)))
    refine wpAny_bind (wpAny_holding (setAttr_sound g e1 r1 (hy.mono l1) R1 fun st' s' R' e' => ?_))
    exact wpAny_release (C m1 st' s' l1 R' e')
  | Subscript o i p =>
    replace e := as_sub e
    rw [arm_assign_Subscript]
    refine wpAny_bind (wpAny_holding (IE B m c o _ st s A env _ E e V hB R O fun m1 a st1 w s1 l1 R1 r1 e1 => ?_))
    refine wpAny_bind (wpAny_holding (IE B m1 c i _ st1 s1 A env _ E e1 (V.mono l1) hB R1 O fun m2 b st2 u s2 l2 R2 r2 e2 => wpAny_bind (wpAny_standAt ?_)))
    refine wpAny_bind (wpAny_holding (setItem_sound g e2 (r1.mono l2) r2 ((hy.mono l1).mono l2) R2 fun st' s' R' e' => ?_))
    exact wpAny_release (C m2 st' s' (l1.trans l2) R' e')
  | Tuple es kk p =>
    obtain ⟨h1, e⟩ := as_if e
    obtain ⟨h2, e⟩ := as_if e
    obtain ⟨o, a, ob, rfl, S, e1⟩ := lookV_sound g R hy e
    obtain ⟨p1, p2⟩ := each_plain (env := env) es h1
    rcases as_seq (f := fun xs => assignNames c es xs k st) e1 with ⟨xs, rfl, e1⟩ | ⟨xs, rfl, e1⟩
    · obtain ⟨items, hl, r⟩ := S.tup
      have ln := names_len es xs k st e1
      refine wpAny_assign_Tuple O.hn hl (by rw [p1, ln, r.arr]) p2 fun h' hx => ?_
      exact names_sound es xs _ m st _ k Q e1 r V hB (R.but (t := s.toks) R.farNew (fun b o nb z => hx b o nb z)) C0
    · obtain ⟨items, hl, _, r⟩ := S.list
      have ln := names_len es xs k st e1
      refine assign_list O.hn hl (by rw [p1, ln, r.arr]) p2 fun h' hx => ?_
      exact names_sound es xs _ m st _ k Q e1 r V hB (R.but (t := s.toks) R.farNew (fun b o nb z => hx b o nb z)) C0
  | _ => exact (ff ((na_of trivial).symm.trans (as_X e))).elim
end Sx
end
section
open PySem PySem.W PySem.Calls PyProof.Rows
namespace Sx
set_option maxRecDepth 100000
variable {G : Gl} {B : Base} {m : Wm} {st : St} {s : Shared} {A : Around} {env : Env} {E : Value → Shared → Prop} {n : Nat} {h : Ih} {c : Cx}
/-! stores in the reverse order -/
noncomputable def assoc (y : Str) : List (Str × Value) → Option Value
  | [] => none
  | p :: r => if y = p.1 then some p.2 else assoc y r
theorem assoc_append {y : Str} : ∀ {a b : List (Str × Value)}, assoc y (a ++ b) = match assoc y a with | some v => some v | none => assoc y b
  | [], _ => rfl
  | p :: r, b => by
    show (if y = p.1 then some p.2 else assoc y (r ++ b)) = match (if y = p.1 then some p.2 else assoc y r) with | some v => some v | none => assoc y b
    split
    · rfl
    · exact assoc_append
theorem assoc_none {y : Str} : ∀ {a : List (Str × Value)}, y ∉ a.map (·.1) → assoc y a = none
  | [], _ => rfl
  | p :: r, h => by
    simp only [List.map_cons, List.mem_cons, not_or] at h
    show (if y = p.1 then some p.2 else assoc y r) = none
    rw [if_neg h.1]; exact assoc_none h.2
theorem assoc_reverse {y : Str} : ∀ {a : List (Str × Value)}, (a.map (·.1)).Nodup → assoc y a.reverse = assoc y a
  | [], _ => rfl
  | p :: r, nd => by
    simp only [List.map_cons, List.nodup_cons] at nd
    rw [List.reverse_cons, assoc_append, assoc_reverse nd.2]
    show _ = if y = p.1 then some p.2 else assoc y r
    by_cases q : y = p.1
    · rw [if_pos q, q, assoc_none nd.1]
      show assoc p.1 [p] = _
      simp [assoc]
    · rw [if_neg q]
      have : assoc y [p] = none := by simp [assoc, q]
      rw [this]
      cases assoc y r <;> rfl
theorem rev_stores {M : Model} (hloc : ∀ x ∈ (List.map (fun p : Str × Value => p.1) [] : List Str), True) : ∀ (ps : List (Str × Value)) (s : Shared) (f : Str → Option Value) (Q : Unit → Shared → Prop), env.scope.kind = .function → (∀ p ∈ ps, env.kindOf p.1 = some .local) → (ps.map (·.1)).Nodup → s.heap.Ns env.locals f →
    (∀ h' tk, h'.Ns env.locals (fun y => match assoc y ps with | some v => some v | none => f y) → Heap.SameBut env.locals s.heap h' → Q () { s with heap := h', toks := tk }) → wpAny M A (assignInOrder (ps.map fun p => bindName env p.1) (ps.map (·.2))) Q E s
  | [], s, f, Q, _, _, _, hn, q => wpAny_assignInOrder_none (q s.heap s.toks hn (Heap.SameBut.refl ..))
  | p :: r, s, f, Q, hk, hl, nd, hn, q => by
    simp only [List.map_cons, List.nodup_cons] at nd
    refine wpAny_assignInOrder_more (wpAny_bindName (wpAny_storeName_local (hl p (.head _)) hn (fun h' hn' hs => ?_) (by rw [hk]; rfl)))
    refine rev_stores hloc r _ _ _ hk (fun p hp => hl p (.tail _ hp)) nd.2 hn' fun h'' tk hn'' hs' => ?_
    have e : (fun y => match assoc y r with | some v => some v | none => if y = p.1 then some p.2 else f y) = fun y => match assoc y (p :: r) with | some v => some v | none => f y := by
      funext y
      show _ = match (if y = p.1 then some p.2 else assoc y r) with | some v => some v | none => f y
      by_cases z : y = p.1
      · rw [if_pos z, z, assoc_none nd.1]; simp
      · rw [if_neg z]; cases assoc y r <;> simp [z]
    rw [e] at hn''
    exact q h'' tk hn'' (hs.trans hs')
noncomputable def foldSet : List Str → List V → List (Nat × V) → List (Nat × V)
  | i :: is, x :: xs, fr => foldSet is xs (setK (sid i) x fr)
  | _, _, fr => fr
theorem lk_foldSet {y : Str} (oy : okS y = true) : ∀ (ids : List Str) (xs : List V) (vs : List Value) (fr : List (Nat × V)), (∀ i ∈ ids, okS i = true) → ids.Nodup → VsRel m xs vs → ids.length = xs.length → ∀ v, lk (sid y) (foldSet ids xs fr) = some v →
    (∃ w, assoc y (ids.zip vs) = some w ∧ VRel m v w) ∨ (assoc y (ids.zip vs) = none ∧ lk (sid y) fr = some v)
  | [], xs, vs, fr, _, _, _, _, v, e => .inr ⟨by rfl, e⟩
  | i :: is, [], vs, fr, _, _, _, l, v, e => by (first | exact (ff l).elim | exact (nn l).elim | cases l)
  | i :: is, x :: xs, [], fr, _, _, r, _, v, e => r.elim
  | i :: is, x :: xs, w :: ws, fr, oi, nd, r, l, v, e => by
    simp only [List.nodup_cons] at nd
    have l' : is.length = xs.length := by simpa using l
    rcases lk_foldSet oy is xs ws _ (fun j hj => oi j (.tail _ hj)) nd.2 r.2 l' v e with ⟨u, h1, h2⟩ | ⟨h1, h2⟩
    · left
      refine ⟨u, ?_, h2⟩
      show (if y = i then some w else assoc y (is.zip ws)) = some u
      rw [if_neg]
      · exact h1
      · intro q
        subst q
        have : y ∉ (is.zip ws).map (·.1) := fun z => nd.1 (by
          obtain ⟨p, hp, rfl⟩ := List.mem_map.mp z
          exact (List.of_mem_zip (a := p.1) (b := p.2) hp).1)
        rw [assoc_none this] at h1; (first | exact (ff h1).elim | exact (nn h1).elim | cases h1)
    · rw [lk_setK] at h2
      by_cases q : sid y = sid i
      · rw [if_pos q] at h2
        (first | exact (ff h2).elim | exact (nn h2).elim | cases h2)
        have z := sid_inj oy (oi i (.head _)) q
        exact .inl ⟨w, by show (if y = i then some w else assoc y (is.zip ws)) = some w; rw [if_pos z], r.1⟩
      · rw [if_neg q] at h2
        refine .inr ⟨?_, h2⟩
        show (if y = i then some w else assoc y (is.zip ws)) = none
        rw [if_neg (fun z => q (by rw [z]))]; exact h1
/-- names of the frame: what E stores -/
theorem names_loc (hE : EnvOk m c env) : ∀ (es : List PySem.Expr) (ids : List Str) (xs : List V) (k : Unit → St → Bool) (st : St), (∃ ps : List Pos, es = (ids.zip ps).map (fun p => PySem.Expr.Name p.1 p.2) ∧ ids.length = ps.length) → (∀ i ∈ ids, env.kindOf i = some .local) → assignNames c es xs k st = true →
    (∀ i ∈ ids, okS i = true) ∧ ids.length = xs.length ∧ k () ⟨st.n, st.k, st.t, foldSet ids xs st.fr, st.fd⟩ = true
  | es, [], xs, k, st, ⟨ps, he, hl⟩, _, e => by
    have : es = [] := by rw [he]; rfl
    subst this
    cases xs with
    | nil => exact ⟨(fun _ h => nomatch h), rfl, e⟩
    | cons _ _ => (first | exact (ff e).elim | exact (nn e).elim | cases e)
  | es, i :: ids, xs, k, st, ⟨ps, he, hl⟩, hk, e => by
    cases ps with
    | nil => (first | exact (ff hl).elim | exact (nn hl).elim | cases hl)
    | cons p ps =>
      have : es = .Name i p :: (ids.zip ps).map (fun p => PySem.Expr.Name p.1 p.2) := he
      subst this
      cases xs with
      | nil => (first | exact (ff e).elim | exact (nn e).elim | cases e)
      | cons x xs =>
        change nameOf c (nameV c.sc i) x (fun _ s => assignNames c _ xs k s) st = true at e
        have nb : nameV c.sc i ≠ .bad := fun z => by rw [z] at e; (first | exact (ff e).elim | exact (nn e).elim | cases e)
        have hi := hk i (.head _)
        obtain ⟨N, h1 | h1 | h1⟩ := nameV_ok rfl nb
        · rw [h1.1] at e
          obtain ⟨a, b, d⟩ := names_loc hE _ ids xs k _ ⟨ps, rfl, by simpa using hl⟩ (fun j hj => hk j (.tail _ hj)) e
          refine ⟨fun j hj => ?_, by rw [List.length_cons, List.length_cons, b], d⟩
          cases hj with
          | head => exact (kindOf_lookup h1.2).1
          | tail _ hj => exact a j hj
        · exfalso
          rcases hE.cel i h1.2 with z | z <;> (rw [hi] at z; (first | exact (ff z).elim | exact (nn z).elim | cases z))
        · exfalso
          have := hE.glb i h1.2; rw [hi] at this; (first | exact (ff this).elim | exact (nn this).elim | cases this)
theorem nodup_of_dups : ∀ (n : Nat) (l : List Str), l.length ≤ n → l.eraseDups.length = l.length → l.Nodup := by
  have le : ∀ (n : Nat) (l : List Str), l.length ≤ n → l.eraseDups.length ≤ l.length := by
    intro n
    induction n with
    | zero => intro l h; rw [List.eq_nil_of_length_eq_zero (Nat.le_zero.mp h)]; simp
    | succ n ih =>
      intro l h
      cases l with
      | nil => simp
      | cons a r =>
        rw [List.eraseDups_cons, List.length_cons, List.length_cons]
        have h1 : (r.filter fun b => !b == a).length ≤ r.length := List.length_filter_le _ _
        have := ih (r.filter fun b => !b == a) (by rw [List.length_cons] at h; omega)
        omega
  intro n
  induction n with
  | zero => intro l h _; rw [List.eq_nil_of_length_eq_zero (Nat.le_zero.mp h)]; exact List.nodup_nil
  | succ n ih =>
    intro l h e
    cases l with
    | nil => exact List.nodup_nil
    | cons a r =>
      rw [List.eraseDups_cons, List.length_cons, List.length_cons] at e
      rw [List.length_cons] at h
      have h1 : (r.filter fun b => !b == a).length ≤ r.length := List.length_filter_le _ _
      have h2 := le n (r.filter fun b => !b == a) (by omega)
      have h3 : (r.filter fun b => !b == a).length = r.length := by omega
      have h4 : r.filter (fun b => !b == a) = r := List.filter_eq_self.mpr (fun b hb => (List.length_filter_eq_length_iff.mp h3) b hb)
      rw [h4] at e
      refine List.nodup_cons.mpr ⟨fun hm => ?_, ih r (by omega) (by omega)⟩
      have := (List.length_filter_eq_length_iff.mp h3) a hm
      simp at this
noncomputable def nf (env : Env) (line : Nat) : PySem.Expr → Option Str
  | .Name id pos => if env.kindOf id == some .local && pos.line == line then some id else none
  | _ => none
theorem names_of (env : Env) (line : Nat) : ∀ ts : List PySem.Expr, (ts.filterMap (nf env line)).length = ts.length →
    (∀ i ∈ ts.filterMap (nf env line), env.kindOf i = some .local) ∧ ∃ ps : List Pos, ts = ((ts.filterMap (nf env line)).zip ps).map (fun p => PySem.Expr.Name p.1 p.2) ∧ (ts.filterMap (nf env line)).length = ps.length
  | [], _ => ⟨fun _ h => (nomatch h), [], rfl, rfl⟩
  | t :: r, e => by
    have le := List.length_filterMap_le (nf env line) r
    have bad : nf env line t = none → False := fun q => by
      rw [List.filterMap_cons_none q, List.length_cons] at e; omega
    cases t with
    | Name id pos =>
      by_cases c : (env.kindOf id == some .local && pos.line == line) = true
      · have q : nf env line (.Name id pos) = some id := if_pos c
        rw [List.filterMap_cons_some q] at e ⊢
        obtain ⟨a, ps, b, d⟩ := names_of env line r (by simpa using e)
        refine ⟨fun i hi => ?_, pos :: ps, ?_, by rw [List.length_cons, List.length_cons, d]⟩
        · cases hi with
          | head => exact beq_iff_eq.mp (Bool.and_eq_true_iff.mp c).1
          | tail _ hi => exact a i hi
        · rw [List.zip_cons_cons, List.map_cons, ← b]
      · exact (bad (if_neg c)).elim
    | _ => exact (bad rfl).elim
/-- which stores are exchanged -/
theorem swapped_cases (tg e : PySem.Expr) (ok : storesOk tg e = true) (hk : env.scope.kind = .function) : swappedStores [tg] e env = pure none ∨
    ∃ ts k p vs k' p', tg = .Tuple ts k p ∧ e = .Tuple vs k' p' ∧ ∃ ids : List Str, swappedStores [tg] e env = pure (some ids) ∧ ids.Nodup ∧ (∀ i ∈ ids, env.kindOf i = some .local) ∧ ∃ ps : List Pos, ts = (ids.zip ps).map (fun p => PySem.Expr.Name p.1 p.2) ∧ ids.length = ps.length := by
  by_cases ht : ∃ ts k p, tg = .Tuple ts k p
  · obtain ⟨ts, k, p, rfl⟩ := ht
    by_cases he : ∃ vs k' p', e = .Tuple vs k' p'
    · obtain ⟨vs, k', p', rfl⟩ := he
      have ok' : (!(vs.all (constantsAlone 8))) = true := ok
      have hc : vs.all (constantsAlone 8) = false := by simpa using ok'
      let line := (ts.head?.map (·.pos.line)).getD 0
      let f : PySem.Expr → Option Str := nf env line
      have eq : swappedStores [.Tuple ts k p] (.Tuple vs k' p') env = (do
          if !(ts.length == 2 || ts.length == 3) || vs.length != ts.length || env.blockKind != .function then return none
          if vs.any fun | .Starred .. => true | _ => false then return none
          if (ts.filterMap f).length != ts.length || (ts.filterMap f).eraseDups.length != (ts.filterMap f).length then return none
          if vs.all (foldedForSure 8) then return none
          if vs.all (constantsAlone 8) then unsupported "assign.tuple-of-constant-expressions:order-of-the-stores"
          return some (ts.filterMap f)) := rfl
      rw [eq]
      by_cases c1 : (!(ts.length == 2 || ts.length == 3) || vs.length != ts.length || env.blockKind != .function) = true
      · left; rw [if_pos c1]
      · rw [if_neg c1]
        by_cases c2 : (vs.any fun | .Starred .. => true | _ => false) = true
        · left; rw [if_pos c2]
        · rw [if_neg c2]
          by_cases c3 : ((ts.filterMap f).length != ts.length || (ts.filterMap f).eraseDups.length != (ts.filterMap f).length) = true
          · left; rw [if_pos c3]
          · have c3' := Bool.or_eq_false_iff.mp (Bool.eq_false_iff.mpr c3)
            rw [if_neg c3]
            by_cases c4 : vs.all (foldedForSure 8) = true
            · left; rw [if_pos c4]
            · right
              rw [if_neg c4, hc]
              refine ⟨ts, k, p, vs, k', p', rfl, rfl, ts.filterMap f, rfl, ?_, ?_, ?_⟩
              · exact nodup_of_dups _ _ (Nat.le_refl _) (bne_eq_false_iff_eq.mp c3'.2)
              · exact (names_of env line ts (bne_eq_false_iff_eq.mp c3'.1)).1
              · exact (names_of env line ts (bne_eq_false_iff_eq.mp c3'.1)).2
    · left
      (first | exact (ff e).elim | exact (nn e).elim | cases e) <;> first | rfl | exact absurd ⟨_, _, _, rfl⟩ he
  · left
    (first | exact (ff tg).elim | exact (nn tg).elim | cases tg) <;> first | rfl | exact absurd ⟨_, _, _, rfl⟩ ht | (first | exact (ff ok).elim | exact (nn ok).elim | cases ok)
theorem swapped_sound (g : GOk G) {ts : List PySem.Expr} {ids : List Str} {kk : Nat} {p : Pos} {y : V} {v : Value} {k : Unit → St → Bool} {Q : Unit → Shared → Prop} (nd : ids.Nodup) (hloc : ∀ i ∈ ids, env.kindOf i = some .local) (hps : ∃ ps : List Pos, ts = (ids.zip ps).map (fun p => PySem.Expr.Name p.1 p.2) ∧ ids.length = ps.length)
    (e : Sx.assign G.P h c (.Tuple ts kk p) y k st = true) (hy : VRel m y v) (hE : EnvOk m c env) (hB : B.L = env.locals) (R : Rel G B m st s) (O : Okay n A)
    (C : ∀ st' s', Rel G B m st' s' → k () st' = true → Q () s') :
    wpAny (model G.prog G.w) A (unpackItems v ids.length none) (fun items s₂ => wpAny (model G.prog G.w) A (assignInOrder (ids.reverse.map fun n => bindName env n) items.reverse) Q E s₂) E s := by
  obtain ⟨h1, e⟩ := as_if e
  obtain ⟨h2, e⟩ := as_if e
  have fin : ∀ (xs : List V) (items : Array Value) (h' : Heap), VsRel m xs items.toList → assignNames c ts xs k st = true → Heap.ExtBut s.heap.objs.size s.heap h' →
      wpAny (model G.prog G.w) A (assignInOrder (ids.reverse.map fun n => bindName env n) items.toList.reverse) Q E { s with heap := h' } := by
    intro xs items h' r e1 hx
    obtain ⟨oi, ln, e2⟩ := names_loc hE ts ids xs k st hps hloc e1
    have R' := R.but (t := s.toks) R.farNew (fun b o nb z => hx b o nb z)
    obtain ⟨f, hn, hf⟩ := R'.loc
    have hn' := hn
    rw [hB] at hn'
    have lz : ids.length = items.toList.length := ln.trans r.length
    have z1 : ids.reverse = ((ids.zip items.toList).reverse).map (·.1) := by rw [List.map_reverse, List.map_fst_zip (by omega)]
    have z2 : items.toList.reverse = ((ids.zip items.toList).reverse).map (·.2) := by rw [List.map_reverse, List.map_snd_zip (by omega)]
    have ndz : ((ids.zip items.toList).map (·.1)).Nodup := by rw [List.map_fst_zip (by omega)]; exact nd
    rw [z1, z2, List.map_map]
    refine rev_stores (fun _ _ => trivial) _ _ f Q hE.kind (fun p hp => ?_) (by rw [List.map_reverse]; exact List.pairwise_reverse.mpr (ndz.imp fun h => Ne.symm h)) hn' fun h'' tk hn'' hs => ?_
    · exact hloc p.1 ((List.of_mem_zip (a := p.1) (b := p.2) (List.mem_reverse.mp hp)).1)
    · rw [← hB] at hn'' hs
      refine C _ _ ?_ e2
      have nm : ∀ {b}, b ∈ m.ρ → b ≠ B.L := fun h e => R'.locFar (e ▸ h)
      have kp : ∀ b o, b ≠ B.L → h'.get? b = some o → h''.get? b = some o := fun b o nb q => hs.extBut b o nb q
      refine { R' with here := ?_, keep := ?_, loc := ⟨_, hn'', fun y w oy hy' => ?_⟩, tb := ?_, objs := ?_ }
      · intro b hb; obtain ⟨o, e⟩ := R'.here b hb; exact ⟨o, kp b o (nm hb) e⟩
      · intro b o e n1 n2 n3; exact kp b o n2 (R'.keep b o e n1 n2 n3)
      · rcases lk_foldSet oy ids xs items.toList st.fr oi nd r ln w hy' with ⟨u, h1, h2⟩ | ⟨h1, h2⟩
        · exact ⟨u, by rw [assoc_reverse ndz, h1], h2⟩
        · obtain ⟨u, h3, h4⟩ := hf y w oy h2
          exact ⟨u, by rw [assoc_reverse ndz, h1]; exact h3, h4⟩
      · obtain ⟨o, x, y⟩ := R'.tb; exact ⟨o, kp _ _ (Ne.symm R'.tblFar.2) x, y⟩
      · intro i o hi e
        obtain ⟨b, ob, x, y, z⟩ := R'.objs i o hi e
        exact ⟨b, ob, x, kp _ _ (nm (List.mem_of_getElem? x)) y, z.mono (Wm.Le.refl m) (fun _ _ _ dx f _ h1 h2 => h2.extBut (fun b o n e => kp b o n e) (nm (List.mem_of_getElem? h1)))⟩
  obtain ⟨o, a, ob, rfl, S, e1⟩ := lookV_sound g R hy e
  rcases as_seq (f := fun xs => assignNames c ts xs k st) e1 with ⟨xs, rfl, e1⟩ | ⟨xs, rfl, e1⟩
  · obtain ⟨items, hl, r⟩ := S.tup
    have ln := (names_loc hE ts ids xs k st hps hloc e1).2.1
    rw [show ids.length = items.size from ln.trans r.length]
    exact wpAny_unpackItems_tuple O.hn hl fun h' hx => fin xs items h' r e1 hx
  · obtain ⟨items, hl, _, r⟩ := S.list
    have ln := (names_loc hE ts ids xs k st hps hloc e1).2.1
    rw [show ids.length = items.size from ln.trans r.length]
    exact kun_itemsOf O.hn hl fun h' hx => fin xs items h' r e1 hx
end Sx
end
section
open PySem PySem.W PySem.Calls PyProof.Rows
namespace Sx
set_option maxRecDepth 100000
variable {G : Gl} {B : Base} {m : Wm} {st : St} {s : Shared} {A : Around} {env : Env} {E : Value → Shared → Prop} {n : Nat} {h : Ih} {c : Cx}
noncomputable def SEvU (G : Gl) (h : Ih) (n : Nat) : Prop := ∀ (B : Base) (m : Wm) (c : Cx) (e : PySem.Expr) (k : V → St → Bool) (st : St) (s : Shared) (A : Around) (env : Env) (u : Value → Sem Unit) (P : St → Prop) (Q : Shared → Prop) (E : Value → Shared → Prop),
  (∃ elt gs sc p, e = .ListComp elt gs sc p) → h.ev c e k st = true → EnvOk m c env → B.L = env.locals → Rel G B m st s → Okay n A →
  (∀ (B2 : Base) m' a st' b s' (Q2 : Shared → Prop), B2.L = B.L → m.Le m' → Rel G B2 m' st' s' → VRel m' a b → k a st' = true → (∀ m'' st'' s'', m'.Le m'' → Rel G B2 m'' st'' s'' → P st'' → Q2 s'') → wpAny (model G.prog G.w) A (u b) (fun _ => Q2) E s') →
  (∀ m'' st'' s'', m.Le m'' → Rel G B m'' st'' s'' → P st'' → Q s'') → wpAny (model G.prog G.w) A (evalThenUse e env u) (fun _ => Q) E s
theorem fold_set {e : PySem.Expr} (hs : notSet e = true) (x : Value) : foldedSetIterable e env x = pure x := by
  (first | exact (ff e).elim | exact (nn e).elim | cases e) <;> first | rfl | (first | exact (ff hs).elim | exact (nn hs).elim | cases hs)
theorem go_sound {M : Model} {tg : PySem.Expr} {it a : Addr} {kd : Sk} {i : Nat} {v : Value} {Q : Unit → Shared → Prop} (I : IterAt s.heap it kd a i) (q : Q () s) : wpAny M A (letOwnedTupleGo tg (.ref it) v) Q E s := by
  have I' : ∃ o nm vs, s.heap.get? it = some o ∧ o.cls = .type nm ∧ o.data = .fields vs ∧ (["enumerate", "zip", "dict_itemiterator", "dict_reverseitemiterator", "odict_iterator", "itertools.zip_longest", "itertools.pairwise"] : List String).contains nm = false := by
    cases kd with
    | list => obtain ⟨o, e, c, d⟩ := I; exact ⟨o, _, _, e, c, d, by decide +kernel⟩
    | tup => obtain ⟨o, e, c, d⟩ := I; exact ⟨o, _, _, e, c, d, by decide +kernel⟩
    | rng lo hi => obtain ⟨l, e, _⟩ := I; exact ⟨_, _, _, e, rfl, rfl, by decide +kernel⟩
  obtain ⟨o, nm, vs, e, hc, hd, hn⟩ := I'
  have key : ∀ a : Addr, wpAny M A (load it >>= fun o => match o.cls, o.data with
      | .type n, .fields vs =>
        if ["enumerate", "zip", "dict_itemiterator", "dict_reverseitemiterator", "odict_iterator", "itertools.zip_longest", "itertools.pairwise"].contains n && vs[0]? == some (rawInt a) then do
          rule "for.unpacks-the-owned-tuple"
          updateField it 0 .none
        else pure ()
      | _, _ => pure ()) Q E s := fun a => by
    refine wpAny_bind (wpAny_load e ?_)
    rw [hc, hd]
    dsimp only
    rw [hn, Bool.false_and, if_neg (by decide)]
    exact wpAny_pure q
  unfold letOwnedTupleGo
  split
  · (first | exact (ff v).elim | exact (nn v).elim | cases v) <;> first | exact key _ | exact wpAny_pure q
  · (first | exact (ff v).elim | exact (nn v).elim | cases v) <;> first | exact key _ | exact wpAny_pure q
  · exact wpAny_pure q
theorem Rel.iterKept {B1 : Base} {m m' : Wm} {st' : St} {s' : Shared} {it a : Addr} {kd : Sk} {i : Nat} {hh : Heap} (F : Far G B m it) (I : IterAt hh it kd a i) (R' : Rel G ⟨hh, m.ρ, B.L⟩ m' st' s') : IterAt s'.heap it kd a i ∧ Far G B m' it := by
  obtain ⟨o, e⟩ := I.here
  have kp : ∀ o, hh.get? it = some o → s'.heap.get? it = some o := fun o e => R'.keep it o e F.ρ F.L F.tbl
  refine ⟨I.at kp, ⟨fun q => ?_, F.L, F.tbl, F.h⟩⟩
  rcases R'.newer it q with z | z
  · exact F.ρ z
  · rw [show hh.get? it = some o from e] at z; (first | exact (ff z).elim | exact (nn z).elim | cases z)
/-- what a turn needs, and what it leaves -/
theorem loop_sound (g : GOk G) {tg : PySem.Expr} {body : List Stmt} {kd : Sk} {src : V} {it a : Addr} (IE : SEv G h n) (IX : SXs G h n) {k : Fl → St → Bool} {N i : Nat} {R : Result → Shared → Prop} {Q : Flow → Shared → Prop}
    (e : loop G.P (fun v k s => Sx.assign G.P h c tg v (fun _ s => h.xs c body k s) s) kd src N i k st = true) (hsrc : VRel m src (.ref a)) (hE : EnvOk m c env) (hB : B.L = env.locals) (R0 : Rel G B m st s) (O : Okay n A) (F : Far G B m it) (I : IterAt s.heap it kd a i) (C : Cont G B m FRel k Q)
    (hR : ∀ f s', Q f s' → R (.ok f) s') : codeAny (model G.prog G.w) A (.forLoop tg (.ref it) body [] env) R s := by
  refine codeAny_forLoop_any (fun N s => ∃ m' st' i', loop G.P (fun v k s => Sx.assign G.P h c tg v (fun _ s => h.xs c body k s) s) kd src N i' k st' = true ∧ m.Le m' ∧ Rel G B m' st' s ∧ Far G B m' it ∧ IterAt s.heap it kd a i') ?_ N ⟨m, st, i, e, Wm.Le.refl m, R0, F, I⟩
  rintro N s ⟨m', st', i', e, l, R1, F1, I1⟩
  cases N with
  | zero => (first | exact (ff e).elim | exact (nn e).elim | cases e)
  | succ N =>
    change nextItem G.P kd src i' (fun r s => match r with
      | none => k .next s
      | some v => Sx.assign G.P h c tg v (fun _ s => h.xs c body (fun r s => match r with
        | .next => loop G.P (fun v k s => Sx.assign G.P h c tg v (fun _ s => h.xs c body k s) s) kd src N (Nat.add i' 1) k s
        | .ret w => k (.ret w) s) s) s) st' = true at e
    refine next_sound g e (hsrc.mono l) R1 I1 O.hn (fun x v h' tk e1 hx hi hs => ?_) (fun h' e1 hx => ?_)
    · have R2 : Rel G B m' st' { s with heap := h', toks := tk } := R1.but F1 (fun b o nb q => hs.extBut b o nb q)
      refine go_sound hi ?_
      refine assign_sound (B := ⟨h', m'.ρ, B.L⟩) g IE e1 hx (hE.mono l) hB R2.rebase O fun m2 st2 s2 l2 R3 e2 => ?_
      refine IX ⟨h', m'.ρ, B.L⟩ m2 c body _ st2 s2 A env _ _ e2 ((hE.mono l).mono l2) hB R3 O fun m3 f st3 fl s3 l3 R4 r3 e3 => ?_
      have R5 := R2.back R4
      obtain ⟨I2, F2⟩ := Rel.iterKept (B1 := B) F1 hi R4
      cases f with
      | next =>
        have r3 : fl = .next := r3
        subst r3
        exact ⟨N, Nat.lt_succ_self N, m3, st3, i' + 1, e3, (l.trans l2).trans l3, R5, F2, I2⟩
      | ret w =>
        obtain ⟨v', rfl, r4⟩ := r3
        exact hR _ _ (C m3 (.ret w) st3 _ s3 ((l.trans l2).trans l3) R5 ⟨v', rfl, r4⟩ e3)
    · have R2 : Rel G B m' st' { s with heap := h', toks := s.toks } := R1.but F1 (fun b o nb q => hx b o nb q)
      exact wpAny_execs_nil (hR _ _ (C m' .next st' .next _ l R2 rfl e1))
end Sx
end
section
open PySem PySem.W PySem.Calls PyProof.Rows
namespace Sx
set_option maxRecDepth 100000
variable {G : Gl} {B : Base} {m : Wm} {st : St} {s : Shared} {A : Around} {env : Env} {E : Value → Shared → Prop} {n : Nat} {h : Ih} {c : Cx}
noncomputable def NotCompP : PySem.Expr → Prop
  | .ListComp .. | .SetComp .. | .DictComp .. => False
  | _ => True
theorem swaps_none {e : PySem.Expr} {t : Option PySem.Expr} {l : Nat} (hs : NotCompP e) : swapsWith e t l env = pure false := by
  (first | exact (ff e).elim | exact (nn e).elim | cases e) <;> first | rfl | exact hs.elim
theorem while_sound (g : GOk G) {t : PySem.Expr} {body : List Stmt} (IE : SEv G h n) (IX : SXs G h n) {k : Fl → St → Bool} {N : Nat} {R : Result → Shared → Prop} {Q : Flow → Shared → Prop}
    (e : whileE (isTrue G.P h 20 c t) (h.xs c body) N k st = true) (hE : EnvOk m c env) (hB : B.L = env.locals) (R0 : Rel G B m st s) (O : Okay n A) (C : Cont G B m FRel k Q)
    (hR : ∀ f s', Q f s' → R (.ok f) s') : codeAny (model G.prog G.w) A (.whileLoop t body [] env) R s := by
  refine codeAny_whileLoop (fun N s => ∃ m' st', whileE (isTrue G.P h 20 c t) (h.xs c body) N k st' = true ∧ m.Le m' ∧ Rel G B m' st' s) ?_ N ⟨m, st, e, Wm.Le.refl m, R0⟩
  rintro N s ⟨m', st', e, l, R1⟩
  cases N with
  | zero => (first | exact (ff e).elim | exact (nn e).elim | cases e)
  | succ N =>
    change isTrue G.P h 20 c t (fun b s => ifB b (h.xs c body (fun r s => match r with
      | .next => whileE (isTrue G.P h 20 c t) (h.xs c body) N k s
      | .ret w => k (.ret w) s) s) (k .next s)) st' = true at e
    refine isTrue_sound (cmp_sound g) IE 20 t m' st' s _ _ e (hE.mono l) hB R1 O fun m2 x st2 y s2 l2 R2 r2 e2 => ?_
    (first | exact (ff r2).elim | exact (nn r2).elim | cases r2)
    cases x with
    | true =>
      rw [if_pos rfl]
      refine IX B m2 c body _ st2 s2 A env _ _ e2 ((hE.mono l).mono l2) hB R2 O fun m3 f st3 fl s3 l3 R3 r3 e3 => ?_
      cases f with
      | next =>
        have r3 : fl = .next := r3
        subst r3
        exact ⟨N, Nat.lt_succ_self N, m3, st3, e3, (l.trans l2).trans l3, R3⟩
      | ret w =>
        obtain ⟨v', rfl, r4⟩ := r3
        exact hR _ _ (C m3 (.ret w) st3 _ s3 ((l.trans l2).trans l3) R3 ⟨v', rfl, r4⟩ e3)
    | false =>
      rw [if_neg (by decide)]
      exact wpAny_execs_nil (hR _ _ (C m2 .next st2 .next _ (l.trans l2) R2 rfl e2))
theorem each_of (tg : PySem.Expr) (env : Env) : (assignEach [tg] env).map (·.2) = [PySem.assign tg env] ∨ ∃ t p, tg = .Starred t p := by
  cases tg <;> first | exact .inl rfl | exact .inr ⟨_, _, rfl⟩
theorem comp_or {e : PySem.Expr} (nsd : notSD e = true) : (∃ elt gs sc p, e = .ListComp elt gs sc p) ∨ NotCompP e := by
  cases e <;> first | exact .inr trivial | exact .inl ⟨_, _, _, _, rfl⟩ | exact (ff nsd).elim
theorem name_or {l : Nat} (tg elt : PySem.Expr) (gs : List Comprehension) (sc : Scope) (p : Pos) : (∃ x px, tg = .Name x px) ∨ swapsWithSole [tg] (.ListComp elt gs sc p) l env = pure false := by
  cases tg <;> first | exact .inl ⟨_, _, rfl⟩ | exact .inr rfl
noncomputable def swapB (env : Env) (x : Str) (px : Pos) (sc : Scope) (p : Pos) : Bool := env.blockKind == .function && env.kindOf x == some .local && px.line == p.line && !(sc.names.any fun (n, k) => n == x && (k == .local || k == .cell))
theorem asg_sound (g : GOk G) (IE : SEv G h n) (IU : SEvU G h n) {tg e : PySem.Expr} {pos : Pos} {k : Fl → St → Bool} {Q : Flow → Shared → Prop} (ok : storesOk tg e = true) (nsd : notSD e = true)
    (e1 : h.ev c e (fun v s => Sx.assign G.P h c tg v (fun _ s => k .next s) s) st = true) (hE : EnvOk m c env) (hB : B.L = env.locals) (R : Rel G B m st s) (O : Okay n A) (C : Cont G B m FRel k Q) :
    wpAny (model G.prog G.w) A (exec (.Assign [tg] e pos) env) Q E s := by
  have plain : swapsWithSole [tg] e pos.line env = pure false → wpAny (model G.prog G.w) A (exec (.Assign [tg] e pos) env) Q E s := by
    intro hs
    rcases swapped_cases (env := env) tg e ok hE.kind with hw | ⟨ts, kk, p, vs, k', p', rfl, rfl, ids, hw, nd, hloc, hps⟩
    · refine wpAny_Assign_stores (IE B m c e _ st s A env _ E e1 hE hB R O fun m1 a st1 v s1 l1 R1 r1 e2 => ?_) hs hw
      have key : wpAny (model G.prog G.w) A (PySem.assign tg env v) (fun _ => Q .next) E s1 := assign_sound g IE e2 r1 (hE.mono l1) hB R1 O fun m2 st2 s2 l2 R2 e3 => C m2 .next st2 .next s2 (l1.trans l2) R2 rfl e3
      rcases each_of tg env with z | ⟨t, p, rfl⟩
      · rw [z]; exact key
      · exact (ff e2).elim
    · refine Assign_Tuple_swapped (names := ids) (IE B m c _ _ st s A env _ E e1 hE hB R O fun m1 a st1 v s1 l1 R1 r1 e2 => ?_) hs hw
      exact swapped_sound (Q := fun _ => Q .next) g nd hloc hps e2 r1 (hE.mono l1) hB R1 O fun st2 s2 R2 e3 => C m1 .next st2 .next s2 l1 R2 rfl e3
  rcases comp_or nsd with ⟨elt, gs, sc, p, rfl⟩ | hc
  · rcases name_or (l := pos.line) (env := env) tg elt gs sc p with ⟨x, px, rfl⟩ | hb
    · have hv : swapsWithSole [.Name x px] (.ListComp elt gs sc p) pos.line env = pure (swapB env x px sc p) := rfl
      cases z : swapB env x px sc p with
      | false => rw [z] at hv; exact plain hv
      | true =>
        rw [z] at hv
        rw [exec_Assign]
        refine wpAny_bind (wpAny_standAt ?_)
        rw [hv]
        refine wpAny_bind (wpAny_pure ?_)
        rw [if_pos rfl]
        refine wpAny_bind ?_
        refine IU B m c (.ListComp elt gs sc p) _ st s A env _ (fun st' => k .next st' = true) _ E ⟨elt, gs, sc, p, rfl⟩ e1 hE hB R O (fun B2 m1 a st1 b s1 Q2 hB2 l1 R1 r1 e2 q => ?_) (fun m2 st2 s2 l2 R2 e3 => wpAny_pure (C m2 .next st2 .next s2 l2 R2 rfl e3))
        show wpAny (model G.prog G.w) A (assignAll b [PySem.assign (.Name x px) env]) _ _ _
        exact assign_sound (B := B2) (Q := fun _ => Q2) g IE e2 r1 (hE.mono l1) (hB2.trans hB) R1 O fun m2 st2 s2 l2 R2 e3 => q m2 st2 s2 l2 R2 e3
    · exact plain hb
  · exact plain (swaps_none hc)
theorem ex_if {P : Pg} {b : Bool} {v : Sv} {k : Fl → St → Bool} (e : exOf P h c (ifB b v .bad) k st = true) : b = true ∧ exOf P h c v k st = true := by
  cases b with
  | true => exact ⟨rfl, e⟩
  | false => exact (ff e).elim
theorem comp_not {e : PySem.Expr} (h1 : notComp e = true) : NotCompP e := by
  cases e <;> first | trivial | exact (ff h1).elim
theorem xs_step (g : GOk G) (IE : SEv G h n) (IX : SXs G h n) (IU : SEvU G h n) : SXs G (ihBody G.P h) (n + 1) := by
  intro B m c ss k st s A env Q E e hE hB R O C
  have O' := O.pred
  cases ss with
  | nil => exact wpAny_execs_nil (C.now (a := .next) R e rfl)
  | cons sm r =>
    change exBody G.P h c sm (fun f s => match f with
      | .next => h.xs c r k s
      | .ret v => k (.ret v) s) st = true at e
    refine wpAny_execs_cons ?_
    generalize hk : (fun (f : Fl) (s : St) => match f with
      | .next => h.xs c r k s
      | .ret v => k (.ret v) s) = k2 at e
    have C2 : Cont G B m FRel k2 (fun f s' => match f with
        | Flow.next => wpAny (model G.prog G.w) A (execs r env) Q E s'
        | f => Q f s') := by
      intro m1 f st1 fl s1 l1 R1 r1 e1
      rw [← hk] at e1
      cases f with
      | next =>
        have r1 : fl = .next := r1
        subst r1
        exact IX B m1 c r k st1 s1 A env Q E e1 (hE.mono l1) hB R1 O' (C.mono l1)
      | ret w =>
        obtain ⟨v, rfl, r2⟩ := r1
        exact C m1 (.ret w) st1 _ s1 l1 R1 ⟨v, rfl, r2⟩ e1
    clear hk
    generalize (fun (f : Flow) (s' : Shared) => match f with
        | Flow.next => wpAny (model G.prog G.w) A (execs r env) Q E s'
        | f => Q f s') = Q2 at C2 ⊢
    change exOf G.P h c (viewS sm) k2 st = true at e
    cases sm with
    | Expr v pos =>
      obtain ⟨h1, e⟩ := ex_if e
      refine wpAny_Expr_any (IE B m c v _ st s A env _ E e hE hB R O' fun m1 a st1 w s1 l1 R1 r1 e1 => C2 m1 .next st1 .next s1 l1 R1 rfl e1) ?_ (swaps_none (comp_not h1))
      unfold interactive; rw [hE.kind]; rfl
    | Pass pos => exact wpAny_Pass (C2.now (a := .next) R e rfl)
    | Return v pos =>
      cases v with
      | none => exact wpAny_Return_none (C2.now (a := .ret .none) R e ⟨.none, rfl, rfl⟩)
      | some v => exact wpAny_Return_some (IE B m c v _ st s A env _ E e hE hB R O' fun m1 a st1 w s1 l1 R1 r1 e1 => C2 m1 (.ret a) st1 _ s1 l1 R1 ⟨w, rfl, r1⟩ e1)
    | Assign tgs v pos =>
      rcases tgs with _ | ⟨tg, _ | ⟨t2, ts⟩⟩
      · exact (ff e).elim
      · obtain ⟨h1, e⟩ := ex_if e
        obtain ⟨h2, e⟩ := ex_if e
        exact asg_sound g IE IU h1 h2 e hE hB R O' C2
      · exact (ff e).elim
    | If t a b pos =>
      refine wpAny_If (isTrue_sound (cmp_sound g) IE 20 t m st s _ _ e hE hB R O' fun m1 x st1 y s1 l1 R1 r1 e1 => ?_)
      subst r1
      cases x with
      | true => rw [if_pos rfl]; exact IX B m1 c a k2 st1 s1 A env Q2 E e1 (hE.mono l1) hB R1 O' (C2.mono l1)
      | false => rw [if_neg (by decide)]; exact IX B m1 c b k2 st1 s1 A env Q2 E e1 (hE.mono l1) hB R1 O' (C2.mono l1)
    | While t body orelse pos =>
      cases orelse with
      | cons _ _ => exact (ff e).elim
      | nil => exact wpAny_While (while_sound g IE IX e hE hB R O' C2 fun f s' q => q)
    | For tg it body orelse pos =>
      cases orelse with
      | cons _ _ => exact (ff e).elim
      | nil =>
        obtain ⟨h1, e⟩ := ex_if e
        refine wpAny_For (IE B m c it _ st s A env _ E e hE hB R O' fun m1 a st1 w s1 l1 R1 r1 e1 => ?_) (fold_set h1)
        refine iter_sound g (k := fun kd s => loop G.P (fun v k s => Sx.assign G.P h c tg v (fun _ s => h.xs c body k s) s) kd a 100 0 k2 s) e1 r1 R1 fun kd x it' h' e2 hw I F kp hnew => ?_
        have R2 : Rel G B m1 st1 { s1 with heap := h', toks := s1.toks } := R1.ext kp
        exact loop_sound g IE IX e2 (hw ▸ r1) (hE.mono l1) hB R2 O' F I (C2.mono l1) fun f s' q => q
    | _ => exact (ff e).elim
end Sx
end
section
open PySem PySem.W PySem.Calls PyProof.Rows
namespace Sx
set_option maxRecDepth 100000
variable {G : Gl} {B : Base} {m : Wm} {st : St} {s : Shared} {A : Around} {env : Env} {E : Value → Shared → Prop} {n : Nat} {h : Ih} {c : Cx}
/-! the scope of a comprehension -/
noncomputable def closOf (env : Env) : List (Str × NameKind) → List (Str × Addr) → List (Str × Addr)
  | [], acc => acc
  | p :: r, acc => if p.2 = .free then closOf env r ((p.1, (env.cells.lookup p.1).getD 0) :: acc) else closOf env r acc
noncomputable def closF (env : Env) (x : Str × NameKind) (r : List (Str × Addr)) : Sem (ForInStep (List (Str × Addr))) := match x with
  | (name, kind) => if (kind == NameKind.free) = true then (cellOf env name >>= fun a => pure (ForInStep.yield ((name, a) :: r))) else pure (ForInStep.yield r)
theorem clos_eq : ∀ (names : List (Str × NameKind)) (acc : List (Str × Addr)), (∀ p ∈ names, p.2 = .free → (env.cells.lookup p.1).isSome = true) → forIn names acc (closF env) = (pure (closOf env names acc) : Sem (List (Str × Addr)))
  | [], acc, _ => by rw [List.forIn_nil]; rfl
  | (x, kd) :: r, acc, hh => by
    rw [List.forIn_cons]
    by_cases q : kd = .free
    · subst q
      have hs := hh (x, .free) (.head _) rfl
      obtain ⟨a, ha⟩ := Option.isSome_iff_exists.mp hs
      have ha : env.cells.lookup x = some a := ha
      have hc : cellOf env x = pure a := by unfold cellOf; rw [ha]
      have ih := clos_eq r ((x, a) :: acc) (fun p hp => hh p (.tail _ hp))
      have e0 : closF env (x, .free) acc = pure (ForInStep.yield ((x, a) :: acc)) := by
        show (if (NameKind.free == NameKind.free) = true then (cellOf env x >>= fun a => pure (ForInStep.yield ((x, a) :: acc))) else pure (ForInStep.yield acc)) = _
        rw [if_pos (by decide), hc]; rfl
      rw [e0]
      show forIn r ((x, a) :: acc) (closF env) = _
      rw [ih]
      show _ = (pure (if NameKind.free = .free then closOf env r ((x, (env.cells.lookup x).getD 0) :: acc) else closOf env r acc) : Sem _)
      rw [if_pos rfl, ha]; rfl
    · have ih := clos_eq r acc (fun p hp => hh p (.tail _ hp))
      have e1 : (kd == NameKind.free) = false := beq_eq_false_iff_ne.mpr q
      have e0 : closF env (x, kd) acc = pure (ForInStep.yield acc) := by
        show (if (kd == NameKind.free) = true then (cellOf env x >>= fun a => pure (ForInStep.yield ((x, a) :: acc))) else pure (ForInStep.yield acc)) = _
        rw [e1, if_neg (by decide)]
      rw [e0]
      show forIn r acc (closF env) = _
      rw [ih]
      show _ = (pure (if kd = .free then closOf env r ((x, (env.cells.lookup x).getD 0) :: acc) else closOf env r acc) : Sem _)
      rw [if_neg q]
theorem closure_eq {sc : Scope} (hh : ∀ p ∈ sc.names, p.2 = .free → (env.cells.lookup p.1).isSome = true) : closureFor sc env = pure (closOf env sc.names []) := by
  have := clos_eq (env := env) sc.names [] hh
  have e : closureFor sc env = (forIn sc.names [] (closF env) >>= fun r => pure r) := by
    unfold closureFor closF
    rfl
  rw [e, this]; rfl
theorem closOf_lookup {x : Str} {a : Addr} (ha : env.cells.lookup x = some a) : ∀ (names : List (Str × NameKind)) (acc : List (Str × Addr)), ((∃ p ∈ names, p.1 = x ∧ p.2 = .free) ∨ acc.lookup x = some a) → (∀ y, acc.lookup x = some y → y = a) → (closOf env names acc).lookup x = some a
  | [], acc, h1, _ => by
    rcases h1 with ⟨p, hp, _⟩ | h1
    · (first | exact (ff hp).elim | exact (nn hp).elim | cases hp)
    · exact h1
  | (y, kd) :: r, acc, h1, h2 => by
    show (if kd = .free then closOf env r ((y, (env.cells.lookup y).getD 0) :: acc) else closOf env r acc).lookup x = some a
    by_cases q : kd = .free
    · rw [if_pos q]
      by_cases z : x = y
      · subst z
        have : ((x, (env.cells.lookup x).getD 0) :: acc).lookup x = some a := by rw [ha]; simp [List.lookup]
        exact closOf_lookup ha r _ (.inr this) (fun w hw => by rw [this] at hw; (first | exact (ff hw).elim | exact (nn hw).elim | cases hw); rfl)
      · have e : ((y, (env.cells.lookup y).getD 0) :: acc).lookup x = acc.lookup x := by simp [List.lookup, beq_eq_false_iff_ne.mpr z]
        refine closOf_lookup ha r _ ?_ (by rw [e]; exact h2)
        rw [e]
        rcases h1 with ⟨p, hp, p1, p2⟩ | h1
        · cases hp with
          | head => exact absurd p1.symm z
          | tail _ hp => exact .inl ⟨p, hp, p1, p2⟩
        · exact .inr h1
    · rw [if_neg q]
      refine closOf_lookup ha r acc ?_ h2
      rcases h1 with ⟨p, hp, p1, p2⟩ | h1
      · cases hp with
        | head => exact absurd p2 q
        | tail _ hp => exact .inl ⟨p, hp, p1, p2⟩
      · exact .inr h1
theorem compCells_ok (hE : EnvOk m c env) : ∀ (names : List (Str × NameKind)) (l : List (Nat × Nat)), compCells c names = some l →
    (∀ p ∈ names, p.2 ≠ .cell) ∧ (∀ p ∈ names, p.2 = .free → ∃ (a : Addr) (j : Nat), env.cells.lookup p.1 = some a ∧ m.ρ[j]? = some a ∧ okS p.1 = true) ∧
    (∀ (x : Str) (j : Nat), okS x = true → lk (sid x) l = some j → ∃ (a : Addr), m.ρ[j]? = some a ∧ env.cells.lookup x = some a ∧ ∃ p ∈ names, p.1 = x ∧ p.2 = .free)
  | [], l, e => by (first | exact (ff e).elim | exact (nn e).elim | cases e); exact ⟨fun _ h => (nomatch h), fun _ h => (nomatch h), fun _ _ _ h => by (first | exact (ff h).elim | exact (nn h).elim | cases h)⟩
  | (y, kd) :: r, l, e => by
    unfold compCells at e
    split at e
    · (first | exact (ff e).elim | exact (nn e).elim | cases e)
    · rename_i l' hl
      obtain ⟨i1, i2, i3⟩ := compCells_ok hE r l' hl
      have up : ∀ (x : Str) (j : Nat), okS x = true → lk (sid x) l' = some j → ∃ a, m.ρ[j]? = some a ∧ env.cells.lookup x = some a ∧ ∃ p ∈ (y, kd) :: r, p.1 = x ∧ p.2 = .free := fun x j ox hx => by
        obtain ⟨a, b, d, p, hp, q⟩ := i3 x j ox hx; exact ⟨a, b, d, p, .tail _ hp, q⟩
      split at e
      · rename_i hk
        have hk : kd = .free := hk
        split at e
        · rename_i j hj hy
          (first | exact (ff e).elim | exact (nn e).elim | cases e)
          obtain ⟨a, ra, ea⟩ := hE.cells y j hy hj
          refine ⟨fun p hp => ?_, fun p hp q => ?_, fun x j' ox hx => ?_⟩
          · cases hp with
            | head => rw [hk]; exact fun z => nomatch z
            | tail _ hp => exact i1 p hp
          · cases hp with
            | head => exact ⟨a, j, ea, ra, hy⟩
            | tail _ hp => exact i2 p hp q
          · rw [lk_cons] at hx
            split at hx
            · rename_i ex
              (first | exact (ff hx).elim | exact (nn hx).elim | cases hx)
              have : x = y := sid_inj ox hy ex
              subst this
              exact ⟨a, ra, ea, (x, kd), .head _, rfl, hk⟩
            · exact up x j' ox hx
        · (first | exact (ff e).elim | exact (nn e).elim | cases e)
      · (first | exact (ff e).elim | exact (nn e).elim | cases e)
      · rename_i h1 h2
        (first | exact (ff e).elim | exact (nn e).elim | cases e)
        refine ⟨fun p hp => ?_, fun p hp q => ?_, up⟩
        · cases hp with
          | head => exact fun z => h2 z
          | tail _ hp => exact i1 p hp
        · cases hp with
          | head => exact absurd q h1
          | tail _ hp => exact i2 p hp q
theorem localsOk_of {all : List (Str × NameKind)} : ∀ {l : List (Str × NameKind)}, localsOk all l = true → ∀ x ∈ l, x.2 = .local → all.lookup x.1 = some .local
  | [], _, x, hx, _ => by (first | exact (ff hx).elim | exact (nn hx).elim | cases hx)
  | (y, kd) :: r, e, x, hx, hl => by
    unfold localsOk at e
    split at e
    · split at e
      · rename_i hk
        cases hx with
        | head => exact (kindOf_lookup hk).2
        | tail _ hx => exact localsOk_of e x hx hl
      · (first | exact (ff e).elim | exact (nn e).elim | cases e)
    · (first | exact (ff e).elim | exact (nn e).elim | cases e)
    · rename_i h1 h2
      cases hx with
      | head => exact absurd hl h1
      | tail _ hx => exact localsOk_of e x hx hl
theorem relabel_lookup {x : Str} {k : NameKind} : ∀ {names : List (Str × NameKind)}, names.lookup x = some k →
    (names.map fun (n, k) => if (k == NameKind.free && env.scope.kind == .function && env.kindOf n == some .cell) then (n, NameKind.cell) else (n, k)).lookup x = some (if (k == NameKind.free && env.scope.kind == .function && env.kindOf x == some .cell) then NameKind.cell else k)
  | [], e => by simp at e
  | (n, k') :: r, e => by
    have ih := @relabel_lookup x k r
    show List.lookup x ((if (k' == NameKind.free && env.scope.kind == .function && env.kindOf n == some .cell) = true then (n, NameKind.cell) else (n, k')) :: _) = _
    cases hx : x == n with
    | true =>
      simp only [List.lookup_cons, hx] at e
      (first | exact (ff e).elim | exact (nn e).elim | cases e)
      have : x = n := beq_iff_eq.mp hx
      subst this
      by_cases hc : (k == NameKind.free && env.scope.kind == .function && env.kindOf x == some .cell) = true
      · rw [if_pos hc, if_pos hc]; simp only [List.lookup_cons, hx]
      · rw [if_neg hc, if_neg hc]; simp only [List.lookup_cons, hx]
    | false =>
      simp only [List.lookup_cons, hx] at e
      by_cases hc : (k' == NameKind.free && env.scope.kind == .function && env.kindOf n == some .cell) = true
      · rw [if_pos hc]; simp only [List.lookup_cons, hx]; exact ih e
      · rw [if_neg hc]; simp only [List.lookup_cons, hx]; exact ih e
theorem comp_env (hE : EnvOk m c env) {sc : Scope} {l : List (Nat × Nat)} {L : Addr} (hk : sc.kind = .function) (hc : compCells c sc.names = some l) : EnvOk m ⟨sc, l, 0⟩ (compEnvC sc (closOf env sc.names []) L env) := by
  obtain ⟨c1, c2, c3⟩ := compCells_ok hE sc.names l hc
  have lk' : ∀ {x k}, kindOf x sc.names = some k → (compEnvC sc (closOf env sc.names []) L env).kindOf x = some (if (k == NameKind.free && env.scope.kind == .function && env.kindOf x == some .cell) then NameKind.cell else k) := fun q => relabel_lookup (kindOf_lookup q).2
  refine ⟨hk, fun x q => ?_, fun x q => ?_, fun x q => ?_, fun x j ox hj => ?_, hE.globals, hE.builtins, .inl rfl⟩
  · rw [lk' q]; rfl
  · rcases q with q | q
    · rw [lk' q]; exact .inl rfl
    · rw [lk' q]
      split
      · exact .inl rfl
      · exact .inr rfl
  · rw [lk' q]; rfl
  · obtain ⟨a, b, d, p, hp, p1, p2⟩ := c3 x j ox hj
    exact ⟨a, b, closOf_lookup d sc.names [] (.inl ⟨p, hp, p1, p2⟩) (fun y hy => by (first | exact (ff hy).elim | exact (nn hy).elim | cases hy))⟩
/-! the turns of a comprehension -/
theorem compLoop_rule {prog : Program} {w : World} {R : Result → Shared → Prop} {elt target iter : PySem.Expr} {ifs : List PySem.Expr} {scope : Scope} {pos : Pos} {it acc : Value} {env : Env} (I : Nat → Shared → Prop)
    (turn : ∀ n s, I n s → wpAny (model prog w) A (pyNext it) (fun r s₁ => match r with
      | none => R (.ok .next) s₁
      | some v => wpAny (model prog w) A (letOwnedTupleGo target it v) (fun _ s₁' => wpAny (model prog w) A (PySem.assign target env v) (fun _ s₂ =>
          wpAny (model prog w) A (forIn ifs true fun c r => if r = true then do let ok ← PySem.isTrue c env (eval c env); pure (ForInStep.yield ok) else pure (ForInStep.yield r)) (fun ok s₃ =>
            if ok = true then wpAny (model prog w) A (eval elt env) (fun x s₄ =>
              wpAny (model prog w) A (call (.builtin "list.append") [acc, x]) (fun _ s₅ => ∃ m, m < n ∧ I m s₅) (notedBy (model prog w) A env fun e s' => R (.error e) s') s₄) (notedBy (model prog w) A env fun e s' => R (.error e) s') s₃
            else ∃ m, m < n ∧ I m s₃) (notedBy (model prog w) A env fun e s' => R (.error e) s') s₂) (notedBy (model prog w) A env fun e s' => R (.error e) s') s₁') (notedBy (model prog w) A env fun e s' => R (.error e) s') s₁) (notedBy (model prog w) A env fun e s' => R (.error e) s') s)
    (n : Nat) (h : I n s) : codeAny (model prog w) A (.compLoop (.ListComp elt [⟨target, iter, ifs, 0⟩] scope pos) 0 it acc env) R s := by
  refine codeAny_loop rfl I (fun n s hI => ?_) n h
  show wpAny _ A ((compTurn (.ListComp elt [⟨target, iter, ifs, 0⟩] scope pos) 0 it acc env).onRaise (fun x => do noteFrame x env; theTreesLotGoes x)) _ _ s
  refine wpAny_noted ?_
  rw [compTurn_list]
  refine wpAny_bind (wpAny_standAt (wpAny_bind (wpAny_mono (turn n s hI) (fun r s₁ h₁ => ?_) fun _ _ h' => h')))
  cases r with
  | none => exact wpAny_pure h₁
  | some v =>
    refine wpAny_bind (wpAny_mono h₁ (fun _ s₁' h₁' => ?_) fun _ _ h' => h')
    refine wpAny_bind (wpAny_mono h₁' (fun _ s₂ h₂ => wpAny_bind (wpAny_mono h₂ (fun ok s₃ h₃ => ?_) fun _ _ h' => h')) fun _ _ h' => h')
    cases ok with
    | false => exact wpAny_pure ⟨rfl, h₃⟩
    | true =>
      exact wpAny_bind (wpAny_bind (wpAny_mono h₃ (fun x s₄ h₄ => wpAny_bind (wpAny_mono h₄ (fun _ s₅ h₅ => wpAny_pure (wpAny_pure ⟨rfl, h₅⟩)) fun _ _ h' => h')) fun _ _ h' => h'))
theorem tests_done {M : Model} : ∀ (ifs : List PySem.Expr) {Q : Bool → Shared → Prop}, Q false s → wpAny M A (forIn ifs false fun c r => if r = true then do let ok ← PySem.isTrue c env (eval c env); pure (ForInStep.yield ok) else pure (ForInStep.yield r)) Q E s
  | [], Q, q => wpAny_pure q
  | x :: r, Q, q => by
    rw [List.forIn_cons]
    refine wpAny_bind ?_
    show wpAny M A (if false = true then _ else pure (ForInStep.yield false)) _ E s
    rw [if_neg (by decide)]
    exact wpAny_pure (tests_done r q)
theorem tests_sound (g : GOk G) (IE : SEv G h n) : ∀ (ifs : List PySem.Expr) (m : Wm) (st : St) (s : Shared) (k : Bool → St → Bool) (Q : Bool → Shared → Prop), boolE .And (isTrue G.P h 20 c) ifs k st = true → EnvOk m c env → B.L = env.locals → Rel G B m st s → Okay n A → Cont G B m BRel k Q →
    wpAny (model G.prog G.w) A (forIn ifs true fun c r => if r = true then do let ok ← PySem.isTrue c env (eval c env); pure (ForInStep.yield ok) else pure (ForInStep.yield r)) Q E s
  | [], m, st, s, k, Q, e, hE, hB, R, O, C => wpAny_pure (C.now (a := true) R e rfl)
  | x :: r, m, st, s, k, Q, e, hE, hB, R, O, C => by
    rw [boolE_and] at e
    rw [List.forIn_cons]
    refine wpAny_bind ?_
    show wpAny _ A (if true = true then _ else _) _ E s
    rw [if_pos rfl]
    refine wpAny_bind (isTrue_sound (cmp_sound g) IE 20 x m st s _ _ e hE hB R O fun m1 b st1 b' s1 l1 R1 r1 e1 => wpAny_pure ?_)
    (first | exact (ff r1).elim | exact (nn r1).elim | cases r1)
    cases b with
    | true => exact tests_sound g IE r m1 st1 s1 k Q e1 (hE.mono l1) hB R1 O (C.mono l1)
    | false => exact tests_done r (C m1 false st1 false s1 l1 R1 rfl e1)
end Sx
end
section
open PySem PySem.W PySem.Calls PyProof.Rows
namespace Sx
set_option maxRecDepth 100000
variable {G : Gl} {B : Base} {m : Wm} {st : St} {s : Shared} {A : Around} {env : Env} {E : Value → Shared → Prop} {n : Nat} {h : Ih} {c : Cx}
theorem compTurns_succ {P : Pg} {acc : Nat} {tg elt : PySem.Expr} {ifs : List PySem.Expr} {kd : Sk} {src : V} {N i : Nat} : compTurns P h c acc tg elt ifs kd src (N + 1) i = fun k s => nextItem P kd src i (fun r s => match r with
    | none => k () s
    | some v => Sx.assign P h c tg v (fun _ s => boolE .And (isTrue P h 20 c) ifs (fun ok s => ifB ok
        (h.ev c elt (fun x s => look acc (fun o s => match o with
          | .list xs => ifB (short xs) (store acc (.list (xs ++ [x])) (fun _ s => compTurns P h c acc tg elt ifs kd src N (Nat.add i 1) k s) s) false
          | _ => false) s) s)
        (compTurns P h c acc tg elt ifs kd src N (Nat.add i 1) k s)) s) s) s := rfl
theorem comp_loop (g : GOk G) {tg elt iter : PySem.Expr} {ifs : List PySem.Expr} {scope : Scope} {pos : Pos} {kd : Sk} {src : V} {it a aD : Addr} {acc : Nat} (IE : SEv G h n) {k : Unit → St → Bool} {N i : Nat} {R : Result → Shared → Prop}
    (e : compTurns G.P h c acc tg elt ifs kd src N i k st = true) (hsrc : VRel m src (.ref a)) (hacc : m.ρ[acc]? = some aD) (hE : EnvOk m c env) (hB : B.L = env.locals) (R0 : Rel G B m st s) (O : Okay n A) (F : Far G B m it) (I : IterAt s.heap it kd a i)
    (hR : ∀ m' st' s', m.Le m' → Rel G B m' st' s' → k () st' = true → R (.ok .next) s') : codeAny (model G.prog G.w) A (.compLoop (.ListComp elt [⟨tg, iter, ifs, 0⟩] scope pos) 0 (.ref it) (.ref aD) env) R s := by
  refine compLoop_rule (fun N s => ∃ m' st' i', compTurns G.P h c acc tg elt ifs kd src N i' k st' = true ∧ m.Le m' ∧ Rel G B m' st' s ∧ Far G B m' it ∧ IterAt s.heap it kd a i') ?_ N ⟨m, st, i, e, Wm.Le.refl m, R0, F, I⟩
  rintro N s ⟨m', st', i', e, l, R1, F1, I1⟩
  cases N with
  | zero => (first | exact (ff e).elim | exact (nn e).elim | cases e)
  | succ N =>
    rw [compTurns_succ] at e
    refine next_sound g e (hsrc.mono l) R1 I1 O.hn (fun x v h' tk e1 hx hi hs => ?_) (fun h' e1 hx => ?_)
    · have R2 : Rel G B m' st' { s with heap := h', toks := tk } := R1.but F1 (fun b o nb q => hs.extBut b o nb q)
      refine go_sound hi ?_
      refine assign_sound (B := ⟨h', m'.ρ, B.L⟩) g IE e1 hx (hE.mono l) hB R2.rebase O fun m2 st2 s2 l2 R3 e2 => ?_
      have E2 := (hE.mono l).mono l2
      refine tests_sound (B := ⟨h', m'.ρ, B.L⟩) g IE ifs m2 st2 s2 _ _ e2 E2 hB R3 O fun m3 b st3 b' s3 l3 R4 r3 e3 => ?_
      (first | exact (ff r3).elim | exact (nn r3).elim | cases r3)
      cases b with
      | false =>
        rw [if_neg (by decide)]
        obtain ⟨I2, F2⟩ := Rel.iterKept (B1 := B) F1 hi R4
        exact ⟨N, Nat.lt_succ_self N, m3, st3, i' + 1, e3, (l.trans l2).trans l3, R2.back R4, F2, I2⟩
      | true =>
        rw [if_pos rfl]
        refine IE ⟨h', m'.ρ, B.L⟩ m3 c elt _ st3 s3 A env _ _ e3 (E2.mono l3) hB R4 O fun m4 y st4 w s4 l4 R5 r4 e4 => ?_
        have hacc4 := (((l.trans l2).trans l3).trans l4).at hacc
        obtain ⟨o, ob, S, e5⟩ := look_sound R5 hacc4 e4
        cases o with
        | list xs =>
          obtain ⟨hsh, e6⟩ := ifB_ff (b := short xs) e5
          obtain ⟨items, _, hp, r⟩ := S.list
          have sz := short_le hsh r
          refine wpAny_list_append_plain hp (fun h'' hp' hs' => ?_) (by rw [sizeLine_eq]; omega)
          obtain ⟨n', hp'⟩ := hp'
          have ho : ORel G m4 st4.fd h'' (.list (xs ++ [y])) { cls := .type "list", data := .seq (items.push w) n' } := ⟨_, n', rfl, by
            rw [Array.toList_push]; exact r.append ⟨r4, trivial⟩⟩
          have R6 := R5.upd (t := s4.toks) hacc4 (S.idx acc rfl).2 rfl rfl (fun b o nb q => hs'.extBut b o nb q) hp' ho
          obtain ⟨I2, F2⟩ := Rel.iterKept (B1 := B) F1 hi R6
          exact ⟨N, Nat.lt_succ_self N, m4, _, i' + 1, e6, ((l.trans l2).trans l3).trans l4, R2.back R6, F2, I2⟩
        | _ => (first | exact (ff e5).elim | exact (nn e5).elim | cases e5)
    · have R2 : Rel G B m' st' { s with heap := h', toks := s.toks } := R1.but F1 (fun b o nb q => hx b o nb q)
      exact hR m' st' _ l R2 e1
theorem again_iter {prog : Program} {w : World} {it a : Addr} {kd : Sk} {i : Nat} {Q : Value → Shared → Prop} (I : IterAt s.heap it kd a i) (q : Q (.ref it) s) : wpAny (model prog w) A (pyIter (.ref it)) Q E s := by
  cases kd with
  | list => exact wpAny_pyIter_listiter I q
  | tup => exact wpAny_pyIter_tupleiter I q
  | rng lo hi => obtain ⟨left, e, _⟩ := I; exact wpAny_pyIter_rangeiter e q
/-- the whole of it; what becomes of the list is left open -/
theorem comp_core (g : GOk G) (IE : SEv G h n) {tg elt it0 : PySem.Expr} {ifs : List PySem.Expr} {sc : Scope} {p pos : Pos} {use : Option (Value → Sem Unit)} {k : V → St → Bool} {Q : Value → Shared → Prop}
    (e : compE G.P h c elt tg it0 ifs sc k st = true) (hs : notSet it0 = true) (hE : EnvOk m c env) (hB : B.L = env.locals) (R0 : Rel G B m st s) (O : Okay n A)
    (fin : ∀ m' a st' b s' L', m.Le m' → Rel G B m' st' s' → VRel m' a b → k a st' = true → Far G B m' L' → (∃ f, s'.heap.Ns L' f) → compPost (model G.prog G.w) A E use Q b L' (.ok .next) s') :
    wpAny (model G.prog G.w) A (comprehension (.ListComp elt [⟨tg, it0, ifs, 0⟩] sc p) sc env pos (newList []) false (eval it0 env) use) Q E s := by
  obtain ⟨ck, e'⟩ := ifB_ff (b := compOk sc) e
  obtain ⟨l, hl, e0⟩ := ifO_ff e'
  have hkind : sc.kind = .function := by
    unfold compOk at ck
    split at ck
    · assumption
    · (first | exact (ff ck).elim | exact (nn ck).elim | cases ck)
  have hloc : localsOk sc.names sc.names = true := by
    unfold compOk at ck
    split at ck
    · exact ck
    · (first | exact (ff ck).elim | exact (nn ck).elim | cases ck)
  obtain ⟨c1, c2, c3⟩ := compCells_ok hE sc.names l hl
  refine wpAny_comprehension_free (use := use) rfl (fun x => fold_set hs x) (closure_eq fun p hp q => by obtain ⟨a, j, e, _⟩ := c2 p hp q; rw [e]; rfl) hkind (localsOk_of hloc) ?_
  refine IE B m c it0 _ st s A env _ E e0 hE hB R0 O fun m1 src st1 w s1 l1 R1 r1 e1 => ?_
  refine iter_sound g (k := fun kd s => make (.list []) (fun acc s => within [] (compTurns G.P h ⟨sc, l, 0⟩ acc tg elt ifs kd src 100 0) (fun _ s => k (.ref acc) s) s) s) e1 r1 R1 fun kd x it h' e2 hw I F kp hnew => ?_
  obtain ⟨z1, e3⟩ := ifB_ff (b := Nat.blt st1.n 512) e2
  have z1 := Nat.blt_eq.mp z1
  refine wpAny_newList ?_ (by rw [sizeLine_eq]; decide)
  refine wpAny_newFunctionEnv c1 (fun _ hx => by (first | exact (ff hx).elim | exact (nn hx).elim | cases hx)) (fun h'' hns hsb => ?_) hkind
  -- where everything lies
  generalize hD : h'.objs.size = D at hns hsb ⊢
  dsimp only at hns hsb ⊢
  generalize hH : h'.push { cls := .type "list", data := .seq ([] : List Value).toArray } = H at hns hsb ⊢
  generalize hL : H.objs.size = L at hns hsb ⊢
  have nD : h'.get? D = none := hD ▸ get?_size h'
  have nL : H.get? L = none := hL ▸ get?_size H
  have kH : ∀ b o, h'.get? b = some o → H.get? b = some o := fun b o q => hH ▸ Heap.get?_push_of_some _ q
  have atD : H.get? D = some { cls := .type "list", data := .seq ([] : List Value).toArray } := by rw [← hH, ← hD]; exact Heap.get?_push_size _ rfl
  have DL : D ≠ L := fun q => by rw [q, nL] at atD; (first | exact (ff atD).elim | exact (nn atD).elim | cases atD)
  have k'' : ∀ b o, H.get? b = some o → h''.get? b = some o := fun b o q => hsb.extBut b o (fun z => by rw [z, nL] at q; (first | exact (ff q).elim | exact (nn q).elim | cases q)) (Heap.get?_push_of_some _ q)
  have kall : ∀ b o, s1.heap.get? b = some o → h''.get? b = some o := fun b o q => k'' b o (kH b o (kp b o q))
  have sL : s1.heap.get? L = none := by
    cases q : s1.heap.get? L with
    | none => rfl
    | some o => rw [kH _ _ (kp _ _ q)] at nL; (first | exact (ff nL).elim | exact (nn nL).elim | cases nL)
  have sD : s1.heap.get? D = none := by
    cases q : s1.heap.get? D with
    | none => rfl
    | some o => rw [kp _ _ q] at nD; (first | exact (ff nD).elim | exact (nn nD).elim | cases nD)
  have itL : it ≠ L := fun q => by obtain ⟨o, z⟩ := I.here; rw [q] at z; rw [kH _ _ z] at nL; (first | exact (ff nL).elim | exact (nn nL).elim | cases nL)
  have itD : it ≠ D := fun q => by obtain ⟨o, z⟩ := I.here; rw [q, nD] at z; (first | exact (ff z).elim | exact (nn z).elim | cases z)
  have R2 := R1.enter (L := L) (h' := h'') (t := s1.toks) (fr := []) sL kall hns (fun _ _ _ q => by (first | exact (ff q).elim | exact (nn q).elim | cases q))
  have FD := R1.far sD
  have FL := R1.far sL
  have FD' : Far G ⟨s1.heap, m1.ρ, L⟩ m1 D := ⟨FD.ρ, DL, FD.tbl, sD⟩
  have hoD : ORel G (m1.add D) st1.fd h'' (.list []) { cls := .type "list", data := .seq ([] : List Value).toArray } := ⟨_, _, rfl, trivial⟩
  have R3 := R2.addFar (h' := h'') (t := s1.toks) FD' z1 rfl (fun _ _ q => q) (k'' _ _ atD) hoD
  have lD := m1.le_add D
  have atA : (m1.add D).ρ[st1.n]? = some D := by rw [← R1.len]; exact m1.add_at D
  have FI : Far G ⟨s1.heap, m1.ρ, L⟩ (m1.add D) it := ⟨fun q => by
    rcases List.mem_append.mp q with z | z
    · exact F.ρ z
    · exact itD (List.mem_singleton.mp z), itL, F.tbl, hnew⟩
  have I2 : IterAt h'' it kd x 0 := I.at fun o q => k'' _ _ (kH _ _ q)
  have E2 : EnvOk (m1.add D) ⟨sc, l, 0⟩ (compEnvC sc (closOf env sc.names []) L env) := (comp_env (L := L) hE hkind hl).mono (l1.trans lD)
  have loop : codeAny (model G.prog G.w) A (.compLoop (.ListComp elt [⟨tg, it0, ifs, 0⟩] sc p) 0 (.ref it) (.ref D) (compEnvC sc (closOf env sc.names []) L env)) (compPost (model G.prog G.w) A E use Q (.ref D) L) { s1 with heap := h'', toks := s1.toks } := by
    refine comp_loop (B := ⟨s1.heap, m1.ρ, L⟩) g IE e3 ((hw ▸ r1 : VRel m1 src (.ref x)).mono lD) atA E2 rfl R3 O FI I2 fun m' st' s' l' R4 e4 => ?_
    have R5 := R1.leave (lD.trans l') R4 sL
    have F5 : Far G B m' L := ⟨R4.locFar, FL.L, FL.tbl, FL.h⟩
    obtain ⟨f, hn, _⟩ := R4.loc
    exact fin m' (.ref st1.n) _ (.ref D) s' L ((l1.trans lD).trans l') R5 ⟨D, l'.at atA, rfl⟩ e4 F5 ⟨f, hn⟩
  exact codeAny_compStart_list loop (again_iter I2 loop)
theorem comp_sound (g : GOk G) (IE : SEv G h n) : HComp G h n := by
  intro B m c elt tg it ifs sc p k st s A env Q E e hs hE hB R O C
  rw [arm_eval_ListComp]
  refine comp_core g IE (use := none) e hs hE hB R O fun m' a st' b s' L' l R' r' e' F hn => ?_
  obtain ⟨f, hn⟩ := hn
  exact ⟨f, hn, fun h' hx => C m' a st' b _ l (R'.but (t := s'.toks) F fun b o nb q => hx.extBut b o nb q) r' e'⟩
theorem evU_step (g : GOk G) (IE : SEv G h n) : SEvU G (ihBody G.P h) (n + 1) := by
  intro B m c e k st s A env u P Q E he e1 hE hB R O CU C
  obtain ⟨elt, gs, sc, p, rfl⟩ := he
  change evBody G.P h c (.ListComp elt gs sc p) k st = true at e1
  have O' := O.pred
  rcases gs with _ | ⟨⟨tg, it, ifs, as⟩, _ | ⟨g2, gs⟩⟩
  · exact (ff e1).elim
  · obtain ⟨h0, e2⟩ := ev_if e1
    obtain ⟨h1, e3⟩ := ev_if e2
    clear e1 e2
    obtain rfl := isZ_eq h0
    replace e3 : compE G.P h c elt tg it ifs sc k st = true := e3
    rw [arm_evalThenUse_ListComp]
    refine wpAny_bind ?_
    refine comp_core g IE (use := some u) (Q := fun _ s' => wpAny (model G.prog G.w) A (pure ()) (fun _ => Q) E s') e3 h1 hE hB R O' fun m' a st' b s' L' l R' r' e' F hn => ?_
    obtain ⟨f, hn⟩ := hn
    refine CU ⟨s'.heap, m'.ρ, B.L⟩ m' a st' b s' _ rfl l R'.rebase r' e' fun m'' st'' s'' l'' R'' p'' => ?_
    obtain ⟨oL, es, ep, hx, rr⟩ := id hn
    have hx' := R''.keep L' oL hx F.ρ F.L F.tbl
    refine ⟨f, ⟨oL, es, ep, hx', rr⟩, fun h' hs => wpAny_pure ?_⟩
    have nr : L' ∉ m''.ρ := fun z => by
      rcases R''.newer _ z with y | y
      · exact F.ρ y
      · rw [show s'.heap.get? L' = some oL from hx] at y; (first | exact (ff y).elim | exact (nn y).elim | cases y)
    have F'' : Far G B m'' L' := ⟨nr, F.L, F.tbl, F.h⟩
    exact C m'' st'' _ (l.trans l'') ((R'.back R'').but (t := s''.toks) F'' fun b o nb q => hs.extBut b o nb q) p''
  · exact (ff e1).elim
end Sx
end
section
open PySem PySem.W PySem.Calls PyProof.Rows
namespace Sx
set_option maxRecDepth 100000
/-! binding of arguments -/
theorem lookup_zip_none : ∀ {ns : List Str} {vs : List Value} {x : Str}, x ∉ ns.take vs.length → (ns.zip vs).lookup x = none
  | [], _, _, _ => rfl
  | _ :: _, [], _, _ => rfl
  | n :: ns, v :: vs, x, h => by
    simp only [List.length_cons, List.take_succ_cons, List.mem_cons, not_or] at h
    rw [List.zip_cons_cons, List.lookup_cons, beq_eq_false_iff_ne.mpr h.1]
    exact lookup_zip_none h.2
theorem lookup_zip_some : ∀ {ns : List Str} {vs : List Value} {x : Str}, x ∈ ns.take vs.length → ((ns.zip vs).lookup x).isSome = true
  | [], _, _, h => by simp at h
  | _ :: _, [], _, h => by simp at h
  | n :: ns, v :: vs, x, h => by
    rw [List.zip_cons_cons, List.lookup_cons]
    cases q : x == n with
    | true => rfl
    | false =>
      simp only [List.length_cons, List.take_succ_cons, List.mem_cons] at h
      rcases h with h | h
      · rw [h] at q; simp at q
      · exact lookup_zip_some h
theorem fm_congr {α β : Type} {f g : α → Option β} : ∀ (l : List α), (∀ x ∈ l, f x = g x) → l.filterMap f = l.filterMap g
  | [], _ => rfl
  | a :: r, h => by
    have h1 := h a (.head _)
    have h2 := fm_congr r fun x hx => h x (.tail _ hx)
    cases q : f a with
    | none => rw [List.filterMap_cons_none q, List.filterMap_cons_none (h1 ▸ q), h2]
    | some b => rw [List.filterMap_cons_some q, List.filterMap_cons_some (h1 ▸ q), h2]
theorem filterMap_zip : ∀ {ns : List Str} {vs : List Value}, ns.Nodup → ns.length = vs.length → ∀ (pre : List Str), (ns.filterMap fun n => ((ns.zip vs).lookup n).map (n, ·)) = ns.zip vs := by
  intro ns
  induction ns with
  | nil => intro vs _ _ _; rfl
  | cons n ns ih =>
    intro vs nd hl pre
    cases vs with
    | nil => (first | exact (ff hl).elim | exact (nn hl).elim | cases hl)
    | cons v vs =>
      simp only [List.nodup_cons] at nd
      rw [List.zip_cons_cons]
      have h1 : (((n, v) :: ns.zip vs).lookup n).map (n, ·) = some (n, v) := by rw [List.lookup_cons, beq_self_eq_true]; rfl
      have h3 := List.filterMap_cons_some (f := fun x => (((n, v) :: ns.zip vs).lookup x).map (x, ·)) (l := ns) h1
      rw [h3]
      have h2 : (ns.filterMap fun x => (((n, v) :: ns.zip vs).lookup x).map (x, ·)) = ns.filterMap fun x => ((ns.zip vs).lookup x).map (x, ·) := by
        exact fm_congr ns fun x hx => by
          have : (x == n) = false := beq_eq_false_iff_ne.mpr fun z => nd.1 (z ▸ hx)
          rw [List.lookup_cons, this]
      rw [h2, ih nd.2 (by simpa using hl) pre]
noncomputable def addD (slots : List (Str × Value)) : List (Str × Value) → List (Str × Value)
  | [] => slots
  | p :: r => addD (if (slots.lookup p.1).isNone then slots ++ [p] else slots) r
theorem addD_for : ∀ (l slots : List (Str × Value)), (forIn l slots (fun (x : Str × Value) (r : List (Str × Value)) => if (r.lookup x.fst).isNone = true then (pure (ForInStep.yield (r ++ [(x.fst, x.snd)])) : Sem (ForInStep (List (Str × Value)))) else pure (ForInStep.yield r))) = (pure (addD slots l) : Sem (List (Str × Value)))
  | [], slots => by rw [List.forIn_nil]; rfl
  | p :: r, slots => by
    rw [List.forIn_cons]
    cases q : (slots.lookup p.1).isNone with
    | true =>
      rw [if_pos rfl]
      refine (addD_for r (slots ++ [(p.1, p.2)])).trans ?_
      show _ = pure (addD (if (slots.lookup p.1).isNone then slots ++ [p] else slots) r)
      rw [q, if_pos rfl]
    | false =>
      rw [if_neg Bool.false_ne_true]
      refine (addD_for r slots).trans ?_
      show _ = pure (addD (if (slots.lookup p.1).isNone then slots ++ [p] else slots) r)
      rw [q, if_neg Bool.false_ne_true]
theorem binds_eq {s : Shared} {fd : FuncData} {ps : List Arg} {kwd : List (Option PySem.Expr)} {dfl : List PySem.Expr} {vals : List Value} {ds : List Value} (hp : fd.params = ⟨[], ps, none, [], kwd, none, dfl⟩)
    (hd : (fd.defaults = .none ∧ ds = []) ∨ ∃ T o n, fd.defaults = .ref T ∧ s.heap.get? T = some o ∧ o.data = .seq ds.toArray n) (h1 : vals.length ≤ ps.length) (h2 : ps.length - vals.length ≤ ds.length) (h3 : ds.length ≤ ps.length) :
    BindsTo s fd ⟨vals, []⟩ ((ps.map (·.arg)).filterMap fun n => ((addD ((ps.map (·.arg)).zip vals) (((ps.map (·.arg)).drop (ps.length - ds.length)).zip ds)).lookup n).map (n, ·)) := by
  intro M A E Q hq
  unfold bindArgs
  rw [hp]
  dsimp only [List.map_nil, List.nil_append]
  refine wpAny_bind ?_
  rw [List.forIn_nil]
  refine wpAny_pure ?_
  dsimp only
  have sq : ∀ {Q' : Option (Array Value) → Shared → Prop}, (∀ o : Option (Array Value), (o.getD #[]).toList = ds → Q' o s) → wpAny M A (seqItems? fd.defaults) Q' E s := by
    intro Q' q
    rcases hd with ⟨hd, rfl⟩ | ⟨T, o, nn, hd, ho, hs⟩
    · rw [hd]; exact wpAny_pure (q none rfl)
    · rw [hd]; exact wpAny_seqItems ho hs (q (some ds.toArray) (by simp))
  refine wpAny_bind (sq fun o ho => ?_)
  rw [ho]
  split
  · rename_i hc; simp at hc; omega
  · have e0 : ds.drop (ds.length - (([] : List Arg).map (fun x => x.arg) ++ ps.map (fun x => x.arg)).length) = ds := by
      rw [show ds.length - (([] : List Arg).map (fun x => x.arg) ++ ps.map (fun x => x.arg)).length = 0 from by simp; omega]; rfl
    rw [e0]
    split
    · rename_i hc
      exfalso
      have : ((([] : List Arg).map (fun x => x.arg) ++ ps.map (fun x => x.arg)).take ((([] : List Arg).map (fun x => x.arg) ++ ps.map (fun x => x.arg)).length - ds.length)).filter (fun n => (List.lookup n ((([] : List Arg).map (fun x => x.arg) ++ ps.map (fun x => x.arg)).zip vals)).isNone) = [] := by
        rw [List.filter_eq_nil_iff]
        intro x hx
        have hm : x ∈ (([] : List Arg).map (fun x => x.arg) ++ ps.map (fun x => x.arg)).take vals.length := by
          refine List.take_subset_take_left _ ?_ hx
          simp; omega
        have := lookup_zip_some hm
        cases q : List.lookup x ((([] : List Arg).map (fun x => x.arg) ++ ps.map (fun x => x.arg)).zip vals) with
        | none => rw [q] at this; (first | exact (ff this).elim | exact (nn this).elim | cases this)
        | some v => simp
      rw [this] at hc
      (first | exact (ff hc).elim | exact (nn hc).elim | cases hc)
    · refine wpAny_bind ?_
      rw [addD_for]
      refine wpAny_pure ?_
      refine wpAny_bind ?_
      show wpAny M A (forIn ([] : List Str) _ _) _ E s
      rw [List.forIn_nil]
      refine wpAny_pure ?_
      dsimp only
      rw [if_neg (by decide)]
      refine wpAny_pure ?_
      have el : (([] : List Arg).map (fun x => x.arg) ++ ps.map (fun x => x.arg)).length = ps.length := by simp
      rw [el]
      simpa using hq
theorem addD_eq : ∀ (l : List (Str × Value)) (slots : List (Str × Value)), (l.map (·.1)).Nodup → ∀ x, (addD slots l).lookup x = match slots.lookup x with | some v => some v | none => l.lookup x
  | [], slots, _, x => by cases q : slots.lookup x <;> simp [addD, q]
  | p :: r, slots, nd, x => by
    simp only [List.map_cons, List.nodup_cons] at nd
    show (addD (if (slots.lookup p.1).isNone then slots ++ [p] else slots) r).lookup x = _
    rw [addD_eq r _ nd.2 x]
    have la : ∀ (l1 l2 : List (Str × Value)), (l1 ++ l2).lookup x = match l1.lookup x with | some v => some v | none => l2.lookup x := by
      intro l1 l2
      induction l1 with
      | nil => rfl
      | cons q l1 ih =>
        rw [List.cons_append, List.lookup_cons, List.lookup_cons]
        cases x == q.1 <;> first | rfl | exact ih
    by_cases z : x = p.1
    · subst z
      cases q : slots.lookup p.1 with
      | some v => simp [q]
      | none =>
        obtain ⟨p1, p2⟩ := p
        dsimp only at q la ⊢
        simp [la, q, List.lookup]
    · have zb : (x == p.1) = false := beq_eq_false_iff_ne.mpr z
      have e : (if (slots.lookup p.1).isNone then slots ++ [p] else slots).lookup x = slots.lookup x := by
        split
        · rw [la, List.lookup_cons, zb]; cases slots.lookup x <;> rfl
        · rfl
      rw [e, List.lookup_cons, zb]
theorem lookup_append (x : Str) : ∀ (l1 l2 : List (Str × Value)), (l1 ++ l2).lookup x = match l1.lookup x with | some v => some v | none => l2.lookup x
  | [], _ => rfl
  | q :: l1, l2 => by
    rw [List.cons_append, List.lookup_cons, List.lookup_cons]
    cases x == q.1 <;> first | rfl | exact lookup_append x l1 l2
theorem lookup_none_of {x : Str} : ∀ {l : List (Str × Value)}, x ∉ l.map (·.1) → l.lookup x = none
  | [], _ => rfl
  | p :: r, h => by
    simp only [List.map_cons, List.mem_cons, not_or] at h
    rw [List.lookup_cons, beq_eq_false_iff_ne.mpr h.1]
    exact lookup_none_of h.2
theorem zip_keys {ns : List Str} {vs : List Value} {x : Str} (h : x ∈ (ns.zip vs).map (·.1)) : x ∈ ns := by
  obtain ⟨p, hp, rfl⟩ := List.mem_map.mp h
  exact (List.of_mem_zip (a := p.1) (b := p.2) hp).1
theorem lookup_zip_at : ∀ {ns : List Str} {vs : List Value} {x : Str} {i : Nat}, ns.Nodup → ns[i]? = some x → (ns.zip vs).lookup x = vs[i]?
  | [], _, _, _, _, h => by simp at h
  | n :: ns, [], x, i, _, _ => by simp
  | n :: ns, v :: vs, x, 0, nd, h => by
    simp at h; subst h
    rw [List.zip_cons_cons, List.lookup_cons, beq_self_eq_true]; rfl
  | n :: ns, v :: vs, x, i + 1, nd, h => by
    simp only [List.nodup_cons] at nd
    simp at h
    have : (x == n) = false := beq_eq_false_iff_ne.mpr fun z => nd.1 (z ▸ List.mem_of_getElem? h)
    rw [List.zip_cons_cons, List.lookup_cons, this]
    simpa using lookup_zip_at nd.2 h
/-- what a call binds -/
noncomputable def fullOf (n : Nat) (vals ds : List Value) : List Value := vals ++ ds.drop (ds.length - (n - vals.length))
theorem binds_full {ns : List Str} {vals ds : List Value} (nd : ns.Nodup) (h1 : vals.length ≤ ns.length) (h2 : ns.length - vals.length ≤ ds.length) (h3 : ds.length ≤ ns.length) :
    (ns.filterMap fun n => ((addD (ns.zip vals) ((ns.drop (ns.length - ds.length)).zip ds)).lookup n).map (n, ·)) = ns.zip (fullOf ns.length vals ds) := by
  have lf : ns.length = (fullOf ns.length vals ds).length := by
    unfold fullOf; rw [List.length_append, List.length_drop]; omega
  rw [← filterMap_zip nd lf []]
  refine fm_congr ns fun x hx => congrArg (Option.map _) ?_
  have ndr : (ns.drop (ns.length - ds.length)).Nodup := nd.sublist (List.drop_sublist _ _)
  have ndd : (((ns.drop (ns.length - ds.length)).zip ds).map (·.1)).Nodup := by
    rw [List.map_fst_zip (by rw [List.length_drop]; omega)]
    exact ndr
  rw [addD_eq _ _ ndd]
  obtain ⟨i, hi, e⟩ := List.mem_iff_getElem.mp hx
  have ei : ns[i]? = some x := by rw [List.getElem?_eq_getElem hi, e]
  rw [lookup_zip_at nd ei, lookup_zip_at nd ei]
  unfold fullOf
  by_cases c : i < vals.length
  · rw [List.getElem?_append_left c, List.getElem?_eq_getElem c]
  · rw [List.getElem?_append_right (by omega), List.getElem?_eq_none (by omega)]
    have ed : (ns.drop (ns.length - ds.length))[i - (ns.length - ds.length)]? = some x := by
      rw [List.getElem?_drop, show ns.length - ds.length + (i - (ns.length - ds.length)) = i from by omega]; exact ei
    dsimp only
    rw [lookup_zip_at ndr ed, List.getElem?_drop]
    congr 1
    omega
theorem bindsTo_full {s : Shared} {fd : FuncData} {ps : List Arg} {kwd : List (Option PySem.Expr)} {dfl : List PySem.Expr} {vals : List Value} {ds : List Value} (hp : fd.params = ⟨[], ps, none, [], kwd, none, dfl⟩) (nd : (ps.map (·.arg)).Nodup)
    (hd : (fd.defaults = .none ∧ ds = []) ∨ ∃ T o n, fd.defaults = .ref T ∧ s.heap.get? T = some o ∧ o.data = .seq ds.toArray n) (h1 : vals.length ≤ ps.length) (h2 : ps.length - vals.length ≤ ds.length) (h3 : ds.length ≤ ps.length) :
    BindsTo s fd ⟨vals, []⟩ ((ps.map (·.arg)).zip (fullOf ps.length vals ds)) := by
  have := binds_eq hp hd h1 h2 h3
  have e := binds_full (ns := ps.map (·.arg)) (vals := vals) (ds := ds) nd (by simpa using h1) (by simpa using h2) (by simpa using h3)
  rw [List.length_map] at e
  rw [e] at this
  exact this
end Sx
end
section
open PySem PySem.W PySem.Calls PyProof.Rows
namespace Sx
set_option maxRecDepth 100000
variable {G : Gl} {B : Base} {m : Wm} {st : St} {s : Shared} {A : Around} {env : Env} {E : Value → Shared → Prop} {n : Nat} {h : Ih} {c : Cx}
theorem hasN_mem {x : Nat} : ∀ {l : List Nat}, hasN x l = true ↔ x ∈ l
  | [] => ⟨fun h => (by (first | exact (ff h).elim | exact (nn h).elim | cases h)), fun h => (by (first | exact (ff h).elim | exact (nn h).elim | cases h))⟩
  | y :: r => by
    show ifB (Nat.beq x y) true (hasN x r) = true ↔ _
    rw [nbeq_eq]
    by_cases q : x = y
    · rw [decide_eq_true q]; exact ⟨fun _ => q ▸ .head _, fun _ => rfl⟩
    · rw [decide_eq_false q]
      refine ⟨fun h => .tail _ (hasN_mem.mp h), fun h => ?_⟩
      cases h with
      | head => exact absurd rfl q
      | tail _ h => exact hasN_mem.mpr h
theorem apart_nodup : ∀ {l : List Nat}, Sx.apart l = true → l.Nodup
  | [], _ => List.nodup_nil
  | x :: r, e => by
    unfold Sx.apart at e
    split at e
    · (first | exact (ff e).elim | exact (nn e).elim | cases e)
    · rename_i q
      refine List.nodup_cons.mpr ⟨fun hm => ?_, apart_nodup e⟩
      rw [hasN_mem.mpr hm] at q; (first | exact (ff q).elim | exact (nn q).elim | cases q)
/-! cells of a call -/
/-- the cells' names, as they are numbered -/
noncomputable def cellNs : List (Str × NameKind) → List Str
  | [] => []
  | p :: r => if p.2 = .cell then p.1 :: cellNs r else cellNs r
theorem cellsIn_eq : ∀ (names : List (Str × NameKind)), cellsIn names = (cellNs names).map sid
  | [] => rfl
  | (x, kd) :: r => by
    have ih := cellsIn_eq r
    (first | exact (ff kd).elim | exact (nn kd).elim | cases kd) <;> first | (show sid x :: cellsIn r = (x :: cellNs r).map sid; rw [ih]; rfl) | (show cellsIn r = (cellNs r).map sid; exact ih)
/-- cells laid at addresses that follow each other -/
noncomputable def layAt : List Str → Nat → List (Str × Addr) → List (Str × Addr)
  | [], _, acc => acc
  | x :: r, a, acc => layAt r (a + 1) ((x, a) :: acc)
theorem cellsFrom_eq : ∀ (names : List (Str × NameKind)) (a : Nat) (acc : List (Str × Addr)), cellsFrom a names acc = layAt (cellNs names) a acc
  | [], _, _ => rfl
  | (x, kd) :: r, a, acc => by
    (first | exact (ff kd).elim | exact (nn kd).elim | cases kd) <;> first
      | (show cellsFrom (a + 1) r ((x, a) :: acc) = layAt (cellNs r) (a + 1) ((x, a) :: acc); exact cellsFrom_eq r _ _)
      | (show cellsFrom a r acc = layAt (cellNs r) a acc; exact cellsFrom_eq r _ _)
theorem layAt_acc {p : Str × Addr} : ∀ (xs : List Str) (a : Nat) (acc : List (Str × Addr)), p ∈ acc → p ∈ layAt xs a acc
  | [], _, _, h => h
  | x :: r, a, acc, h => layAt_acc r (a + 1) _ (.tail _ h)
theorem layAt_keys {x : Str} : ∀ (xs : List Str) (a : Nat) (acc : List (Str × Addr)), x ∈ (layAt xs a acc).map (·.1) → x ∈ xs ∨ x ∈ acc.map (·.1)
  | [], _, _, h => .inr h
  | y :: r, a, acc, h => by
    rcases layAt_keys r (a + 1) _ h with h | h
    · exact .inl (.tail _ h)
    · rw [List.map_cons] at h
      cases h with
      | head => exact .inl (.head _)
      | tail _ h => exact .inr h
theorem layAt_lookup : ∀ (xs : List Str) (a : Nat) (acc : List (Str × Addr)), (∀ x ∈ xs, x ∉ acc.map (·.1)) → xs.Nodup → (acc.map (·.1)).Nodup → ∀ p ∈ layAt xs a acc, (layAt xs a acc).lookup p.1 = some p.2
  | [], _, acc, _, _, nd, p, hp => by
    induction acc with
    | nil => (first | exact (ff hp).elim | exact (nn hp).elim | cases hp)
    | cons q r ih =>
      simp only [List.map_cons, List.nodup_cons] at nd
      show (q :: r).lookup p.1 = some p.2
      cases hp with
      | head => rw [List.lookup_cons, beq_self_eq_true]
      | tail _ hp =>
        have : (p.1 == q.1) = false := beq_eq_false_iff_ne.mpr fun z => nd.1 (z ▸ List.mem_map_of_mem (f := (·.1)) hp)
        rw [List.lookup_cons, this]
        exact ih (fun _ h => (nomatch h)) nd.2 hp
  | x :: r, a, acc, hx, nx, nd, p, hp => by
    simp only [List.nodup_cons] at nx
    refine layAt_lookup r (a + 1) ((x, a) :: acc) (fun y hy => ?_) nx.2 ?_ p hp
    · simp only [List.map_cons, List.mem_cons, not_or]
      exact ⟨fun z => nx.1 (z ▸ hy), hx y (.tail _ hy)⟩
    · simp only [List.map_cons, List.nodup_cons]
      exact ⟨hx x (.head _), nd⟩
/-- the two tables of cells go along with each other -/
noncomputable def CellsAlong (m : Wm) : List (Nat × Nat) → List (Str × Addr) → Prop
  | [], [] => True
  | e :: es, p :: ps => e.1 = sid p.1 ∧ okS p.1 = true ∧ m.ρ[e.2]? = some p.2 ∧ CellsAlong m es ps
  | _, _ => False
theorem CellsAlong.mono {m' : Wm} (l : m.Le m') : ∀ {es : List (Nat × Nat)} {ps : List (Str × Addr)}, CellsAlong m es ps → CellsAlong m' es ps
  | [], [], _ => trivial
  | _ :: _, _ :: _, ⟨a, b, d, e⟩ => ⟨a, b, l.at d, e.mono l⟩
theorem CellsAlong.look : ∀ {es : List (Nat × Nat)} {ps : List (Str × Addr)} {x : Str} {j : Nat}, CellsAlong m es ps → okS x = true → lk (sid x) es = some j → ∃ a, m.ρ[j]? = some a ∧ ps.lookup x = some a
  | [], [], _, _, _, _, e => by (first | exact (ff e).elim | exact (nn e).elim | cases e)
  | e1 :: es, p :: ps, x, j, ⟨h1, h2, h3, h4⟩, ox, e => by
    rw [lk_cons] at e
    by_cases q : sid x = e1.1
    · rw [if_pos q] at e; (first | exact (ff e).elim | exact (nn e).elim | cases e)
      have : x = p.1 := sid_inj ox h2 (q.trans h1)
      subst this
      exact ⟨p.2, h3, by rw [List.lookup_cons, beq_self_eq_true]⟩
    · rw [if_neg q] at e
      have : (x == p.1) = false := beq_eq_false_iff_ne.mpr fun z => q (by rw [z, h1])
      rw [List.lookup_cons, this]
      exact h4.look ox e
theorem layCells_sound : ∀ (xs : List Str) (a : Nat) (accE : List (Nat × Nat)) (acc : List (Str × Addr)) (m : Wm) (st : St) (k : List (Nat × Nat) → St → Bool), layCells (xs.map sid) accE k st = true → (∀ x ∈ xs, okS x = true) → CellsAlong m accE acc → Rel G B m st s →
    (∀ p ∈ layAt xs a acc, p.2 < a ∨ ∃ w, s.heap.IsCell p.2 w) → (∀ b, a ≤ b → b ∉ m.ρ ∧ b ≠ B.L ∧ b ≠ G.tbl ∧ B.h.get? b = none) → (∀ p ∈ acc, p.2 < a) →
    ∃ m' st' es, m.Le m' ∧ Rel G B m' st' s ∧ CellsAlong m' es (layAt xs a acc) ∧ k es st' = true ∧ st'.fr = st.fr ∧ st'.fd = st.fd ∧ ∀ b ∈ m'.ρ, b ∈ m.ρ ∨ a ≤ b
  | [], a, accE, acc, m, st, k, e, _, hc, R, _, _, _ => ⟨m, st, accE, Wm.Le.refl m, R, hc, e, rfl, rfl, fun _ h => .inl h⟩
  | x :: r, a, accE, acc, m, st, k, e, ox, hc, R, H, F, L => by
    obtain ⟨h1, e1⟩ := ifB_ff (b := Nat.blt st.n 512) e
    obtain ⟨f1, f2, f3, f4⟩ := F a (Nat.le_refl a)
    have hcell : ∃ w, s.heap.IsCell a w := by
      rcases H (x, a) (layAt_acc r (a + 1) _ (.head _)) with z | z
      · exact absurd z (Nat.lt_irrefl _)
      · exact z
    obtain ⟨w, ob, q1, q2⟩ := hcell
    have R1 := R.addFar (h' := s.heap) (t := s.toks) ⟨f1, f2, f3, f4⟩ (Nat.blt_eq.mp h1) rfl (fun _ _ q => q) q1 (show ORel G (m.add a) st.fd s.heap (.cell none) ob from ⟨w, q2, trivial⟩)
    have l1 := m.le_add a
    have atA : (m.add a).ρ[st.n]? = some a := by rw [← R.len]; exact m.add_at a
    obtain ⟨m', st', es, l2, R2, c2, e2, q3, q4, q5⟩ := layCells_sound r (a + 1) ((sid x, st.n) :: accE) ((x, a) :: acc) (m.add a) _ k e1 (fun y hy => ox y (.tail _ hy)) ⟨rfl, ox x (.head _), atA, hc.mono l1⟩ R1
      (fun p hp => by rcases H p hp with z | z; exact .inl (Nat.lt_succ_of_lt z); exact .inr z)
      (fun b hb => by
        obtain ⟨g1, g2, g3, g4⟩ := F b (by omega)
        refine ⟨fun z => ?_, g2, g3, g4⟩
        rcases List.mem_append.mp z with z | z
        · exact g1 z
        · have := List.mem_singleton.mp z; omega)
      (fun p hp => by
        cases hp with
        | head => exact Nat.lt_succ_self _
        | tail _ hp => exact Nat.lt_succ_of_lt (L p hp))
    refine ⟨m', st', es, l1.trans l2, R2, c2, e2, q3, q4, fun b hb => ?_⟩
    rcases q5 b hb with z | z
    · rcases List.mem_append.mp z with z | z
      · exact .inl z
      · exact .inr (Nat.le_of_eq (List.mem_singleton.mp z).symm)
    · exact .inr (Nat.le_of_succ_le z)
end Sx
end
section
open PySem PySem.W PySem.Calls PyProof.Rows
namespace Sx
set_option maxRecDepth 100000
variable {G : Gl} {B : Base} {m : Wm} {st : St} {s : Shared} {A : Around} {env : Env} {E : Value → Shared → Prop} {n : Nat} {h : Ih} {c : Cx}
theorem CellsAlong.pair : ∀ {es : List (Nat × Nat)} {ps : List (Str × Addr)} {x : Str} {j : Nat}, CellsAlong m es ps → okS x = true → lk (sid x) es = some j → ∃ a, m.ρ[j]? = some a ∧ ps.lookup x = some a := fun h ox e => h.look ox e
theorem bindL_of {kindOf : Str → Option NameKind} {x : Str} : ∀ (ps : List (Str × Value)) (f : Str → Option Value), x ∉ ps.map (·.1) → bindL kindOf ps f x = f x
  | [], _, _ => rfl
  | p :: r, f, h => by
    simp only [List.map_cons, List.mem_cons, not_or] at h
    obtain ⟨p1, p2⟩ := p
    show bindL kindOf r (if kindOf p1 = some .local then fun y => if y = p1 then some p2 else f y else f) x = f x
    rw [bindL_of r _ h.2]
    split
    · exact if_neg h.1
    · rfl
theorem bindC_of {kindOf : Str → Option NameKind} {x : Str} : ∀ (ps : List (Str × Value)) (f : Str → Option Value), x ∉ ps.map (·.1) → bindC kindOf ps f x = f x
  | [], _, _ => rfl
  | p :: r, f, h => by
    simp only [List.map_cons, List.mem_cons, not_or] at h
    obtain ⟨p1, p2⟩ := p
    show bindC kindOf r (if kindOf p1 = some .local then f else fun y => if y = p1 then some p2 else f y) x = f x
    rw [bindC_of r _ h.2]
    split
    · rfl
    · exact if_neg h.1
theorem bindL_at {kindOf : Str → Option NameKind} {x : Str} {v : Value} (hx : kindOf x = some .local) : ∀ (ps : List (Str × Value)) (f : Str → Option Value), (ps.map (·.1)).Nodup → (x, v) ∈ ps → bindL kindOf ps f x = some v
  | [], _, _, h => by (first | exact (ff h).elim | exact (nn h).elim | cases h)
  | p :: r, f, nd, h => by
    simp only [List.map_cons, List.nodup_cons] at nd
    obtain ⟨p1, p2⟩ := p
    show bindL kindOf r (if kindOf p1 = some .local then fun y => if y = p1 then some p2 else f y else f) x = some v
    cases h with
    | head => rw [bindL_of r _ nd.1, if_pos hx]; exact if_pos rfl
    | tail _ h => exact bindL_at hx r _ nd.2 h
theorem bindC_at {kindOf : Str → Option NameKind} {x : Str} {v : Value} (hx : kindOf x = some .cell) : ∀ (ps : List (Str × Value)) (f : Str → Option Value), (ps.map (·.1)).Nodup → (x, v) ∈ ps → bindC kindOf ps f x = some v
  | [], _, _, h => by (first | exact (ff h).elim | exact (nn h).elim | cases h)
  | p :: r, f, nd, h => by
    simp only [List.map_cons, List.nodup_cons] at nd
    obtain ⟨p1, p2⟩ := p
    show bindC kindOf r (if kindOf p1 = some .local then f else fun y => if y = p1 then some p2 else f y) x = some v
    cases h with
    | head => rw [bindC_of r _ nd.1, if_neg (by rw [hx]; decide)]; exact if_pos rfl
    | tail _ h => exact bindC_at hx r _ nd.2 h
/-- parameters, as E has them -/
noncomputable def ParAlong (env : Env) : List (Nat × Bool) → List Str → Prop
  | [], [] => True
  | p :: ps, x :: xs => p.1 = sid x ∧ okS x = true ∧ ((p.2 = true ∧ env.kindOf x = some .cell) ∨ (p.2 = false ∧ env.kindOf x = some .local)) ∧ ParAlong env ps xs
  | _, _ => False
theorem layArgs_sound {f cm : Str → Option Value} {ps0 : List (Str × Addr)} : ∀ (ps : List (Nat × Bool)) (xs : List Str) (vs : List V) (ws : List Value) (acc : List (Nat × V)) (st : St) (k : List (Nat × V) → St → Bool),
    layArgs c ps vs acc k st = true → ParAlong env ps xs → VsRel m vs ws → CellsAlong m c.cells ps0 → Rel G B m st s → (∀ p ∈ xs.zip ws, (env.kindOf p.1 = some .local → f p.1 = some p.2) ∧ (env.kindOf p.1 = some .cell → cm p.1 = some p.2)) →
    (∀ y a, ps0.lookup y = some a → s.heap.IsCell a (cm y)) → (∀ y v, okS y = true → lk (sid y) acc = some v → ∃ w, f y = some w ∧ VRel m v w) →
    ∃ st' fr, Rel G B m st' s ∧ k fr st' = true ∧ xs.length = ws.length ∧ (∀ y v, okS y = true → lk (sid y) fr = some v → ∃ w, f y = some w ∧ VRel m v w) ∧ st'.fr = st.fr ∧ st'.fd = st.fd := by
  intro ps
  induction ps with
  | nil =>
    intro xs vs ws acc st k e p r hc R hz hcell ha
    cases xs with
    | cons => exact p.elim
    | nil =>
      cases vs with
      | cons => exact (ff e).elim
      | nil =>
        cases ws with
        | cons => exact r.elim
        | nil => exact ⟨st, acc, R, e, rfl, ha, rfl, rfl⟩
  | cons p ps ih =>
    intro xs vs ws acc st k e pp r hc R hz hcell ha
    cases xs with
    | nil => exact pp.elim
    | cons x xs =>
    cases vs with
    | nil => exact (ff e).elim
    | cons v vs =>
      cases ws with
      | nil => exact r.elim
      | cons w ws =>
        obtain ⟨h1, ox, h3, h4⟩ := pp
        obtain ⟨p1, p2⟩ := p
        have h1 : p1 = sid x := h1
        subst h1
        have hz0 := hz (x, w) (.head _)
        have hz' : ∀ p ∈ xs.zip ws, (env.kindOf p.1 = some .local → f p.1 = some p.2) ∧ (env.kindOf p.1 = some .cell → cm p.1 = some p.2) := fun p hp => hz p (.tail _ hp)
        rcases h3 with ⟨hp, hk⟩ | ⟨hp, hk⟩
        · have hp : p2 = true := hp
          subst hp
          change storeCell c (sid x) v (fun _ s => layArgs c ps vs acc k s) st = true at e
          obtain ⟨j, q1, q2⟩ := ifO_ff e
          obtain ⟨a, q3, q4⟩ := hc.look ox q1
          obtain ⟨o, ob, S, q5⟩ := look_sound R q3 q2
          cases o with
          | cell v0 =>
            obtain ⟨ob', q6, q7⟩ := hcell x a q4
            cases S.at_.symm.trans q6
            have R1 := R.upd (t := s.toks) (h' := s.heap) q3 (S.idx j rfl).2 rfl rfl (fun _ _ _ q => q) S.at_ (show ORel G m st.fd s.heap (.cell (some v)) ob from ⟨_, q7, w, hz0.2 hk, r.1⟩)
            obtain ⟨st', fr, a1, a2, a3, a4, a5, a6⟩ := ih xs vs ws acc _ k q5 h4 r.2 hc R1 hz' hcell ha
            exact ⟨st', fr, a1, a2, by rw [List.length_cons, List.length_cons, a3], a4, a5, a6⟩
          | _ => (first | exact (ff q5).elim | exact (nn q5).elim | cases q5)
        · have hp : p2 = false := hp
          subst hp
          change layArgs c ps vs (setK (sid x) v acc) k st = true at e
          obtain ⟨st', fr, a1, a2, a3, a4, a5, a6⟩ := ih xs vs ws _ st k e h4 r.2 hc R hz' hcell (fun y u oy hy => by
            rw [lk_setK] at hy
            by_cases q : sid y = sid x
            · rw [if_pos q] at hy; (first | exact (ff hy).elim | exact (nn hy).elim | cases hy)
              rw [sid_inj oy ox q]; exact ⟨w, hz0.1 hk, r.1⟩
            · rw [if_neg q] at hy; exact ha y u oy hy)
          exact ⟨st', fr, a1, a2, by rw [List.length_cons, List.length_cons, a3], a4, a5, a6⟩
end Sx
end
section
open PySem PySem.W PySem.Calls PyProof.Rows
namespace Sx
set_option maxRecDepth 100000
variable {G : Gl} {B : Base} {m : Wm} {st : St} {s : Shared} {A : Around} {env : Env} {E : Value → Shared → Prop} {n : Nat} {h : Ih} {c : Cx}
theorem codeNum_ok (v : Value) : codeNum v = 0 ∨ v = .ref (codeNum v) := by (first | exact (ff v).elim | exact (nn v).elim | cases v) <;> first | exact .inl rfl | exact .inr rfl
structure FnOf (K : Frag) (a : Addr) (f : Fn) (fd : FuncData) (b : List Stmt) (ps : List Arg) (kwd : List (Option PySem.Expr)) (dfl : List PySem.Expr) (d : List V) (l : List (Nat × Bool)) : Prop where
  at' : ∃ oc od sl, K.lookup a = some ⟨oc, od, .func fd, sl⟩
  body : fd.body = .stmts b
  params : fd.params = ⟨[], ps, none, [], kwd, none, dfl⟩
  kind : fd.scope.kind = .function
  gen : fd.scope.isGenerator = false
  cor : fd.scope.isCoroutine = false
  clo : fd.closure = []
  glob : fd.globals = mainGlobals
  bui : fd.builtins = builtinsNs
  code : codeIn K fd.code fd.qualname = true
  names : okNames fd.scope.names = true
  dflts : dfltsOf K fd.defaults = some d
  pars : paramsIn fd.scope.names ps = some l
  ap1 : Sx.apart (fstN l) = true
  ap2 : Sx.apart (cellsIn fd.scope.names) = true
  len : d.length ≤ l.length
  eq : f = ⟨l, cellsIn fd.scope.names, d, b, fd.scope, codeNum fd.code⟩
theorem fn_of (g : GOk G) {a : Addr} {f : Fn} (e : G.P.fn a = some f) : ∃ fd b ps kwd dfl d l, FnOf G.K a f fd b ps kwd dfl d l := by
  obtain ⟨sm, hp⟩ := g.pg
  rw [hp] at e
  change mkFn G.K a = some f at e
  obtain ⟨o, ho, e⟩ := ifO_nn (o := G.K.lookup a) e
  obtain ⟨fd, hfd, e⟩ := ifO_nn (o := asFunc o) e
  obtain ⟨b, hb, e⟩ := ifO_nn (o := asStmts fd.body) e
  obtain ⟨ps, hps, e⟩ := ifO_nn (o := asPars fd.params) e
  obtain ⟨h3, e⟩ := ifB_nn (b := isFn fd.scope.kind) e
  obtain ⟨h4, e⟩ := ifB_n1 (b := fd.scope.isGenerator) e
  obtain ⟨h5, e⟩ := ifB_n1 (b := fd.scope.isCoroutine) e
  obtain ⟨h6, e⟩ := ifB_nn (b := isNil fd.closure) e
  obtain ⟨c1, e⟩ := ifB_nn (b := Nat.beq fd.globals mainGlobals) e
  obtain ⟨c2, e⟩ := ifB_nn (b := Nat.beq fd.builtins builtinsNs) e
  obtain ⟨c3, e⟩ := ifB_nn (b := codeIn G.K fd.code fd.qualname) e
  obtain ⟨c4, e⟩ := ifB_nn (b := okNames fd.scope.names) e
  obtain ⟨d, hd, e⟩ := ifO_nn (o := dfltsOf G.K fd.defaults) e
  obtain ⟨l, hl, e⟩ := ifO_nn (o := paramsIn fd.scope.names ps) e
  obtain ⟨a1, e⟩ := ifB_nn (b := Sx.apart (fstN l)) e
  obtain ⟨a2, e⟩ := ifB_nn (b := Sx.apart (cellsIn fd.scope.names)) e
  obtain ⟨a3, e9⟩ := ifB_nn (b := Nat.ble d.length l.length) e
  obtain ⟨oc, od, sl, rfl⟩ := asFunc_eq hfd
  obtain ⟨kwd, dfl, h2⟩ := asPars_eq hps
  exact ⟨fd, b, ps, kwd, dfl, d, l, ⟨⟨oc, od, sl, ho⟩, asStmts_eq hb, h2, isFn_eq h3, h4, h5, isNil_eq h6, Nat.beq_eq.mp c1, Nat.beq_eq.mp c2, c3, c4, hd, hl, a1, a2, Nat.ble_eq.mp a3, (Option.some.inj e9).symm⟩⟩
theorem paramsIn_cons {sc : List (Str × NameKind)} {p : Arg} {r : List Arg} {l : List (Nat × Bool)} (e : paramsIn sc (p :: r) = some l) : ∃ l' k b, l = (sid p.arg, b) :: l' ∧ paramsIn sc r = some l' ∧ kindOf p.arg sc = some k ∧ parKind k = some b := by
  obtain ⟨l', h1, e⟩ := ifO_nn (o := paramsIn sc r) e
  obtain ⟨k, h2, e⟩ := ifO_nn (o := kindOf p.arg sc) e
  obtain ⟨b, h3, e⟩ := ifO_nn (o := parKind k) e
  exact ⟨l', k, b, (Option.some.inj e).symm, h1, h2, h3⟩
theorem paramsIn_len {sc : List (Str × NameKind)} {ps : List Arg} : ∀ {l : List (Nat × Bool)}, paramsIn sc ps = some l → l.length = ps.length := by
  induction ps with
  | nil => intro l e; obtain rfl := Option.some.inj e; rfl
  | cons p r ih =>
    intro l e
    obtain ⟨l', k, b, rfl, h1, _, _⟩ := paramsIn_cons e
    rw [List.length_cons, List.length_cons, ih h1]
theorem parKind_eq {k : NameKind} {b : Bool} (e : parKind k = some b) : (b = true ∧ k = .cell) ∨ (b = false ∧ k = .local) := by
  cases k with
  | «local» => exact .inr ⟨(Option.some.inj e).symm, rfl⟩
  | cell => exact .inl ⟨(Option.some.inj e).symm, rfl⟩
  | _ => exact (nn e).elim
theorem paramsIn_along {sc : List (Str × NameKind)} {ps : List Arg} (henv : ∀ x k, sc.lookup x = some k → env.kindOf x = some k) : ∀ {l : List (Nat × Bool)}, paramsIn sc ps = some l → ParAlong env l (ps.map (·.arg)) := by
  induction ps with
  | nil => intro l e; obtain rfl := Option.some.inj e; trivial
  | cons p r ih =>
    intro l e
    obtain ⟨l', k, b, rfl, h1, h2, h3⟩ := paramsIn_cons e
    refine ⟨rfl, (kindOf_lookup h2).1, ?_, ih h1⟩
    rcases parKind_eq h3 with ⟨q, z⟩ | ⟨q, z⟩
    · exact .inl ⟨q, henv _ _ (z ▸ (kindOf_lookup h2).2)⟩
    · exact .inr ⟨q, henv _ _ (z ▸ (kindOf_lookup h2).2)⟩
theorem along_fst : ∀ {l : List (Nat × Bool)} {xs : List Str}, ParAlong env l xs → fstN l = xs.map sid
  | [], [], _ => rfl
  | p :: l, x :: xs, ⟨h1, _, _, h4⟩ => by
    show p.1 :: fstN l = sid x :: xs.map sid
    rw [h1, along_fst h4]
theorem nodup_of_map {xs : List Str} (h : (xs.map sid).Nodup) : xs.Nodup := List.Pairwise.of_map sid (fun _ _ q z => q (by rw [z])) h
theorem cellNs_ok {names : List (Str × NameKind)} : okNames names = true → ∀ x ∈ cellNs names, okS x = true := by
  induction names with
  | nil => intro _ x hx; exact (List.not_mem_nil hx).elim
  | cons p r ih =>
    intro e x hx
    obtain ⟨y, kd⟩ := p
    obtain ⟨h1, h2⟩ := ifB_ff (b := okKind y kd) e
    change x ∈ (if kd = .cell then y :: cellNs r else cellNs r) at hx
    by_cases q : kd = .cell
    · rw [if_pos q] at hx
      subst q
      rcases List.mem_cons.mp hx with rfl | hx
      · exact h1
      · exact ih h2 x hx
    · rw [if_neg q] at hx; exact ih h2 x hx
theorem dflts_of {K : Frag} {h' : Heap} (X : K.In h') {d : List V} {v : Value} (e : dfltsOf K v = some d) : ∃ ds : List Value, VsRel m d ds ∧ ((v = .none ∧ ds = []) ∨ ∃ T o n, v = .ref T ∧ h'.get? T = some o ∧ o.data = .seq ds.toArray n) := by
  have key : ifO (isFrag v) none (fun t => ifO (K.lookup t) none fun o => ifO (asSeq o) none fun xs => toVs xs.toList) = some d → ∃ ds : List Value, VsRel m d ds ∧ ((v = .none ∧ ds = []) ∨ ∃ T o n, v = .ref T ∧ h'.get? T = some o ∧ o.data = .seq ds.toArray n) := by
    intro e
    obtain ⟨T, h1, e⟩ := ifO_nn e
    obtain ⟨o, h2, e⟩ := ifO_nn e
    obtain ⟨xs, h3, e⟩ := ifO_nn e
    obtain ⟨c, dd, n, sl, rfl⟩ := asSeq_eq h3
    exact ⟨xs.toList, toVs_rel e, .inr ⟨T, _, n, isFrag_eq h1, X _ _ h2, by rw [Array.toArray_toList]⟩⟩
  cases v with
  | none => obtain rfl := Option.some.inj e; exact ⟨[], trivial, .inl ⟨rfl, rfl⟩⟩
  | _ => exact key e
end Sx
end
section
open PySem PySem.W PySem.Calls PyProof.Rows
namespace Sx
set_option maxRecDepth 100000
variable {G : Gl} {B : Base} {m : Wm} {st : St} {s : Shared} {A : Around} {env : Env} {E : Value → Shared → Prop} {n : Nat} {h : Ih} {c : Cx}
theorem Rel.enter2 {m2 : Wm} {st2 : St} {s1 : Shared} {L : Addr} {fr : List (Nat × V)} {f : Str → Option Value} (R : Rel G B m st s) (R2 : Rel G B m2 st2 s1) (l : m.Le m2) (hL : s.heap.get? L = none) (nL : L ∉ m2.ρ) (k : ∀ b o, s.heap.get? b = some o → s1.heap.get? b = some o)
    (nw : ∀ a ∈ m2.ρ, a ∈ m.ρ ∨ s.heap.get? a = none) (e : s1.heap.Ns L f) (hfr : ∀ x v, okS x = true → lk (sid x) fr = some v → ∃ w, f x = some w ∧ VRel m2 v w) : Rel G ⟨s.heap, m.ρ, L⟩ m2 ⟨st2.n, st2.k, st2.t, fr, st2.fd⟩ s1 := by
  have F := R.far hL
  refine { R2 with newer := nw, pre := fun _ h => l.mem h, keep := fun b o h _ _ _ => k b o h, loc := ⟨f, e, hfr⟩, locFar := nL, tblFar := ⟨R2.tblFar.1, F.tbl⟩, kb := ?_ }
  intro a o q
  obtain ⟨x, y, _, w⟩ := R.kbHere a o q
  exact ⟨x, y, (fun z => by rw [show a = L from z, hL] at x; (first | exact (ff x).elim | exact (nn x).elim | cases x)), w⟩
theorem cellNs_mem {x : Str} : ∀ {names : List (Str × NameKind)}, names.lookup x = some .cell → x ∈ cellNs names
  | [], e => by simp at e
  | (y, kd) :: r, e => by
    rw [List.lookup_cons] at e
    cases q : x == y with
    | true =>
      rw [q] at e
      (first | exact (ff e).elim | exact (nn e).elim | cases e)
      rw [beq_iff_eq.mp q]; exact .head _
    | false =>
      rw [q] at e
      have ih := cellNs_mem (names := r) e
      show x ∈ (if kd = .cell then y :: cellNs r else cellNs r)
      split
      · exact .tail _ ih
      · exact ih
theorem layAt_mem {x : Str} : ∀ (xs : List Str) (a : Nat) (acc : List (Str × Addr)), x ∈ xs → ∃ b, (x, b) ∈ layAt xs a acc
  | y :: r, a, acc, h => by
    cases h with
    | head => exact ⟨a, layAt_acc r (a + 1) _ (.head _)⟩
    | tail _ h => exact layAt_mem r (a + 1) _ h
theorem along_kind : ∀ {l : List (Nat × Bool)} {xs : List Str} {x : Str}, ParAlong env l xs → x ∈ xs → env.kindOf x = some .local ∨ env.kindOf x = some .cell
  | [], [], _, _, hx => by (first | exact (ff hx).elim | exact (nn hx).elim | cases hx)
  | p :: l, y :: ys, x, ⟨_, _, h3, h4⟩, hx => by
    cases hx with
    | head => rcases h3 with ⟨_, q⟩ | ⟨_, q⟩
              · exact .inr q
              · exact .inl q
    | tail _ hx => exact along_kind h4 hx
/-- what comes back to a caller -/
noncomputable def Ret (Q : Value → Shared → Prop) (r : Result) (s' : Shared) : Prop := match r with
  | .ok (.ret v) => Q v s'
  | _ => False
/-- with the caller's frame kept -/
theorem callFn_sound2 (g : GOk G) (IX : SXs G h n) {a : Addr} {f : Fn} {xs : List V} {vs : List Value} {k : V → St → Bool} {Q : Value → Shared → Prop} (hf : G.P.fn a = some f) (e : callFn h f xs k st = true) (hx : VsRel m xs vs) (R : Rel G B m st s) (O : Okay (n + 1) A)
    (C : ∀ m' a st' b s', m.Le m' → Rel G B m' st' s' → VRel m' a b → k a st' = true → (∀ o, s.heap.get? B.L = some o → s'.heap.get? B.L = some o) → Q b s') :
    codeAny (model G.prog G.w) A (.call (.ref a) ⟨vs, []⟩) (Ret Q) s := by
  obtain ⟨fd, b, ps, kwd, dfl, d, l, W⟩ := fn_of g hf
  obtain ⟨oc, od, sl, ho⟩ := W.at'
  have X := R.kin g
  have hfe := W.eq
  subst hfe
  obtain ⟨ds, hds, hdd⟩ := dflts_of (m := m) X W.dflts
  obtain ⟨args, e1, e2⟩ := ifO_ff e
  have lp := paramsIn_len W.pars
  have lds : d.length = ds.length := hds.length
  have lvs : xs.length = vs.length := hx.length
  -- the arguments and the defaults
  have hargs : vs.length ≤ ps.length ∧ ps.length - vs.length ≤ ds.length ∧ VsRel m args (fullOf ps.length vs ds) := by
    unfold fillArgs at e1
    dsimp only at e1
    cases c1 : Nat.beq xs.length l.length with
    | true =>
      rw [c1] at e1
      (first | exact (ff e1).elim | exact (nn e1).elim | cases e1)
      have := Nat.beq_eq.mp c1
      refine ⟨by omega, by omega, ?_⟩
      unfold fullOf
      rw [show ds.length - (ps.length - vs.length) = ds.length from by omega, List.drop_length, List.append_nil]
      exact hx
    | false =>
      rw [c1] at e1
      cases c2 : Nat.ble xs.length l.length with
      | false => rw [c2] at e1; (first | exact (ff e1).elim | exact (nn e1).elim | cases e1)
      | true =>
        rw [c2] at e1
        cases c3 : Nat.ble (l.length - xs.length) d.length with
        | false => rw [c3] at e1; (first | exact (ff e1).elim | exact (nn e1).elim | cases e1)
        | true =>
          rw [c3] at e1
          (first | exact (ff e1).elim | exact (nn e1).elim | cases e1)
          have c2 := Nat.ble_eq.mp c2
          have c3 := Nat.ble_eq.mp c3
          refine ⟨by omega, by omega, ?_⟩
          unfold fullOf
          rw [show ds.length - (ps.length - vs.length) = d.length - (l.length - xs.length) from by omega]
          exact hx.append (hds.drop _)
  obtain ⟨h1, h2, hfull⟩ := hargs
  have h3 : ds.length ≤ ps.length := by have := W.len; omega
  -- the frame to be
  have hL : s.heap.get? s.heap.objs.size = none := get?_size _
  have par : ∀ env : Env, env.scope = fd.scope → ParAlong env l (ps.map (·.arg)) := fun env he => paramsIn_along (fun x k q => by unfold Env.kindOf; rw [he]; exact q) W.pars
  have ndp : (ps.map (·.arg)).Nodup := nodup_of_map (by rw [← along_fst (par { scope := fd.scope, locals := 0, globals := 0, cells := [], qual := "", func := none, code := .none, frame := none, builtins := 0 } rfl)]; exact apart_nodup W.ap1)
  have lfull : (ps.map (·.arg)).length = (fullOf ps.length vs ds).length := by
    unfold fullOf; rw [List.length_map, List.length_append, List.length_drop]; omega
  have ndz : (((ps.map (·.arg)).zip (fullOf ps.length vs ds)).map (·.1)).Nodup := by rw [List.map_fst_zip (by omega)]; exact ndp
  have ndc : (cellNs fd.scope.names).Nodup := nodup_of_map (by rw [← cellsIn_eq]; exact apart_nodup W.ap2)
  refine codeAny_call_function (by have := O.d; omega) (X _ _ ho) rfl W.cor W.gen W.body (codeRec_of X W.code) (bindsTo_full W.params ndp hdd h1 h2 h3 _ _ _ _ ?_)
  rw [W.clo]
  refine wpAny_newFunctionEnv_cells W.kind (fun p hp => ?_) fun env he s1 I => ?_
  · have hm : p.1 ∈ ps.map (·.arg) := zip_keys (List.mem_map_of_mem (f := (·.1)) hp)
    rcases along_kind (par { scope := fd.scope, locals := 0, globals := 0, cells := [], qual := "", func := none, code := .none, frame := none, builtins := 0 } rfl) hm with q | q
    · exact .inl q
    · refine .inr ⟨q, ?_⟩
      rw [cellsFrom_eq]
      obtain ⟨b', hb⟩ := layAt_mem (cellNs fd.scope.names) (s.heap.objs.size + 1) [] (cellNs_mem q)
      rw [layAt_lookup (cellNs fd.scope.names) (s.heap.objs.size + 1) [] (fun _ _ z => by (first | exact (ff z).elim | exact (nn z).elim | cases z)) ndc List.nodup_nil _ hb]; rfl
  · subst he
    obtain ⟨hh1, tk, hs1⟩ := I.toInCall.same
    have kp := I.toInCall.keep
    refine ⟨(R.lim g).keeps kp, codeAny_func ?_⟩
    have cellsE : (newEnv fd.scope s.heap.objs.size fd.globals (cellsFrom (s.heap.objs.size + 1) fd.scope.names []) (fd.qualname ++ ".<locals>.") (some a) fd.code none fd.builtins).cells = layAt (cellNs fd.scope.names) (s.heap.objs.size + 1) [] := cellsFrom_eq _ _ _
    have R1 : Rel G B m st s1 := by rw [hs1] at kp ⊢; exact R.ext kp
    have isC : ∀ y a', (layAt (cellNs fd.scope.names) (s.heap.objs.size + 1) []).lookup y = some a' → s1.heap.IsCell a' (bindC (newEnv fd.scope s.heap.objs.size fd.globals (cellsFrom (s.heap.objs.size + 1) fd.scope.names []) (fd.qualname ++ ".<locals>.") (some a) fd.code none fd.builtins).kindOf ((ps.map (·.arg)).zip (fullOf ps.length vs ds)) (fun _ => none) y) := fun y a' q => I.cell y a' (by rw [cellsE]; exact q)
    have e3 := e2
    dsimp only at e3
    rw [cellsIn_eq] at e3
    obtain ⟨m2, st2, es, l2, R2, al, e4, f1, f2, nw⟩ := layCells_sound (cellNs fd.scope.names) (s.heap.objs.size + 1) [] [] m st _ e3 (cellNs_ok W.names) trivial R1
      (fun p hp => .inr ⟨_, isC p.1 p.2 (layAt_lookup (cellNs fd.scope.names) (s.heap.objs.size + 1) [] (fun _ _ z => by (first | exact (ff z).elim | exact (nn z).elim | cases z)) ndc List.nodup_nil _ hp)⟩)
      (fun b' hb' => by
        have hn : s.heap.get? b' = none := by
          cases q : s.heap.get? b' with
          | none => rfl
          | some o => exact absurd (Heap.lt_size q) (Nat.not_lt.mpr (Nat.le_of_succ_le hb'))
        have F := R.far hn
        exact ⟨F.ρ, F.L, F.tbl, F.h⟩)
      (fun p hp => by (first | exact (ff hp).elim | exact (nn hp).elim | cases hp))
    obtain ⟨st3, fr, R3, e5, _, hfr, f3, f4⟩ := layArgs_sound (env := newEnv fd.scope s.heap.objs.size fd.globals (cellsFrom (s.heap.objs.size + 1) fd.scope.names []) (fd.qualname ++ ".<locals>.") (some a) fd.code none fd.builtins)
      (f := bindL (newEnv fd.scope s.heap.objs.size fd.globals (cellsFrom (s.heap.objs.size + 1) fd.scope.names []) (fd.qualname ++ ".<locals>.") (some a) fd.code none fd.builtins).kindOf ((ps.map (·.arg)).zip (fullOf ps.length vs ds)) (fun _ => none))
      (cm := bindC (newEnv fd.scope s.heap.objs.size fd.globals (cellsFrom (s.heap.objs.size + 1) fd.scope.names []) (fd.qualname ++ ".<locals>.") (some a) fd.code none fd.builtins).kindOf ((ps.map (·.arg)).zip (fullOf ps.length vs ds)) (fun _ => none))
      (c := ⟨fd.scope, es, codeNum fd.code⟩) (ps0 := layAt (cellNs fd.scope.names) (s.heap.objs.size + 1) []) l (ps.map (·.arg)) args (fullOf ps.length vs ds) [] st2 _ e4 (par _ rfl) (hfull.mono l2) al R2
      (fun p hp => ⟨fun q => bindL_at q _ _ ndz (by simpa using hp), fun q => bindC_at q _ _ ndz (by simpa using hp)⟩) isC (fun _ _ _ z => by (first | exact (ff z).elim | exact (nn z).elim | cases z))
    have nL : s.heap.objs.size ∉ m2.ρ := fun z => by
      rcases nw _ z with y | y
      · exact (R.far hL).ρ y
      · exact absurd y (by omega)
    have R4 := R.enter2 (L := s.heap.objs.size) (fr := fr) R3 l2 hL nL kp (fun b' hb' => by
      rcases nw _ hb' with y | y
      · exact .inl y
      · right
        cases q : s.heap.get? b' with
        | none => rfl
        | some o => exact absurd (Heap.lt_size q) (Nat.not_lt.mpr (Nat.le_of_succ_le y))) I.toInCall.ns hfr
    have E4 : EnvOk m2 ⟨fd.scope, es, codeNum fd.code⟩ (newEnv fd.scope s.heap.objs.size fd.globals (cellsFrom (s.heap.objs.size + 1) fd.scope.names []) (fd.qualname ++ ".<locals>.") (some a) fd.code none fd.builtins) := by
      refine ⟨W.kind, fun x q => (kindOf_lookup q).2, fun x q => ?_, fun x q => (kindOf_lookup q).2, fun x j ox hj => ?_, W.glob, W.bui, codeNum_ok _⟩
      · rcases q with q | q
        · exact .inl (kindOf_lookup q).2
        · exact .inr (kindOf_lookup q).2
      · obtain ⟨a', q1, q2⟩ := al.look ox hj
        exact ⟨a', q1, by rw [cellsE]; exact q2⟩
    have OA : Okay n (A.deeper (newEnv fd.scope s.heap.objs.size fd.globals (cellsFrom (s.heap.objs.size + 1) fd.scope.names []) (fd.qualname ++ ".<locals>.") (some a) fd.code none fd.builtins)) := ⟨O.hn, by have := O.d; show A.depth + 1 + n + 8 < _; omega, by have := O.u; show A.units + 3 + 8 * n + 80 < _; omega⟩
    refine IX ⟨s.heap, m.ρ, s.heap.objs.size⟩ m2 ⟨fd.scope, es, codeNum fd.code⟩ b _ _ s1 _ _ _ _ e5 E4 rfl R4 OA fun m5 r st5 fl s5 l5 R5 r5 e6 => ?_
    have R6 := R.leave (l2.trans l5) R5 hL
    have kL : ∀ o, s.heap.get? B.L = some o → s5.heap.get? B.L = some o := fun o eo => R5.keep B.L o eo R.locFar (fun q => by dsimp only at q; rw [q, hL] at eo; (first | exact (ff eo).elim | exact (nn eo).elim | cases eo)) R.tblFar.2
    rw [show st.fr = st3.fr from (f3.trans f1).symm] at R6
    cases r with
    | next =>
      have r5 : fl = .next := r5
      subst r5
      exact C m5 .none _ .none s5 (l2.trans l5) R6 rfl e6 kL
    | ret w =>
      obtain ⟨v, rfl, r6⟩ := r5
      exact C m5 w _ v s5 (l2.trans l5) R6 r6 e6 kL
theorem callFn_sound (g : GOk G) (IX : SXs G h n) {a : Addr} {f : Fn} {xs : List V} {vs : List Value} {k : V → St → Bool} {Q : Value → Shared → Prop} (hf : G.P.fn a = some f) (e : callFn h f xs k st = true) (hx : VsRel m xs vs) (R : Rel G B m st s) (O : Okay (n + 1) A) (C : Cont G B m VRel k Q) :
    codeAny (model G.prog G.w) A (.call (.ref a) ⟨vs, []⟩) (Ret Q) s := callFn_sound2 g IX hf e hx R O fun m' a st' b s' l R' r e' _ => C m' a st' b s' l R' r e'
end Sx
end
section
open PySem PySem.W PySem.Calls PyProof.Rows
namespace Sx
set_option maxRecDepth 100000
variable {G : Gl} {B : Base} {m : Wm} {st : St} {s : Shared} {A : Around} {env : Env} {E : Value → Shared → Prop} {n : Nat} {h : Ih} {c : Cx}
/-- calls of the text's own functions, as code -/
noncomputable def SFn (G : Gl) (h : Ih) (n : Nat) : Prop := ∀ (B : Base) (m : Wm) (a : Addr) (f : Fn) (xs : List V) (k : V → St → Bool) (st : St) (s : Shared) (A : Around) (vs : List Value) (Q : Value → Shared → Prop),
  G.P.fn a = some f → h.cl (.old a) xs k st = true → VsRel m xs vs → Rel G B m st s → Okay n A → Cont G B m VRel k Q → codeAny (model G.prog G.w) A (.call (.ref a) ⟨vs, []⟩) (Ret Q) s
theorem init_of (g : GOk G) {C i : Addr} (e : G.P.init C = some i) : makesIn G.K C = true ∧ findIn G.K (.ref C) "__init__" = some (some (.ref i)) ∧ typeIn G.K (.ref i) = some (.type "function") ∧ ∃ f, G.P.fn i = some f := by
  obtain ⟨sm, hp⟩ := g.pg
  have e' : initIn G.K C = some i := by rw [hp] at e; exact e
  obtain ⟨hm, e1⟩ := ifB_nn (b := makesIn G.K C) e'
  obtain ⟨f, hf, e2⟩ := ifO_nn (o := methIn G.K C "__init__") e1
  obtain ⟨fn, hfn, e3⟩ := ifO_nn (o := mkFn G.K f) e2
  obtain rfl := Option.some.inj e3
  have hf' : G.P.meth C "__init__" = some f := by rw [hp]; exact hf
  obtain ⟨_, h2, h3, _⟩ := meth_of g hf'
  exact ⟨hm, h2, h3, fn, by rw [hp]; exact hfn⟩
theorem under_room {C : Addr} {rest : List Value} (O : Okay (n + 1) A) : Okay n (A.under (.builtin "type.__call__" ⟨.ref C :: rest, []⟩)) := by
  have hd := O.d
  have hu := O.u
  refine ⟨O.hn, ?_, ?_⟩
  · show A.depth + (Code.builtin "type.__call__" ⟨.ref C :: rest, []⟩).weight + n + 8 < recursionLimit
    have : (Code.builtin "type.__call__" ⟨.ref C :: rest, []⟩).weight ≤ 1 := by
      have : (Code.builtin "type.__call__" ⟨.ref C :: rest, []⟩).weight = (Code.builtin "type.__call__" ⟨[.ref 0], []⟩).weight := rfl
      rw [this]
      decide +kernel
    omega
  · show A.units + (Code.builtin "type.__call__" ⟨.ref C :: rest, []⟩).cUnits + 8 * n + 80 < cLine
    have : (Code.builtin "type.__call__" ⟨.ref C :: rest, []⟩).cUnits ≤ 6 := by
      have : (Code.builtin "type.__call__" ⟨.ref C :: rest, []⟩).cUnits = (Code.builtin "type.__call__" ⟨[.ref 0], []⟩).cUnits := rfl
      rw [this]
      decide +kernel
    omega
theorem callCls_sound (g : GOk G) (IF : SFn G h n) {C i : Addr} {xs : List V} {vs : List Value} {k : V → St → Bool} {Q : Value → Shared → Prop} (hi : G.P.init C = some i) (e : callCls h C i xs k st = true) (hx : VsRel m xs vs) (R : Rel G B m st s) (O : Okay (n + 1) A) (Ck : Cont G B m VRel k Q) :
    codeAny (model G.prog G.w) A (.call (.ref C) ⟨vs, []⟩) (Ret Q) s := by
  obtain ⟨hm, hf, ht, fn, hfn⟩ := init_of g hi
  have X := R.kin g
  obtain ⟨z1, e1⟩ := ifB_ff (b := Nat.blt st.n 512) e
  obtain ⟨z2, e2⟩ := ifB_ff e1
  have z2 := Nat.blt_eq.mp z2
  obtain ⟨hh, gg, dr, tt, os⟩ := s
  refine make_core (makes_of X hm) (looks_findIn X hf) (fun self => bind_fn X self ht) (.inl rfl) ?_
  have hd : hh.get? hh.objs.size = none := get?_size hh
  have kx : ∀ b o, hh.get? b = some o → ((hh.push emptyDict).push (instObj C hh.objs.size)).get? b = some o := fun b o q => Heap.get?_push_of_some _ (Heap.get?_push_of_some _ q)
  have hxn : hh.get? (hh.objs.size + 1) = none := by
    cases q : hh.get? (hh.objs.size + 1) with
    | none => rfl
    | some o => exact absurd (Heap.lt_size q) (Nat.not_lt.mpr (Nat.le_succ _))
  have atx : ((hh.push emptyDict).push (instObj C hh.objs.size)).get? (hh.objs.size + 1) = some (instObj C hh.objs.size) := by
    have := Heap.get?_push_size (hh.push emptyDict) (o := instObj C hh.objs.size) rfl
    rwa [Heap.size_push] at this
  have ned : Nz ((hh.push emptyDict).push (instObj C hh.objs.size)) hh.objs.size (fun _ => none) 0 :=
    ⟨emptyDict, #[], 0, Heap.get?_push_of_some _ (Heap.get?_push_size _ rfl), rfl, fun _ he => by simp at he, fun _ => rfl, Nat.le_refl _⟩
  have R1 := R.addInst (t := tt) (C := C) hd hxn (Nat.ne_of_lt (Nat.lt_succ_self _)) z2 kx ned atx rfl
  have l1 := (m.le_add hh.objs.size).trans ((m.add hh.objs.size).le_add (hh.objs.size + 1))
  have atI : ((m.add hh.objs.size).add (hh.objs.size + 1)).ρ[st.n + 1]? = some (hh.objs.size + 1) := by
    have := (m.add hh.objs.size).add_at (hh.objs.size + 1)
    rwa [show (m.add hh.objs.size).ρ.length = st.n + 1 from by show (m.ρ ++ [hh.objs.size]).length = _; rw [List.length_append, R.len]; rfl] at this
  refine codeAny_mono (IF B _ i fn (.ref (st.n + 1) :: xs) _ _ _ _ (.ref (hh.objs.size + 1) :: vs) (fun v s' => v = .none ∧ Q (.ref (hh.objs.size + 1)) s') hfn e2 ⟨⟨_, atI, rfl⟩, hx.mono l1⟩ R1 (under_room O) fun m2 a st2 v s2 l2 R2 r2 e3 => ?_) fun r s' hr => ?_
  · cases a with
    | none => exact ⟨r2, Ck m2 (.ref (st.n + 1)) st2 _ s2 (l1.trans l2) R2 ⟨_, l2.at atI, rfl⟩ e3⟩
    | _ => (first | exact (ff e3).elim | exact (nn e3).elim | cases e3)
  · rcases r with e | (v | _ | _ | _) <;> first | exact hr.elim | exact hr
end Sx
end
section
open PySem PySem.W PySem.Calls PyProof.Rows
namespace Sx
set_option maxRecDepth 100000
variable {G : Gl} {B : Base} {m : Wm} {st : St} {s : Shared} {A : Around} {env : Env} {E : Value → Shared → Prop} {n : Nat} {h : Ih} {c : Cx}
/-- a call of what is built in -/
noncomputable def BiOk (G : Gl) (b : Bi) : Prop := ∀ (B : Base) (m : Wm) (xs : List V) (k : V → St → Bool) (st : St) (s : Shared) (A : Around) (vs : List Value) (Q : Value → Shared → Prop) (E : Value → Shared → Prop),
  callBi G.P b xs k st = true → VsRel m xs vs → Rel G B m st s → A.handled = none → Cont G B m VRel k Q → wpAny (model G.prog G.w) A (call b.val vs) Q E s
theorem one_rel {x : V} {vs : List Value} (h : VsRel m [x] vs) : ∃ v, vs = [v] ∧ VRel m x v := by
  match vs, h with
  | [v], ⟨a, _⟩ => exact ⟨v, rfl, a⟩
theorem two_rel {x y : V} {vs : List Value} (h : VsRel m [x, y] vs) : ∃ v w, vs = [v, w] ∧ VRel m x v ∧ VRel m y w := by
  match vs, h with
  | [v, w], ⟨a, b, _⟩ => exact ⟨v, w, rfl, a, b⟩
theorem o_list {f : List V → Bool} {o : O} (e : (match o with | .list xs => f xs | _ => false) = true) : ∃ xs, o = .list xs ∧ f xs = true := by
  cases o <;> first | exact ⟨_, rfl, e⟩ | exact (ff e).elim
theorem seen_at (R : Rel G B m st s) {i : Nat} {a : Addr} {o : O} (hi : m.ρ[i]? = some a) (h : st.t.get i = some o) : ∃ ob, Seen G m st s (.ref i) o a ob := by
  obtain ⟨o', ob, S, e⟩ := look_sound (k := fun _ _ => true) R hi (show ifO (st.t.get i) false (fun _ => true) = true by rw [h])
  have := (S.idx i rfl).2.symm.trans h
  cases this
  exact ⟨ob, S⟩
theorem Seen.noMods (g : GOk G) (R : Rel G B m st s) {v : V} {es : List (V × V)} {a : Addr} {ob : Obj} {k : O → St → Bool} (S : Seen G m st s v (.dict es) a ob) (e : lookV G.P v k st = true) : (a == sysModules) = false := by
  cases v with
  | ref i => exact R.noMods g (S.mem rfl)
  | old c => obtain ⟨xs, z⟩ := S.old c rfl; exact O.noConfusion z
  | _ => exact (ff e).elim
theorem cb_append {P : Pg} {xs : List V} {k : V → St → Bool} (e : callBi P .append xs k st = true) : ∃ i v ys, xs = [.ref i, v] ∧ st.t.get i = some (.list ys) ∧ short ys = true ∧ store i (.list (ys ++ [v])) (fun _ s => k .none s) st = true := by
  rcases xs with _ | ⟨v0, _ | ⟨v, _ | ⟨v3, xs⟩⟩⟩
  · exact (ff e).elim
  · cases v0 <;> exact (ff e).elim
  · cases v0 with
    | ref i =>
      have e' : ifO (st.t.get i) false (fun o => match o with
        | .list xs => ifB (short xs) (store i (.list (xs ++ [v])) (fun _ s => k .none s) st) false
        | _ => false) = true := e
      obtain ⟨o, h1, h2⟩ := ifO_ff e'
      obtain ⟨ys, rfl, h3⟩ := o_list (f := fun xs => ifB (short xs) (store i (.list (xs ++ [v])) (fun _ s => k .none s) st) false) h2
      obtain ⟨h4, h5⟩ := ifB_ff h3
      exact ⟨i, v, ys, rfl, h1, h4, h5⟩
    | _ => exact (ff e).elim
  · cases v0 <;> exact (ff e).elim
theorem cb_pop {P : Pg} {xs : List V} {k : V → St → Bool} (e : callBi P .pop xs k st = true) : ∃ i y, xs = [.ref i] ∧ st.t.get i = some (.list [y]) ∧ store i (.list []) (fun _ s => k y s) st = true := by
  rcases xs with _ | ⟨v0, _ | ⟨v, xs⟩⟩
  · exact (ff e).elim
  · cases v0 with
    | ref i =>
      have e' : ifO (st.t.get i) false (fun o => match o with
        | .list xs => match xs with
          | [x] => store i (.list []) (fun _ s => k x s) st
          | _ => false
        | _ => false) = true := e
      obtain ⟨o, h1, h2⟩ := ifO_ff e'
      obtain ⟨ys, rfl, h3⟩ := o_list (f := fun xs => match xs with
          | [x] => store i (.list []) (fun _ s => k x s) st
          | _ => false) h2
      rcases ys with _ | ⟨y, _ | ⟨y2, ys⟩⟩
      · exact (ff h3).elim
      · exact ⟨i, y, rfl, h1, h3⟩
      · exact (ff h3).elim
    | _ => exact (ff e).elim
  · cases v0 <;> exact (ff e).elim
theorem cb_extend {P : Pg} {xs : List V} {k : V → St → Bool} (e : callBi P .extend xs k st = true) : ∃ i j zs, xs = [.ref i, .ref j] ∧ st.t.get i = some (.list []) ∧ st.t.get j = some (.list zs) ∧ short zs = true ∧ store i (.list zs) (fun _ s => k .none s) st = true := by
  rcases xs with _ | ⟨v0, _ | ⟨v, _ | ⟨v3, xs⟩⟩⟩
  · exact (ff e).elim
  · cases v0 <;> exact (ff e).elim
  · cases v0 with
    | ref i =>
      cases v with
      | ref j =>
        have e' : ifO (st.t.get i) false (fun o => ifO (st.t.get j) false fun o' => match o with
          | .list xs => match o' with
            | .list ys => match xs with
              | [] => ifB (short ys) (ifB (Nat.beq i j) false (store i (.list ys) (fun _ s => k .none s) st)) false
              | _ => false
            | _ => false
          | _ => false) = true := e
        obtain ⟨o, h1, h2⟩ := ifO_ff e'
        obtain ⟨o', h1', h2'⟩ := ifO_ff h2
        cases o with
        | list ys =>
          cases o' with
          | list zs =>
            cases ys with
            | nil =>
              obtain ⟨h5, h6⟩ := ifB_ff (b := short zs) h2'
              have h7 : store i (.list zs) (fun _ s => k .none s) st = true := by
                cases q : Nat.beq i j with
                | true => rw [q] at h6; exact (ff h6).elim
                | false => rw [q] at h6; exact h6
              exact ⟨i, j, zs, rfl, h1, h1', h5, h7⟩
            | cons => exact (ff h2').elim
          | _ => exact (ff h2').elim
        | _ => exact (ff h2').elim
      | _ => exact (ff e).elim
    | _ => cases v <;> exact (ff e).elim
  · cases v0 <;> first | exact (ff e).elim | (cases v <;> exact (ff e).elim)
theorem cb_range {P : Pg} {xs : List V} {k : V → St → Bool} (e : callBi P .rangeT xs k st = true) : (∃ N, xs = [.int N] ∧ newRef (.rng 0 N) k st = true) ∨ ∃ M N, xs = [.int M, .int N] ∧ newRef (.rng M N) k st = true := by
  rcases xs with _ | ⟨v0, _ | ⟨v, _ | ⟨v3, xs⟩⟩⟩
  · exact (ff e).elim
  · cases v0 with
    | int N => exact .inl ⟨N, rfl, (ifB_ff (b := small N) e).2⟩
    | _ => exact (ff e).elim
  · cases v0 with
    | int M =>
      cases v with
      | int N => exact .inr ⟨M, N, rfl, (ifB_ff (b := small N) (ifB_ff (b := small M) e).2).2⟩
      | _ => exact (ff e).elim
    | _ => exact (ff e).elim
  · cases v0 <;> first | exact (ff e).elim | (cases v <;> exact (ff e).elim)
theorem bi_len (g : GOk G) : BiOk G .len := by
  intro B m xs k st s A vs Q E e hx R hh C
  rcases xs with _ | ⟨v, _ | ⟨v2, xs⟩⟩ <;> try (first | exact (ff e).elim | exact (nn e).elim | cases e)
  obtain ⟨w, rfl, hv⟩ := one_rel hx
  obtain ⟨o, a, ob, rfl, S, e1⟩ := lookV_sound g R hv e
  have fin : ∀ (N : Nat) (t : Tok) (tk : Nat), k (.int N) st = true → Q (.int N t) { s with toks := tk } := fun N t tk e2 => C m (.int N) st _ _ (Wm.Le.refl m) (R.toks tk) ⟨t, rfl⟩ e2
  cases o with
  | list ys =>
    obtain ⟨items, hl, _, r⟩ := S.list
    obtain ⟨h1, e2⟩ := ifB_ff (b := short ys) e1
    have z := short_le h1 r
    have lz := r.arr
    rw [lz] at e2
    exact call_len_list hl (by omega) (fin _ _ _ e2)
  | fix ob0 ys =>
    obtain ⟨items, hl, r⟩ := S.fix
    obtain ⟨h1, e2⟩ := ifB_ff (b := short ys) e1
    have z := short_le h1 r
    have lz := r.arr
    rw [lz] at e2
    exact call_len_list hl (by omega) (fin _ _ _ e2)
  | tup ys =>
    obtain ⟨items, ht, r⟩ := S.tup
    obtain ⟨h1, e2⟩ := ifB_ff (b := short ys) e1
    have z := short_le h1 r
    have lz := r.arr
    rw [lz] at e2
    exact PyProof.Rows.len_tuple ht (by omega) (fin _ _ _ e2)
  | dict es =>
    obtain ⟨h1, e2⟩ := ifB_ff (b := Nat.ble es.length 10000) e1
    have h1 := Nat.ble_eq.mp h1
    have nm := S.noMods g R e
    rcases S.rel with ⟨kvs, d1, d2⟩ | ⟨kvs, d1, d2⟩
    · have l := d2.len
      rw [l] at e2
      exact call_len_dict nm (d1.at S.at_) (by omega) (fin _ _ _ e2)
    · have l := d2.len
      rw [l] at e2
      exact call_len_dict nm (d1.at S.at_) (by omega) (fin _ _ _ e2)
  | _ => (first | exact (ff e1).elim | exact (nn e1).elim | cases e1)
theorem bi_range : BiOk G .rangeT := by
  intro B m xs k st s A vs Q E e hx R hh C
  rcases cb_range e with ⟨N, rfl, e1⟩ | ⟨M, N, rfl, e1⟩
  · obtain ⟨w, rfl, t, rfl⟩ := one_rel hx
    exact call_range_1 (newRef_sound R (t := s.toks + 1 + 1) e1 rfl rfl ⟨_, _, _, rfl⟩ C)
  · obtain ⟨w, w', rfl, ⟨t, rfl⟩, ⟨u, rfl⟩⟩ := two_rel hx
    exact call_range_2 (newRef_sound R (t := s.toks + 1) e1 rfl rfl ⟨_, _, _, rfl⟩ C)
theorem bi_append : BiOk G .append := by
  intro B m xs k st s A vs Q E e hx R hh C
  obtain ⟨i, v, ys, rfl, h0, h1, e2⟩ := cb_append e
  obtain ⟨w, z, rfl, ⟨a, hi, rfl⟩, hz⟩ := two_rel hx
  obtain ⟨ob, S⟩ := seen_at R hi h0
  obtain ⟨items, _, hl, r⟩ := S.list
  have sz := short_le h1 r
  refine wpAny_list_append_plain hl (fun h' hp hs => ?_) (by rw [sizeLine_eq]; omega)
  obtain ⟨n', hp⟩ := hp
  have hr : VsRel m (ys ++ [v]) (items.push z).toList := by rw [Array.toList_push]; exact r.append ⟨hz, trivial⟩
  have ho : ORel G m st.fd h' (.list (ys ++ [v])) { cls := .type "list", data := .seq (items.push z) n' } := ⟨_, n', rfl, hr⟩
  exact C _ .none _ _ _ (Wm.Le.refl m) (R.upd (t := s.toks) hi h0 rfl rfl (fun b o nb q => hs.extBut b o nb q) hp ho) rfl e2
theorem bi_pop : BiOk G .pop := by
  intro B m xs k st s A vs Q E e hx R hh C
  obtain ⟨i, y, rfl, h0, e1⟩ := cb_pop e
  obtain ⟨w, rfl, ⟨a, hi, rfl⟩⟩ := one_rel hx
  obtain ⟨ob, S⟩ := seen_at R hi h0
  obtain ⟨items, n', rfl, r⟩ := S.rel
  obtain ⟨v1, hv, r1⟩ := one_rel r
  obtain ⟨l⟩ := items
  obtain rfl : l = [v1] := hv
  refine call_meets PySem.F.slot_list_pop ⟨_, S.at_, rfl⟩ PySem.F.entry_list_pop (PySem.F.args_list_pop_1 _) (PySem.MeetsSeq.list_pop_last a #[v1] n' v1 rfl (by show 1 ≤ _; rw [sizeLine_eq]; omega)) ⟨S.at_, ?_⟩
  have hs : Heap.SameBut a s.heap (s.heap.update a (Obj.mapSeq fun xs => xs.eraseIdxIfInBounds (#[v1].size - 1))) := Heap.SameBut.update ..
  have hp := Heap.get?_update_self (Obj.mapSeq fun xs => xs.eraseIdxIfInBounds (#[v1].size - 1)) S.at_ rfl
  have ho : ORel G m st.fd (s.heap.update a (Obj.mapSeq fun xs => xs.eraseIdxIfInBounds (#[v1].size - 1))) (.list []) (Obj.mapSeq (fun xs => xs.eraseIdxIfInBounds (#[v1].size - 1)) { cls := .type "list", data := .seq #[v1] n' }) := ⟨_, _, rfl, by show VsRel m [] (#[v1].eraseIdxIfInBounds 0).toList; rw [show (#[v1].eraseIdxIfInBounds 0).toList = [] by simp [Array.eraseIdxIfInBounds]]; trivial⟩
  exact C _ y _ _ _ (Wm.Le.refl m) (R.upd (t := s.toks) hi h0 rfl rfl (fun b o nb q => hs.extBut b o nb q) hp ho) r1 e1
theorem bi_extend : BiOk G .extend := by
  intro B m xs k st s A vs Q E e hx R hh C
  obtain ⟨i, j, zs, rfl, h0, h0', h1, e4⟩ := cb_extend e
  obtain ⟨w, w', rfl, ⟨a, hi, rfl⟩, ⟨b, hj, rfl⟩⟩ := two_rel hx
  obtain ⟨ob, S⟩ := seen_at R hi h0
  obtain ⟨ob', S'⟩ := seen_at R hj h0'
  obtain ⟨items, n', rfl, r⟩ := S.rel
  obtain ⟨items2, n2, rfl, r2⟩ := S'.rel
  obtain ⟨l⟩ := items
  cases l with
  | cons => exact r.elim
  | nil =>
    have sz := short_le h1 r2
    refine call_meets PySem.F.slot_list_extend ⟨_, S.at_, rfl⟩ PySem.F.entry_list_extend (PySem.F.args_list_extend_2 _ _)
      (PySem.AutoSeq1.list_extend_list_list_0 a #[] n' b items2 n2 (by simp) (Nat.zero_le _) (by show 0 + items2.size ≤ _; rw [sizeLine_eq]; omega)) ⟨S.at_, S'.at_, ?_⟩
    have hs : Heap.SameBut a s.heap (s.heap.update a (Obj.mapSeq fun xs => xs ++ items2)) := Heap.SameBut.update ..
    have hp := Heap.get?_update_self (Obj.mapSeq fun xs => xs ++ items2) S.at_ rfl
    have ho : ORel G m st.fd (s.heap.update a (Obj.mapSeq fun xs => xs ++ items2)) (.list zs) (Obj.mapSeq (fun xs => xs ++ items2) { cls := .type "list", data := .seq #[] n' }) := ⟨#[] ++ items2, _, rfl, by rw [Array.empty_append]; exact r2⟩
    exact C _ .none _ _ _ (Wm.Le.refl m) (R.upd (t := s.toks) hi h0 rfl rfl (fun b o nb q => hs.extBut b o nb q) hp ho) rfl e4
end Sx
end
section
open PySem PySem.W PySem.Calls PyProof.Rows
open AutoSeq1 (wpAny_loadPart')
namespace Sx
set_option maxRecDepth 100000
section
variable {prog : Program} {w : World} {A : Around} {E : Value → Shared → Prop} {s : Shared}
/-- what collect does, when the list's own growing is known -/
theorem collect_of {it : Addr} {Q : List Value → Shared → Prop}
    (k : ∀ R : Result → Shared → Prop, (∀ h' tk acc c', (∀ b o, s.heap.get? b = some o → h'.get? b = some o) → h'.get? s.heap.objs.size = some { cls := .type "list", dict := none, data := .seq acc c', slots := #[] } → Q acc.toList { s with heap := h', toks := tk } → R (.ok (.ret (.ref s.heap.objs.size))) { s with heap := h', toks := tk }) →
      wpAny (model prog w) A.in1 (Builtin.List.listExtendWith (.ref s.heap.objs.size) (.ref it) (.ref s.heap.objs.size))
        (fun fin s' => match fin with | .done f => R (.ok f) s' | .again c' => c'.quiet = true ∧ codeAny (model prog w) A c' R s') (fun e s' => R (.error e) s') { s with heap := s.heap.push { cls := .type "list", data := .seq #[] 0 } }) :
    wpAny (model prog w) A (collect (.ref it)) Q E s := by
  unfold collect
  refine wpAny_bind (wpAny_runValue (codeAny_builtin F.entry_proto_collect ?_))
  rw [Around.under_plainId F.plain_proto_collect _]
  show wpAny _ A.in1 (newList [] >>= fun l => again (.builtin "list.__iadd__" ⟨[l, .ref it], []⟩)) _ _ s
  refine wpAny_bind (wpAny_newObj_type ?_)
  refine wpAny_pure ⟨plainId_quiet F.plain_list_iadd _, codeAny_builtin F.entry_list_iadd ?_⟩
  rw [Around.under_plainId F.plain_list_iadd _]
  show wpAny _ A.in1 (Builtin.List.listExtendWith (.ref s.heap.objs.size) (.ref it) (.ref s.heap.objs.size)) _ _ _
  refine wpAny_mono (k (fun r s' => ∃ h' tk acc c', r = .ok (.ret (.ref s.heap.objs.size)) ∧ s' = { s with heap := h', toks := tk } ∧ h'.get? s.heap.objs.size = some { cls := .type "list", dict := none, data := .seq acc c', slots := #[] } ∧ Q acc.toList { s with heap := h', toks := tk })
    (fun h' tk acc c' _ e q => ⟨h', tk, acc, c', rfl, rfl, e, q⟩)) (fun fin s' h => ?_) (fun e s' h => ?_)
  · have fin' : ∀ h' tk acc c', h'.get? s.heap.objs.size = some { cls := .type "list", dict := none, data := .seq acc c', slots := #[] } → Q acc.toList { s with heap := h', toks := tk } → wpAny (model prog w) A (match Value.ref s.heap.objs.size with
      | Value.ref a => do
        match (← load a).data with
          | Data.seq xs _ => pure xs.toList
          | _ => unsupported "internal:collect"
      | _ => unsupported "internal:collect") Q E { s with heap := h', toks := tk } := fun h' tk acc c' e q => by
      show wpAny _ A (load s.heap.objs.size >>= _) _ _ _
      exact wpAny_bind (wpAny_load e (wpAny_pure q))
    cases fin with
    | done f =>
      obtain ⟨h', tk, acc, c', e, rfl, h1, q⟩ := h
      (first | exact (ff e).elim | exact (nn e).elim | cases e)
      exact fin' h' tk acc c' h1 q
    | again c' =>
      refine ⟨h.1, codeAny_mono h.2 fun r s'' hr => ?_⟩
      obtain ⟨h', tk, acc, c', rfl, rfl, h1, q⟩ := hr
      exact fin' h' tk acc c' h1 q
  · obtain ⟨_, _, _, _, e, _⟩ := h; (first | exact (ff e).elim | exact (nn e).elim | cases e)
theorem collect_range {r : Addr} {a b c : Int} {t u v : Tok} {n : Nat} {Q : List Value → Shared → Prop} (hh : A.handled = none) (hr : IsRange s.heap r a b c t u v) (hsmall : Builtin.Range.small a b c = true)
    (hn : Builtin.Range.rangeSize a b c = n) (hlen : n ≤ 2 ^ 24)
    (q : ∀ h' tk acc, (∀ b o, s.heap.get? b = some o → h'.get? b = some o) → ItemsOf (fun i v => ∃ t, v = .int (a + i * c) t) acc n → Q acc.toList { s with heap := h', toks := tk }) :
    wpAny (model prog w) A (collect (.ref r)) Q E s := by
  refine collect_of fun R k => ?_
  refine wpAny_extend_range (s := { s with heap := s.heap.push { cls := .type "list", data := .seq #[] 0 } }) hh (Heap.get?_push_of_some _ hr) hsmall hn hlen _ _ 0 (Heap.get?_push_size _ rfl) fun h' tk acc' c' kp e ha => ?_
  have kp' : ∀ b o, s.heap.get? b = some o → h'.get? b = some o := fun b o e => kp b o (Nat.ne_of_lt (Heap.lt_size e)) (Heap.get?_push_of_some _ e)
  exact k h' tk acc' c' kp' e (q h' tk acc' kp' ha)
theorem tuple_of_range {r : Addr} {a b c : Int} {t u v : Tok} {n : Nat} (hsmall : Builtin.Range.small a b c = true) (hn : Builtin.Range.rangeSize a b c = n) (hlen : n ≤ 10000) :
    Meets (Builtin.«tuple.__new__» ⟨[.type "tuple", .ref r], []⟩)
      (fun A R s => A.handled = none ∧ IsRange s.heap r a b c t u v ∧ ∀ (h' : Heap) (tk : Nat) (acc : Array Value), (∀ b o, s.heap.get? b = some o → h'.get? b = some o) → ItemsOf (fun i v => ∃ t, v = .int (a + i * c) t) acc n →
        R (.ok (.ret (.ref h'.objs.size))) { s with heap := h'.push { cls := .type "tuple", data := .seq acc }, toks := tk }) :=
  .of_wp fun prog w A R s h => by
    obtain ⟨hh, hr, h⟩ := h
    have hsub := sub_tuple_self
    have hinit := init_tuple_lookup
    have hmh := madeHere_tuple
    have hT : s.TypeIs (.ref r) "range" := ⟨_, hr, rfl⟩
    have hh1 : A.in1.handled = none := hh
    wp_walk using wpAny_typeOf hT, collect_range hh1 hr hsmall hn (Nat.le_trans hlen (by decide))
    intro h' tk acc hk hacc
    show wpAny _ _ (Builtin.Tuple.tupleExact acc.toList.toArray >>= fun v => ret v) _ _ _
    unfold Builtin.Tuple.tupleExact
    refine wpAny_bind (wpAny_newObj_type ?_ (show acc.toList.toArray.size ≤ sizeLine by simp only [Array.toArray_toList]; rw [hacc.1, sizeLine_eq]; omega))
    refine wpAny_pure ⟨_, rfl, ?_⟩
    have e : acc.toList.toArray = acc := by simp
    rw [e]
    exact h h' tk acc hk hacc
theorem call_tuple_of_range {r : Addr} {a b c : Int} {t u v : Tok} {n : Nat} {Q : Value → Shared → Prop} (hh : A.handled = none) (hr : IsRange s.heap r a b c t u v) (hsmall : Builtin.Range.small a b c = true) (hn : Builtin.Range.rangeSize a b c = n) (hlen : n ≤ 10000)
    (q : ∀ (h' : Heap) (tk : Nat) (acc : Array Value), (∀ b o, s.heap.get? b = some o → h'.get? b = some o) → ItemsOf (fun i v => ∃ t, v = .int (a + i * c) t) acc n → Q (.ref h'.objs.size) { s with heap := h'.push { cls := .type "tuple", data := .seq acc }, toks := tk }) :
    wpAny (model prog w) A (call (.type "tuple") [.ref r]) Q E s :=
  callType_new F.called_tuple (by decide) (F.typeCall_tuple_1 _) (F.newCall_tuple_1 _) (fun obj => F.args_object_init_2 obj _) F.entry_tuple_new
    (tuple_of_range hsmall hn hlen) ⟨hh, hr, fun h' tk acc hk ha => ⟨⟨_, Heap.get?_push_size _ rfl, rfl⟩, q h' tk acc hk ha⟩⟩
end
end Sx
end
section
open PySem PySem.W PySem.Calls PyProof.Rows
open AutoSeq1 (wpAny_loadPart')
namespace Sx
set_option maxRecDepth 100000
section
variable {prog : Program} {w : World} {A : Around} {E : Value → Shared → Prop} {s : Shared}
theorem hint_dict {K : Type} [DecidableEq K] {knd : PySem.KeyKind prog w K} {d : Addr} {kvs : List (K × Value)} {Q : Bool → Shared → Prop} (nm : (d == sysModules) = false) (hm : s.heap.DictOf knd d kvs) (hl : kvs.length ≤ 10000)
    (h : ∀ b tk, Q b { s with toks := tk }) : wpAny (model prog w) A (Builtin.List.listLengthHint (.ref d)) Q E s := by
  unfold Builtin.List.listLengthHint
  refine wpAny_bind (wpAny_specialOf hm.typeIs PySem.F.slot_dict_len.lookup ?_)
  generalize hid : ("dict.__len__" : String) = id0
  wp_delta
  rw [show splitId id0 = some ("dict", "__len__") from by subst hid; decide +kernel]
  subst hid
  refine wpAny_bind (wpAny_isInstance (T := "dict") (b := true) hm.typeIs (by rw [isSubtype_type]; kernel_rfl) ?_)
  refine wpAny_ite_split (fun hab => absurd hab (by decide)) (fun _ => ?_)
  refine wpAny_ite_split (fun _ => ?_) (fun hab => absurd (by decide +kernel) hab)
  exact wpAny_bind (wpAny_typeOf hm.typeIs (wpAny_pure (h _ _)))
theorem extend_dict {K : Type} [DecidableEq K] {knd : PySem.KeyKind prog w K} {R : Result → Shared → Prop} {d : Addr} {kvs : List (K × Value)} (hh : A.handled = none) (nm : (d == sysModules) = false) (hm : s.heap.DictOf knd d kvs) (hl : kvs.length ≤ 10000)
    (S : Addr) (res : Value) (c₀ : Nat) (hS : s.heap.get? S = some { cls := .type "list", data := .seq #[] c₀ })
    (hR : ∀ h' tk acc' c', (∀ b o, b ≠ S → s.heap.get? b = some o → h'.get? b = some o) → h'.get? S = some { cls := .type "list", dict := none, data := .seq acc' c', slots := #[] } →
      ItemsOf (fun i v => ∃ k x, kvs[i]? = some (k, x) ∧ knd.is k v = true) acc' kvs.length → R (.ok (.ret res)) { s with heap := h', toks := tk }) :
    wpAny (model prog w) A.in1 (Builtin.List.listExtendWith (.ref S) (.ref d) res)
      (fun fin s' => match fin with | .done f => R (.ok f) s' | .again c' => c'.quiet = true ∧ codeAny (model prog w) A c' R s') (fun e s' => R (.error e) s') s := by
  obtain ⟨ep, hd⟩ := hm.dictAt
  have hSd : S ≠ d := fun e => by
    obtain ⟨o, es, ho, hx, _⟩ := hd
    rw [← e, hS] at ho; (first | exact (ff ho).elim | exact (nn ho).elim | cases ho)
    have z := hx.1
    simp at z
  have hSlt : S < s.heap.objs.size := Heap.lt_size hS
  have hSI : S ≠ s.heap.objs.size := Nat.ne_of_lt hSlt
  have hdI : d ≠ s.heap.objs.size := Nat.ne_of_lt hd.lt_size
  have hSf : S ∉ [s.heap.objs.size, d] := fun hm => by
    rcases List.mem_cons.mp hm with e | hm
    · exact hSI e
    · exact hSd (List.mem_singleton.mp hm)
  have W := (Walks.dictKeys (prog := prog) (w := w) (A := A.in1) (knd := knd) hh s.heap.objs.size d hdI kvs ep).toS
  have key : ∀ (h : Heap) (c₁ tk : Nat), h.IsKeyIter s.heap.objs.size d 0 kvs.length ep → h.DictAt knd d kvs ep → (∀ b o, b ≠ S → s.heap.get? b = some o → h.get? b = some o) →
      h.get? S = some { cls := .type "list", data := .seq #[] c₁ } → codeAny (model prog w) A (.builtin "list.extend.loop" ⟨[.ref S, .ref s.heap.objs.size, res], []⟩) R { s with heap := h, toks := tk } := by
    intro h c₁ tk hit hdt hk hS₁
    refine codeAny_extend_loopS W (by rw [sizeLine_eq]; omega) S hSf res kvs.length 0 _ #[] c₁ rfl (Nat.zero_le _) ⟨hit, hdt⟩ hS₁ (ItemsOf.nil _) fun s' acc' c' hm hS' hacc => ?_
    rw [Moved.eq_with hm]
    refine hR s'.heap s'.toks acc' c' (fun b o hb e => hm.heap b o (fun hmem => ?_) (hk b o hb e)) hS' hacc
    rcases List.mem_cons.mp hmem with e' | hmem
    · exact hb e'
    · exact absurd (Heap.lt_size e) (by rw [List.mem_singleton.mp hmem]; exact Nat.lt_irrefl _)
  unfold Builtin.List.listExtendWith
  refine wpAny_bind (wpAny_typeOf (T := "dict") hm.typeIs ?_)
  have h1 : Builtin.List.listSameRef (.ref S) (.ref d) = false := by simp [Builtin.List.listSameRef, hSd]
  have h2 : (Value.type "dict" == Value.type "list") = false := by decide
  have h3 : (Value.type "dict" == Value.type "tuple") = false := by decide
  simp only [h1, h2, h3, Bool.or_false, Bool.false_eq_true, if_false]
  refine wpAny_bind (wpAny_pyIter_dict nm hd ?_)
  have hd1 := hd.push { cls := .type "dict_keyiterator", data := .fields #[.ref d, .int 0 0, .int kvs.length 0, .int ep 0] }
  refine wpAny_bind (wpAny_holding (hint_dict nm hd1.dictOf hl fun bb tk => ?_))
  have hit₁ : (s.heap.push { cls := .type "dict_keyiterator", data := .fields #[.ref d, .int 0 0, .int kvs.length 0, .int ep 0] }).IsKeyIter s.heap.objs.size d 0 kvs.length ep := ⟨_, Heap.get?_push_size _ rfl, rfl, rfl⟩
  have hS₁ := Heap.get?_push_of_some { cls := .type "dict_keyiterator", data := .fields #[.ref d, .int 0 0, .int kvs.length 0, .int ep 0] } hS
  refine wpAny_ite_split (fun _ => ?_) (fun _ => wpAny_pure ⟨plainId_quiet PySem.F.plain_extend_loop _, key _ c₀ _ hit₁ hd1 (fun b o _ e => Heap.get?_push_of_some _ e) hS₁⟩)
  refine wpAny_bind (wpAny_rule ?_)
  refine wpAny_bind ?_
  show wpAny _ _ (updateSeq S (·.push .none) >>= fun _ => updateSeq S (·.pop)) _ _ _
  refine wpAny_bind (wpAny_updateSeq hS₁ rfl ?_)
  have hS₂ := Heap.get?_update_self (Obj.mapSeq (·.push Value.none)) hS₁ rfl
  refine wpAny_updateSeq (hz := by seq_fits) hS₂ rfl ?_
  have hS₃ := Heap.get?_update_self (Obj.mapSeq (·.pop)) hS₂ rfl
  refine wpAny_pure ⟨plainId_quiet PySem.F.plain_extend_loop _, key _ _ _ ?_ ?_ (fun b o hb e => ?_) hS₃⟩
  · exact hit₁.at fun o e => (Heap.get?_update_other _ _ hSI).trans ((Heap.get?_update_other _ _ hSI).trans e)
  · exact hd1.at' fun o e => (Heap.get?_update_other _ _ hSd).trans ((Heap.get?_update_other _ _ hSd).trans e)
  · exact (Heap.get?_update_other _ _ (Ne.symm hb)).trans ((Heap.get?_update_other _ _ (Ne.symm hb)).trans (Heap.get?_push_of_some _ e))
theorem collect_dict {K : Type} [DecidableEq K] {knd : PySem.KeyKind prog w K} {d : Addr} {kvs : List (K × Value)} {Q : List Value → Shared → Prop} (hh : A.handled = none) (nm : (d == sysModules) = false) (hm : s.heap.DictOf knd d kvs) (hl : kvs.length ≤ 10000)
    (q : ∀ h' tk acc, (∀ b o, s.heap.get? b = some o → h'.get? b = some o) → ItemsOf (fun i v => ∃ k x, kvs[i]? = some (k, x) ∧ knd.is k v = true) acc kvs.length → Q acc.toList { s with heap := h', toks := tk }) :
    wpAny (model prog w) A (collect (.ref d)) Q E s := by
  refine collect_of fun R k => ?_
  obtain ⟨ep, hd⟩ := hm.dictAt
  have hd1 := hd.push { cls := .type "list", data := .seq #[] 0 }
  refine extend_dict (s := { s with heap := s.heap.push { cls := .type "list", data := .seq #[] 0 } }) hh nm hd1.dictOf hl _ _ 0 (Heap.get?_push_size _ rfl) fun h' tk acc' c' kp e ha => ?_
  have kp' : ∀ b o, s.heap.get? b = some o → h'.get? b = some o := fun b o e => kp b o (Nat.ne_of_lt (Heap.lt_size e)) (Heap.get?_push_of_some _ e)
  exact k h' tk acc' c' kp' e (q h' tk acc' kp' ha)
theorem sorted_one_key {d : Addr} {x : Str} {y : Value} {Q : Value → Shared → Prop} (hh : A.handled = none) (nm : (d == sysModules) = false) (hm : s.heap.DictOf (PySem.strKind prog w) d [(x, y)])
    (q : ∀ h' tk a v t, (∀ b o, s.heap.get? b = some o → h'.get? b = some o) → s.heap.get? a = none → h'.get? a = some { cls := .type "list", data := .seq #[.str x t] v } → Q (.ref a) { s with heap := h', toks := tk }) :
    wpAny (model prog w) A (call (.builtin "sorted") [.ref d]) Q E s := by
  refine call_function_entry kind_sorted plain_sorted entry_sorted (args_sorted1 _) ?_
  unfold Builtin.«sorted»
  refine wpAny_bind (m := checkCount "sorted" 1 1 _) (wpAny_pure ?_)
  refine wpAny_bind (collect_dict hh nm hm (by simp) fun h' tk acc kp ha => ?_)
  have hacc : ∃ t, acc = #[.str x t] := by
    obtain ⟨l, hl⟩ := ha
    obtain ⟨acc⟩ := acc
    rcases acc with _ | ⟨v, _ | ⟨v2, acc⟩⟩
    · (first | exact (ff l).elim | exact (nn l).elim | cases l)
    · obtain ⟨k, z, e1, e2⟩ := hl 0 v rfl
      simp at e1
      obtain ⟨rfl, rfl⟩ := e1
      obtain ⟨t, rfl⟩ := PySem.Value.isStrOf_shape e2
      exact ⟨t, rfl⟩
    · simp at l
  obtain ⟨t, rfl⟩ := hacc
  refine wpAny_bind (wpAny_newList ?_)
  have hoL : (h'.push (seqObj "list" #[.str x t] 0)).get? h'.objs.size = some (seqObj "list" #[.str x t] 0) := Heap.get?_push_size _ rfl
  have hn : s.heap.get? h'.objs.size = none := by
    cases z : s.heap.get? h'.objs.size with
    | none => rfl
    | some o => exact absurd (Heap.lt_size (kp _ _ z)) (Nat.lt_irrefl _)
  refine wpAny_bind (wpAny_holding (wpAny_call_entry slot_list_sort ⟨_, hoL, rfl⟩ entry_list_sort (list_sort_treeK strKind_oneLt (vs := [.str x t]) hoL (StrsAre.cons x t .nil).keysOf (fun v₁ v₂ rest e => by (first | exact (ff e).elim | exact (nn e).elim | cases e)) (by simp) fun st' a1 a2 => ⟨_, rfl, ?_⟩) (args_list_sort _)))
  refine wpAny_pure ⟨_, rfl, ?_⟩
  have hout : (arrOf st').map (·.2) = #[.str x t] := by
    have l : (arrOf st').toList.Perm [(.str x t, .str x t)] := by
      have := Array.perm_iff_toList_perm.mp a1
      rw [pairsOf_toList] at this; exact this
    have e := List.perm_singleton.mp l
    apply Array.toList_inj.mp
    rw [Array.toList_map, e]; rfl
  rw [hout]
  obtain ⟨v, hv⟩ := sortedHeap_at (vs := [.str x t]) (out := #[.str x t]) hoL
  refine q _ _ _ v t (fun b o e => ?_) hn hv
  have e1 := kp b o e
  have lt := Heap.lt_size e1
  rw [sortedHeap_old (Nat.ne_of_lt lt) (by rw [size_push']; exact Nat.lt_succ_of_lt lt)]
  exact Heap.get?_push_of_some _ e1
end
end Sx
end
section
open PySem PySem.W PySem.Calls PyProof.Rows
open AutoSeq1 (wpAny_loadPart')
namespace Sx
set_option maxRecDepth 100000
variable {G : Gl} {B : Base} {m : Wm} {st : St} {s : Shared} {A : Around} {env : Env} {E : Value → Shared → Prop} {n : Nat} {h : Ih} {c : Cx}
namespace FB2
theorem slot_frozenset_init : Slot "frozenset" "__init__" "object.__init__" :=
  .of (owner := "object") (n := "__init__") (by rw [typeLookup_type, builtinLookup_eq_fast]; kernel_rfl) (by decide +kernel) (by decide +kernel) (by decide +kernel)
    (by first | exact .inl (by decide +kernel) | exact .inr (by decide +kernel)) (by rw [isSubtype_type]; kernel_rfl)
theorem mro_frozenset : mroOf (.type "frozenset") = pure [.type "frozenset", .type "object"] := by rw [mroOf_type]; kernel_rfl
theorem lookup_frozenset_new : typeLookup (.type "frozenset") "__new__" = pure (some (.builtin "frozenset.__new__")) := by rw [typeLookup_type, builtinLookup_eq_fast]; kernel_rfl
theorem called_frozenset : TypeCalled "frozenset" "frozenset.__new__" "object.__init__" :=
  ⟨by decide +kernel, by decide +kernel, ⟨_, _, mro_frozenset⟩, madeBy_type mro_frozenset lookup_frozenset_new (by decide +kernel), by decide +kernel, by rw [isSubtype_type]; kernel_rfl, slot_frozenset_init⟩
theorem typeCall_frozenset_1 (a : Value) : checkTypeCall "frozenset" ⟨[a], []⟩ = pure () := by kernel_rfl
theorem newCall_frozenset_1 (a : Value) : checkBuiltinCall "frozenset.__new__" ⟨[.type "frozenset", a], []⟩ = pure () := by kernel_rfl
theorem entry_frozenset_new : entryFor table "frozenset.__new__" = some Builtin.«frozenset.__new__» := entryFor_of_tree (by kernel_rfl)
theorem init_frozenset_lookup : typeLookup (.type "frozenset") "__init__" = pure (some (.builtin "object.__init__")) := slot_frozenset_init.lookup
theorem sub_frozenset_self : isSubtype (.type "frozenset") (.type "frozenset") = pure true := by rw [isSubtype_type]; kernel_rfl
end FB2
theorem fset_of_dict {d : Addr} {o : Obj} {es : Array DictEntry} {ep : Nat} (hc : o.cls = .type "dict") (hd : o.data = .dict es ep) (h0 : es.size = 0) (nm : (d == sysModules) = false) :
    Meets (Builtin.«frozenset.__new__» ⟨[.type "frozenset", .ref d], []⟩)
      (fun _ R s => s.heap.get? d = some o ∧ ∀ led : Bool, R (.ok (.ret (.ref s.heap.objs.size))) { s with heap := s.heap.push { cls := .type "frozenset", dict := none, data := .set #[] 0 (.fresh 0 0 led) } }) :=
  .of_wp fun prog w A R s h => by
    obtain ⟨ho, h⟩ := h
    obtain ⟨oc, odict, odata, oslots⟩ := o
    dsimp only at hc hd
    subst hc hd
    have hsub := FB2.sub_frozenset_self
    have hinit := FB2.init_frozenset_lookup
    have hT : s.TypeIs (.ref d) "dict" := ⟨_, ho, rfl⟩
    have h1 := PySem.F.sub_dict_set
    have h2 := PySem.F.sub_dict_frozenset
    have hne : (Value.type "dict" == Value.type "frozenset") = false := by decide
    unfold Builtin.«frozenset.__new__» Builtin.Frozenset.newClass
    wp_walk using wpAny_typeOf hT
    refine wpAny_askSetting (wpAny_pure ?_)
    dsimp only
    simp only [newObj]
    refine wpAny_bind (wpAny_alloc (wpAny_pure ?_))
    have ho' : ∀ x : Obj, (s.heap.push x).get? d = some _ := fun x => Heap.get?_push_of_some _ ho
    unfold Builtin.Frozenset.addrOf Builtin.Frozenset.updateFrom
    have hT' : ∀ x : Obj, Shared.TypeIs { s with heap := s.heap.push x } (.ref d) "dict" := fun x => ⟨_, ho' x, rfl⟩
    have hne2 : (Value.type "dict" == Value.type "dict") = true := by decide
    wp_walk using wpAny_typeOf (hT' _), wpAny_loadPart' (ho' _)
    have he : es = #[] := Array.eq_empty_of_size_eq_zero h0
    subst he
    refine wpAny_pure ?_
    refine wpAny_bind (wpAny_dictEntries (ho' _) rfl ?_)
    show wpAny _ _ (forIn [:0] PUnit.unit _ >>= _) _ _ _
    rw [Std.Legacy.Range.forIn_eq_forIn_range']
    refine wpAny_bind (wpAny_pure ?_)
    exact wpAny_pure (wpAny_pure (wpAny_pure ⟨_, rfl, h _⟩))
theorem bi_fset (g : GOk G) : BiOk G .fsetT := by
  intro B m xs k st s A vs Q E e hx R hh C
  rcases xs with _ | ⟨v, _ | ⟨v2, xs⟩⟩ <;> try (first | exact (ff e).elim | exact (nn e).elim | cases e)
  obtain ⟨w, rfl, hv⟩ := one_rel hx
  obtain ⟨o, a, ob, rfl, S, e1⟩ := lookV_sound g R hv e
  cases o with
  | dict es =>
    rcases es with _ | ⟨p, es⟩
    · have nm : (a == sysModules) = false := by
        cases v with
        | ref i => exact R.noMods g (S.mem rfl)
        | old c => obtain ⟨xs, z⟩ := S.old c rfl; (first | exact (ff z).elim | exact (nn z).elim | cases z)
        | _ => (first | exact (ff e).elim | exact (nn e).elim | cases e)
      have hk : ∃ es ep, ob.cls = .type "dict" ∧ ob.data = .dict es ep ∧ es.size = 0 := by
        rcases S.rel with ⟨kvs, ⟨d1, es, ep, d2, _, d3, _⟩, d4⟩ | ⟨kvs, ⟨d1, es, ep, d2, _, d3, _⟩, d4⟩
        · refine ⟨es, ep, d1.1, d2, ?_⟩
          have := d4.len; have := d3.length; simp_all
        · refine ⟨es, ep, d1.1, d2, ?_⟩
          have := d4.len; have := d3.length; simp_all
      obtain ⟨es, ep, hc, hd, h0⟩ := hk
      refine callType_new FB2.called_frozenset (by decide) (FB2.typeCall_frozenset_1 _) (FB2.newCall_frozenset_1 _) (fun obj => F.args_object_init_2 obj _) FB2.entry_frozenset_new
        (fset_of_dict hc hd h0 nm) ⟨S.at_, fun led => ⟨⟨_, Heap.get?_push_size _ rfl, rfl⟩, ?_⟩⟩
      exact newRef_sound R (t := s.toks) e1 rfl rfl ⟨0, _, rfl, rfl⟩ C
    · (first | exact (ff e1).elim | exact (nn e1).elim | cases e1)
  | _ => (first | exact (ff e1).elim | exact (nn e1).elim | cases e1)
theorem cb_str {P : Pg} {i : Int} {k : V → St → Bool} (e : callBi P .strT [.int i] k st = true) : iEq i 1 = true ∧ k (.str 50) st = true := by
  have e' : (match iEq i 1 with | true => EM.ret (V.str 50) | false => EM.fail) k st = true := e
  cases q : iEq i 1 with
  | true => rw [q] at e'; exact ⟨rfl, e'⟩
  | false => rw [q] at e'; exact (ff e').elim
theorem bi_str : BiOk G .strT := by
  intro B m xs k st s A vs Q E e hx R hh C
  rcases xs with _ | ⟨v, _ | ⟨v2, xs⟩⟩ <;> try (first | exact (ff e).elim | exact (nn e).elim | cases e)
  · (first | exact (ff v).elim | exact (nn v).elim | cases v) <;> try (first | exact (ff e).elim | exact (nn e).elim | cases e)
    rename_i i
    obtain ⟨w, rfl, t, rfl⟩ := one_rel hx
    obtain ⟨h1, e⟩ := cb_str e
    have h2 : i = 1 := by rw [iEq_eq] at h1; exact of_decide_eq_true h1
    subst h2
    refine P.str_of_int (by decide +kernel) ?_
    exact C m (.str 50) st _ _ (Wm.Le.refl m) (R.toks (s.toks + 1)) ⟨_, _, by decide +kernel, by decide +kernel, rfl⟩ e
  · (first | exact (ff v).elim | exact (nn v).elim | cases v) <;> (first | exact (ff e).elim | exact (nn e).elim | cases e)
theorem bi_list (g : GOk G) : BiOk G .listT := by
  intro B m xs k st s A vs Q E e hx R hh C
  rcases xs with _ | ⟨v, _ | ⟨v2, xs⟩⟩ <;> try (first | exact (ff e).elim | exact (nn e).elim | cases e)
  obtain ⟨w, rfl, hv⟩ := one_rel hx
  obtain ⟨o, a, ob, rfl, S, e1⟩ := lookV_sound g R hv e
  have fin : ∀ (ys : List V) (items : Array Value) (T : String) (nn : Nat), T = "list" ∨ T = "tuple" → ob.cls = .type T → ob.data = .seq items nn → short ys = true → VsRel m ys items.toList → newRef (.list ys) k st = true →
      wpAny (model G.prog G.w) A (call (.type "list") [.ref a]) Q E s := fun ys items T nn hT hc hd sh r e2 => by
    have sz := short_le sh r
    obtain ⟨h1, e3⟩ := ifB_ff (b := Nat.blt st.n 512) e2
    refine call_list_seq a hT S.at_ hc hd (fun h' c' kp e4 => ?_) (by rw [sizeLine_eq]; omega)
    have ho : ORel G (m.add s.heap.objs.size) st.fd h' (.list ys) { cls := .type "list", dict := none, data := .seq items c', slots := #[] } := ⟨_, _, rfl, r.mono (m.le_add _)⟩
    refine C _ (.ref st.n) _ _ _ (m.le_add _) (R.add (t := s.toks) (get?_size _) (Nat.blt_eq.mp h1) rfl kp e4 ho) ⟨_, ?_, rfl⟩ e3
    rw [← R.len]; exact m.add_at _
  cases o with
  | list ys =>
    obtain ⟨items, nn, rfl, r⟩ := S.rel
    obtain ⟨h1, e2⟩ := ifB_ff (b := short ys) e1
    exact fin ys items "list" nn (.inl rfl) rfl rfl h1 r e2
  | tup ys =>
    obtain ⟨hc, items, nn, hd, r⟩ := S.rel
    obtain ⟨h1, e2⟩ := ifB_ff (b := short ys) e1
    exact fin ys items "tuple" nn (.inr rfl) hc hd h1 r e2
  | _ => (first | exact (ff e1).elim | exact (nn e1).elim | cases e1)
theorem upTo_get : ∀ (n : Nat) (acc : List V) (lo : Int) (i : Nat), nthV (upTo n acc lo) i = if i < n then some (.int (lo + i)) else nthV acc (i - n)
  | 0, acc, lo, i => by simp [upTo]
  | n + 1, acc, lo, i => by
    rw [upTo, upTo_get n]
    by_cases h : i < n
    · rw [if_pos h, if_pos (Nat.lt_succ_of_lt h)]
    · rw [if_neg h]
      by_cases h2 : i = n
      · subst h2; rw [if_pos (Nat.lt_succ_self _), Nat.sub_self]; rfl
      · rw [if_neg (by omega)]
        obtain ⟨j, hj⟩ : ∃ j, i - n = j + 1 := ⟨i - n - 1, by omega⟩
        rw [hj, show i - (n + 1) = j by omega]; rfl
theorem upTo_len : ∀ (n : Nat) (acc : List V) (lo : Int), (upTo n acc lo).length = n + acc.length
  | 0, acc, lo => by simp [upTo]
  | n + 1, acc, lo => by rw [upTo, upTo_len n, List.length_cons]; omega
theorem rel_of_nth {m : Wm} : ∀ {xs : List V} {vs : List Value}, xs.length = vs.length → (∀ i x v, nthV xs i = some x → vs[i]? = some v → VRel m x v) → VsRel m xs vs
  | [], [], _, _ => trivial
  | x :: xs, v :: vs, l, h => ⟨h 0 x v rfl rfl, rel_of_nth (by simpa using l) fun i x v a b => h (i + 1) x v a (by simpa using b)⟩
theorem bi_tup (g : GOk G) : BiOk G .tupT := by
  intro B m xs k st s A vs Q E e hx R hh C
  rcases xs with _ | ⟨v, _ | ⟨v2, xs⟩⟩ <;> try (first | exact (ff e).elim | exact (nn e).elim | cases e)
  obtain ⟨w, rfl, hv⟩ := one_rel hx
  obtain ⟨o, a, ob, rfl, S, e1⟩ := lookV_sound g R hv e
  obtain ⟨ys, e2, e3⟩ := ifO_ff e1
  cases o with
  | list xs =>
    obtain ⟨its, hl, _, r⟩ := S.list
    obtain ⟨h1, e4⟩ : Nat.ble xs.length 10000 = true ∧ ys = xs := by
      unfold items at e2
      dsimp only at e2
      cases q : Nat.ble xs.length 10000 <;> rw [q] at e2 <;> (first | exact (ff e2).elim | exact (nn e2).elim | cases e2)
      exact ⟨rfl, rfl⟩
    subst e4
    have sz := short_le (xs := ys) h1 r
    refine call_tuple_list hl (fun h' kp => ?_) (by rw [sizeLine_eq]; omega)
    exact newRef_sound (R.ext (t := s.toks) kp) (t := s.toks) e3 rfl rfl ⟨rfl, _, _, rfl, r.mono (m.le_add _)⟩ C
  | rng lo hi =>
    obtain ⟨t, u, z, rfl⟩ := S.rel
    unfold items at e2
    dsimp only at e2
    cases q1 : small lo <;> rw [q1] at e2 <;> try (first | exact (ff e2).elim | exact (nn e2).elim | cases e2)
    cases q2 : small hi <;> rw [q2] at e2 <;> try (first | exact (ff e2).elim | exact (nn e2).elim | cases e2)
    cases q3 : iLt (hi - lo) 100 <;> rw [q3] at e2 <;> try (first | exact (ff e2).elim | exact (nn e2).elim | cases e2)
    have b1 := small_of q1
    have b2 := small_of q2
    rw [iLt_lt] at q3
    have b3 := of_decide_eq_true q3
    have hsm : Builtin.Range.small lo hi 1 = true := PySem.small_one (by omega) (by omega) (by omega) (by omega)
    have hn : Builtin.Range.rangeSize lo hi 1 = ((hi - lo).toNat : Nat) := by
      rw [rangeSize_one]; split <;> omega
    refine call_tuple_of_range hh S.at_ hsm hn (by omega) fun h' tk acc kp ha => ?_
    refine newRef_sound (R.ext (t := tk) kp) (t := tk) e3 rfl rfl ⟨rfl, _, _, rfl, ?_⟩ C
    obtain ⟨l, hl⟩ := ha
    refine rel_of_nth ?_ fun i x v p1 p2 => ?_
    · unfold rngItems; rw [upTo_len]; simp [l]
    · unfold rngItems at p1
      rw [upTo_get] at p1
      split at p1
      · (first | exact (ff p1).elim | exact (nn p1).elim | cases p1)
        obtain ⟨t, rfl⟩ := hl i v (by simpa using p2)
        exact ⟨t, by rw [Int.mul_one]⟩
      · (first | exact (ff p1).elim | exact (nn p1).elim | cases p1)
  | _ => (first | exact (ff e2).elim | exact (nn e2).elim | cases e2)
theorem bi_sorted (g : GOk G) : BiOk G .sorted := by
  intro B m xs k st s A vs Q E e hx R hh C
  rcases xs with _ | ⟨v, _ | ⟨v2, xs⟩⟩ <;> try (first | exact (ff e).elim | exact (nn e).elim | cases e)
  obtain ⟨w, rfl, hv⟩ := one_rel hx
  obtain ⟨o, a, ob, rfl, S, e1⟩ := lookV_sound g R hv e
  cases o with
  | dict es =>
    rcases es with _ | ⟨⟨kx, y⟩, _ | ⟨p2, es⟩⟩
    · (first | exact (ff e1).elim | exact (nn e1).elim | cases e1)
    · (first | exact (ff kx).elim | exact (nn kx).elim | cases kx) <;> try (first | exact (ff e1).elim | exact (nn e1).elim | cases e1)
      rename_i n'
      have nm : (a == sysModules) = false := by
        cases v with
        | ref i => exact R.noMods g (S.mem rfl)
        | old c => obtain ⟨xs, z⟩ := S.old c rfl; (first | exact (ff z).elim | exact (nn z).elim | cases z)
        | _ => (first | exact (ff e).elim | exact (nn e).elim | cases e)
      rcases S.rel with ⟨kvs, d1, d2⟩ | ⟨kvs, d1, d2⟩
      · rcases kvs with _ | ⟨⟨k', y'⟩, _ | ⟨p2, kvs⟩⟩
        · (first | exact (ff d2).elim | exact (nn d2).elim | cases d2)
        · obtain ⟨⟨ok, ek⟩, hy, _⟩ := d2
          (first | exact (ff ek).elim | exact (nn ek).elim | cases ek)
          obtain ⟨h1, e2⟩ := ifB_ff (b := Nat.blt st.n 512) e1
          refine sorted_one_key hh nm (d1.at S.at_) fun h' tk a' nn t kp hf hat => ?_
          have ho : ORel G (m.add a') st.fd h' (.list [.str (sid k')]) { cls := .type "list", data := .seq #[.str k' t] nn } := ⟨_, _, rfl, ⟨k', t, ok, rfl, rfl⟩, trivial⟩
          refine C _ (.ref st.n) _ _ _ (m.le_add _) (R.add (t := tk) hf (Nat.blt_eq.mp h1) rfl kp hat ho) ⟨_, ?_, rfl⟩ e2
          rw [← R.len]; exact m.add_at _
        · exact d2.2.2.elim
      · rcases kvs with _ | ⟨⟨k', y'⟩, kvs⟩
        · (first | exact (ff d2).elim | exact (nn d2).elim | cases d2)
        · obtain ⟨ek, _⟩ := d2; (first | exact (ff ek).elim | exact (nn ek).elim | cases ek)
    · (first | exact (ff kx).elim | exact (nn kx).elim | cases kx) <;> (first | exact (ff e1).elim | exact (nn e1).elim | cases e1)
  | list ys =>
    rcases ys with _ | ⟨y, _ | ⟨y2, ys⟩⟩
    · (first | exact (ff e1).elim | exact (nn e1).elim | cases e1)
    · (first | exact (ff y).elim | exact (nn y).elim | cases y) <;> try (first | exact (ff e1).elim | exact (nn e1).elim | cases e1)
      rename_i i
      obtain ⟨its, hl, _, r⟩ := S.list
      obtain ⟨l⟩ := its
      rcases l with _ | ⟨v1, _ | ⟨v2, l⟩⟩
      · (first | exact (ff r).elim | exact (nn r).elim | cases r)
      · obtain ⟨⟨t, rfl⟩, _⟩ := r
        obtain ⟨h1, e2⟩ := ifB_ff (b := Nat.blt st.n 512) e1
        refine sorted_ints (vs := [.int i t]) (ns := [i]) hl (.cons i t .nil) (by simp) fun out ns' a1 a2 a3 => ?_
        have e3 := List.perm_singleton.mp a2
        subst e3
        obtain ⟨e', he⟩ := sortedAll_at s.heap [.int i t] out
        obtain ⟨out⟩ := out
        have hout : ∃ t', out = [.int i t'] := by
          change IntsAre out [i] at a1
          cases a1 with
          | cons _ t' r => (first | exact (ff r).elim | exact (nn r).elim | cases r); exact ⟨t', rfl⟩
        obtain ⟨t', rfl⟩ := hout
        have hf : s.heap.get? (s.heap.objs.size + 1) = none := by
          cases q : s.heap.get? (s.heap.objs.size + 1) with
          | none => rfl
          | some o => exact absurd (Heap.lt_size q) (Nat.not_lt.mpr (Nat.le_succ _))
        have ho : ORel G (m.add (s.heap.objs.size + 1)) st.fd (sortedAll s.heap [.int i t] #[.int i t']) (.list [.int i]) (seqObj "list" #[.int i t'] e') := ⟨_, _, rfl, ⟨t', rfl⟩, trivial⟩
        refine C _ (.ref st.n) _ _ _ (m.le_add _) (R.add (t := s.toks) hf (Nat.blt_eq.mp h1) rfl (fun _ _ => sortedAll_old) he ho) ⟨_, ?_, rfl⟩ e2
        rw [← R.len]; exact m.add_at _
      · exact r.2.elim
    · (first | exact (ff y).elim | exact (nn y).elim | cases y) <;> (first | exact (ff e1).elim | exact (nn e1).elim | cases e1)
  | _ => (first | exact (ff e1).elim | exact (nn e1).elim | cases e1)
theorem bi_max : BiOk G .max := by
  intro B m xs k st s A vs Q E e hx R hh C
  rcases xs with _ | ⟨v, _ | ⟨v2, _ | ⟨v3, xs⟩⟩⟩
  · (first | exact (ff e).elim | exact (nn e).elim | cases e)
  · (first | exact (ff v).elim | exact (nn v).elim | cases v) <;> (first | exact (ff e).elim | exact (nn e).elim | cases e)
  · (first | exact (ff v).elim | exact (nn v).elim | cases v) <;> try (first | exact (ff e).elim | exact (nn e).elim | cases e)
    (first | exact (ff v2).elim | exact (nn v2).elim | cases v2) <;> try (first | exact (ff e).elim | exact (nn e).elim | cases e)
    rename_i i j
    obtain ⟨w, w', rfl, ⟨t, rfl⟩, ⟨u, rfl⟩⟩ := two_rel hx
    have e' : k (.int (ifB (iLt i j) j i)) st = true := e
    refine max_two_ints hh fun h' tk kp => ?_
    have R' : Rel G B m st { s with heap := h', toks := tk } := R.ext kp
    rw [iLt_lt] at e'
    by_cases q : i < j
    · rw [decide_eq_true q] at e'
      rw [if_pos q]
      exact C m (.int j) st _ _ (Wm.Le.refl m) R' ⟨_, rfl⟩ e'
    · rw [decide_eq_false q] at e'
      rw [if_neg q]
      exact C m (.int i) st _ _ (Wm.Le.refl m) R' ⟨_, rfl⟩ e'
  · (first | exact (ff v).elim | exact (nn v).elim | cases v) <;> try (first | exact (ff e).elim | exact (nn e).elim | cases e)
    (first | exact (ff v2).elim | exact (nn v2).elim | cases v2) <;> (first | exact (ff e).elim | exact (nn e).elim | cases e)
theorem bi_ok (g : GOk G) : ∀ b, BiOk G b
  | .len => bi_len g
  | .sorted => bi_sorted g
  | .strT => bi_str
  | .tupT => bi_tup g
  | .listT => bi_list g
  | .rangeT => bi_range
  | .fsetT => bi_fset g
  | .append => bi_append
  | .pop => bi_pop
  | .extend => bi_extend
  | .max => bi_max
end Sx
end
section
open PySem PySem.W PySem.Calls PyProof.Rows
namespace Sx
set_option maxRecDepth 100000
variable {G : Gl} {B : Base} {m : Wm} {st : St} {s : Shared} {A : Around} {env : Env} {E : Value → Shared → Prop} {n : Nat} {h : Ih} {c : Cx}
theorem triples_snoc {a b : Int} {t u : Tok} {c : Value} : ∀ (l : List Value), TriplesOk l → TriplesOk (l ++ [.int a t, .int b u, c])
  | [], _ => trivial
  | .int _ _ :: .int _ _ :: _ :: rest, h => triples_snoc (a := a) (b := b) (t := t) (u := u) (c := c) rest h
theorem Rel.tab (R : Rel G B m st s) {h' : Heap} {t : Nat} {o : Obj} (k : Heap.ExtBut G.tbl s.heap h') (e : h'.get? G.tbl = some o) (ok : G.tok o) : Rel G B m st { s with heap := h', toks := t } := by
  have nm : ∀ {b}, b ∈ m.ρ → b ≠ G.tbl := fun h e => R.tblFar.1 (e ▸ h)
  refine { R with here := ?_, keep := ?_, loc := ?_, tb := ⟨o, e, ok⟩, objs := ?_ }
  · intro b hb; obtain ⟨o, e⟩ := R.here b hb; exact ⟨o, k b o (nm hb) e⟩
  · intro b o e n1 n2 n3; exact k b o n3 (R.keep b o e n1 n2 n3)
  · obtain ⟨f, x, y⟩ := R.loc; exact ⟨f, x.extBut (fun b o n e => k b o n e) R.tblFar.2, y⟩
  · intro i o hi e
    obtain ⟨b, ob, x, y, z⟩ := R.objs i o hi e
    exact ⟨b, ob, x, k _ _ (nm (List.mem_of_getElem? x)) y, z.mono (Wm.Le.refl m) (fun _ _ _ dx f _ h1 h2 => h2.extBut (fun b o n e => k b o n e) (nm (List.mem_of_getElem? h1)))⟩
theorem lamOk_cells (V : EnvOk m c env) : ∀ {ns : List (Str × NameKind)}, lamOk c ns = true → ∀ p ∈ ns, p.2 = .free → (env.cells.lookup p.1).isSome = true
  | [], _, p, hp, _ => by (first | exact (ff hp).elim | exact (nn hp).elim | cases hp)
  | (x, kd) :: r, e, p, hp, hf => by
    unfold lamOk at e
    cases hp with
    | head =>
      have hf : kd = .free := hf
      subst hf
      dsimp only at e
      split at e
      · rename_i j h1 h2
        obtain ⟨a, _, q⟩ := V.cells x j h1 h2
        rw [q]; rfl
      · (first | exact (ff e).elim | exact (nn e).elim | cases e)
    | tail _ hp =>
      have : lamOk c r = true := by
        dsimp only at e
        split at e
        · split at e
          · exact e
          · (first | exact (ff e).elim | exact (nn e).elim | cases e)
        · exact e
      exact lamOk_cells V this p hp hf
theorem lam_sound (g : GOk G) : HLam G := by
  intro B m c a1 a2 a3 a4 a6 b sc p k st s A env Q E e V hB R hh C
  obtain ⟨h1, e1⟩ := ifB_ff (b := Nat.beq c.code G.P.lam) e
  obtain ⟨h2, e2⟩ := ifB_ff (b := Nat.ble 1 G.P.lam) e1
  obtain ⟨h3, e3⟩ := ifB_ff (b := lamOk c sc.names) e2
  have h1 := Nat.beq_eq.mp h1
  have h2 := Nat.ble_eq.mp h2
  have hl : G.P.lam = G.lam := by obtain ⟨sm, hp⟩ := g.pg; rw [hp]; rfl
  have hc : env.code = .ref G.lam := by
    rcases V.code with q | q
    · omega
    · rw [q, h1, hl]
  have hcl := closure_eq (lamOk_cells V h3)
  obtain ⟨mg, hn, hb⟩ := g.bm
  obtain ⟨o, ho, hk⟩ := R.tb
  have hk' := hk
  rw [g.tok] at hk'
  obtain ⟨ps, rfl, ht⟩ := hk'
  have hn' : s.heap.Ns mainGlobals mg := hn.keeps R.old
  have hb' : s.heap.BuiltinsAt mg G.tbl := by
    obtain ⟨bm, ob, q1, q2, q3, q4, q5, q6⟩ := hb
    exact ⟨bm, ob, q1, q2, q3, q4, R.old _ _ q5, q6⟩
  have C' := g.hd.keeps R.old
  have hgP : mainGlobals ≠ G.tbl := fun q => by
    obtain ⟨o, es, ep, e, hd, _⟩ := hn'
    rw [q, ho] at e; (first | exact (ff e).elim | exact (nn e).elim | cases e); (first | exact (ff hd).elim | exact (nn hd).elim | cases hd)
  refine kla_eval rfl ?_
  cases hf : codeAmong p ps.toList with
  | none =>
    refine kla_makeFunction hcl V.globals hn' hc C' ho ht hf hgP hb' fun c' ctv h' tk hx _ _ _ htb => ?_
    have R1 : Rel G B m st { s with heap := h', toks := tk } := R.tab hx htb (by
      rw [g.tok]
      refine ⟨_, rfl, ?_⟩
      rw [Array.toList_append]
      exact triples_snoc _ ht)
    exact newRef_sound R1 (t := tk) e3 rfl rfl trivial C
  | some cv =>
    refine kla_makeFunctionHit hcl V.globals hn' hc C' ho ht hf hb' fun ctv h' tk hx _ => ?_
    exact newRef_sound (R.ext (t := tk) hx) (t := tk) e3 rfl rfl trivial C
end Sx
end
section
open PySem PySem.W PySem.Calls PyProof.Rows
namespace Sx
set_option maxRecDepth 100000
variable {G : Gl} {B : Base} {m : Wm} {st : St} {s : Shared} {A : Around} {env : Env} {E : Value → Shared → Prop} {n : Nat} {h : Ih} {c : Cx}
/-- what is known of a function by hand, in place of its text -/
noncomputable def SumOk (G : Gl) (a : Addr) (f : List V → EM V) (n : Nat) : Prop := ∀ (B : Base) (m : Wm) (xs : List V) (k : V → St → Bool) (st : St) (s : Shared) (A : Around) (vs : List Value) (Q : Value → Shared → Prop),
  f xs k st = true → VsRel m xs vs → Rel G B m st s → Okay n A → Cont G B m VRel k Q → codeAny (model G.prog G.w) A (.call (.ref a) ⟨vs, []⟩) (Ret Q) s
/-- the functions named by hand lie in the text, and keep what they say -/
noncomputable def SumsOk (G : Gl) (n : Nat) : Prop := ∀ a f, G.P.sum a = some f → SumOk G a f n
theorem call_ret {f : Value} {vs : List Value} {Q : Value → Shared → Prop} (w : codeAny (model G.prog G.w) A (.call f ⟨vs, []⟩) (Ret Q) s) : wpAny (model G.prog G.w) A (call f vs) Q E s := by
  refine wpAny_call (codeAny_mono w fun r s' hr => ?_)
  rcases r with e | (v | _ | _ | _) <;> first | exact hr.elim | exact hr
theorem fn_step (g : GOk G) (SU : SumsOk G (n + 1)) (IX : SXs G h n) : SFn G (ihBody G.P h) (n + 1) := by
  intro B m a f xs k st s A vs Q hf e hx R O C
  change (ifO (G.P.fn a) (ifO (G.P.init a) EM.fail fun i => callCls h a i xs) fun fn => ifO (G.P.sum a) (callFn h fn xs) fun g => g xs) k st = true at e
  rw [hf] at e
  change (ifO (G.P.sum a) (callFn h f xs) fun g => g xs) k st = true at e
  cases q : G.P.sum a with
  | none => rw [q] at e; exact callFn_sound g IX hf e hx R O C
  | some u => rw [q] at e; exact SU a u q B m xs k st s A vs Q e hx R O C
theorem cl_step (g : GOk G) (SU : SumsOk G (n + 1)) (IX : SXs G h n) (IF : SFn G h n) : SCl G (ihBody G.P h) (n + 1) := by
  intro B m f xs k st s A fv vs Q E e hf hx R O C
  cases f with
  | old a =>
    have hf : fv = .ref a := hf
    subst hf
    refine call_ret ?_
    have e' : (ifO (G.P.fn a) (ifO (G.P.init a) EM.fail fun i => callCls h a i xs) fun fn => ifO (G.P.sum a) (callFn h fn xs) fun g => g xs) k st = true := e
    cases q : G.P.fn a with
    | some f => exact fn_step g SU IX B m a f xs k st s A vs Q q e hx R O C
    | none =>
      rw [q] at e'
      change (ifO (G.P.init a) EM.fail fun i => callCls h a i xs) k st = true at e'
      cases q2 : G.P.init a with
      | none => rw [q2] at e'; (first | exact (ff e').elim | exact (nn e').elim | cases e')
      | some i => rw [q2] at e'; exact callCls_sound g IF q2 e' hx R O C
  | bi b =>
    have hf : fv = b.val := hf
    subst hf
    exact bi_ok g b B m xs k st s A vs Q E e hx R O.hn C
  | _ => (first | exact (ff e).elim | exact (nn e).elim | cases e)
theorem kcl_step (g : GOk G) : KCl G (ihBody G.P h) := by
  intro f xs k st e
  cases f with
  | old a =>
    have e' : (ifO (G.P.fn a) (ifO (G.P.init a) EM.fail fun i => callCls h a i xs) fun fn => ifO (G.P.sum a) (callFn h fn xs) fun g => g xs) k st = true := e
    show keepIn G.K (.ref a) = true
    cases q : G.P.fn a with
    | some f =>
      obtain ⟨fd, b, ps, kwd, dfl, d, l, W⟩ := fn_of g q
      obtain ⟨oc, od, sl, ho⟩ := W.at'
      unfold keepIn
      dsimp only
      rw [ho]
    | none =>
      rw [q] at e'
      change (ifO (G.P.init a) EM.fail fun i => callCls h a i xs) k st = true at e'
      cases q2 : G.P.init a with
      | none => rw [q2] at e'; (first | exact (ff e').elim | exact (nn e').elim | cases e')
      | some i =>
        obtain ⟨hm, hi, ht, fn, hfn⟩ := init_of g q2
        unfold makesIn at hm
        unfold keepIn
        dsimp only
        split at hm
        · rename_i ho
          rw [ho]
          simp only [Bool.and_eq_true] at hm
          exact hm.1.2
        · (first | exact (ff hm).elim | exact (nn hm).elim | cases hm)
  | bi b => trivial
  | _ => (first | exact (ff e).elim | exact (nn e).elim | cases e)
theorem SumsOk.mono {a b : Nat} (l : a ≤ b) (S : SumsOk G a) : SumsOk G b := fun x f q B m xs k st s A vs Q e hx R O C => S x f q B m xs k st s A vs Q e hx R (O.le l) C
structure AllOk (G : Gl) (h : Ih) (n : Nat) : Prop where
  ev : SEv G h n
  xs : SXs G h n
  cl : SCl G h n
  fn : SFn G h n
  evU : SEvU G h n
  kc : KCl G h
theorem run_ok (g : GOk G) {N : Nat} (SU : SumsOk G N) : ∀ n : Nat, AllOk G (run G.P n) (n + N)
  | 0 => ⟨fun _ _ _ _ _ _ _ _ _ _ _ e => (by (first | exact (ff e).elim | exact (nn e).elim | cases e)), fun _ _ _ _ _ _ _ _ _ _ _ e => (by (first | exact (ff e).elim | exact (nn e).elim | cases e)), fun _ _ _ _ _ _ _ _ _ _ _ _ e => (by (first | exact (ff e).elim | exact (nn e).elim | cases e)), fun _ _ _ _ _ _ _ _ _ _ _ _ e => (by (first | exact (ff e).elim | exact (nn e).elim | cases e)),
      fun _ _ _ _ _ _ _ _ _ _ _ _ _ _ e => (by (first | exact (ff e).elim | exact (nn e).elim | cases e)), fun _ _ _ _ e => (by (first | exact (ff e).elim | exact (nn e).elim | cases e))⟩
  | n + 1 => by
    have I := run_ok g SU n
    have SU' : SumsOk G (n + N + 1) := SU.mono (by omega)
    rw [show n + 1 + N = n + N + 1 by omega]
    exact ⟨ev_step g I.ev I.cl I.kc (comp_sound g I.ev) (lam_sound g), xs_step g I.ev I.xs I.evU, cl_step g SU' I.xs I.fn, fn_step g SU' I.xs, evU_step g I.ev, kcl_step g⟩
end Sx
end
section
open PySem PySem.W PySem.Calls PyProof.Rows
namespace Sx
set_option maxRecDepth 100000
variable {G : Gl} {B : Base} {m : Wm} {st : St} {s : Shared} {A : Around} {env : Env} {E : Value → Shared → Prop} {n : Nat} {h : Ih} {c : Cx}
/-! what is known by hand of a body of statements -/
noncomputable def XsAt (G : Gl) (c0 : Cx) (ss0 : List Stmt) (F : EM Fl) (n : Nat) : Prop := ∀ (B : Base) (m : Wm) (k : Fl → St → Bool) (st : St) (s : Shared) (A : Around) (env : Env) (Q : Flow → Shared → Prop) (E : Value → Shared → Prop),
  F k st = true → EnvOk m c0 env → B.L = env.locals → Rel G B m st s → Okay n A → Cont G B m FRel k Q → wpAny (model G.prog G.w) A (execs ss0 env) Q E s
open Classical in
noncomputable def onlyXs (c0 : Cx) (ss0 : List Stmt) (F : EM Fl) : Ih := ⟨fun _ _ => EM.fail, fun c ss k st => if c = c0 ∧ ss = ss0 then F k st else false, fun _ _ => EM.fail⟩
theorem only_xs {c0 : Cx} {ss0 : List Stmt} {F : EM Fl} (X : XsAt G c0 ss0 F n) : SXs G (onlyXs c0 ss0 F) n := by
  intro B m c ss k st s A env Q E e hE hB R O C
  unfold onlyXs at e
  dsimp only at e
  split at e
  · rename_i q
    obtain ⟨rfl, rfl⟩ := q
    exact X B m k st s A env Q E e hE hB R O C
  · (first | exact (ff e).elim | exact (nn e).elim | cases e)
theorem only_at {c0 : Cx} {ss0 : List Stmt} {F : EM Fl} : (onlyXs c0 ss0 F).xs c0 ss0 = F := by
  funext k st
  unfold onlyXs
  dsimp only
  rw [if_pos ⟨rfl, rfl⟩]
/-- the frame of plain arguments -/
noncomputable def plainFr : List (Nat × Bool) → List V → List (Nat × V) → Option (List (Nat × V))
  | [], [], acc => some acc
  | p :: ps, v :: vs, acc => if p.2 then none else plainFr ps vs (setK p.1 v acc)
  | _, _, _ => none
theorem layArgs_plain : ∀ {ps : List (Nat × Bool)} {vs : List V} {acc fr : List (Nat × V)}, plainFr ps vs acc = some fr → layArgs c ps vs acc = EM.ret fr
  | [], [], acc, fr, e => by (first | exact (ff e).elim | exact (nn e).elim | cases e); rfl
  | (x, b) :: ps, v :: vs, acc, fr, e => by
    unfold plainFr at e
    cases b with
    | true => (first | exact (ff e).elim | exact (nn e).elim | cases e)
    | false => exact layArgs_plain (ps := ps) (vs := vs) e
  | [], _ :: _, _, _, e => by (first | exact (ff e).elim | exact (nn e).elim | cases e)
  | _ :: _, [], _, _, e => by (first | exact (ff e).elim | exact (nn e).elim | cases e)
theorem sum_of (g : GOk G) {a : Addr} {f : Fn} {u : List V → EM V} {F : EM Fl} (hf : G.P.fn a = some f) (hc : f.cellNames = []) (X : XsAt G ⟨f.sc, [], f.code⟩ f.body F n)
    (hu : ∀ xs k st, u xs k st = true → ∃ fr, xs.length = f.params.length ∧ plainFr f.params xs [] = some fr ∧ within fr F (fun r s => match r with
      | .next => k .none s
      | .ret v => k v s) st = true) : SumOk G a u (n + 1) := by
  intro B m xs k st s A vs Q e hx R O C
  obtain ⟨fr, h1, h2, h3⟩ := hu xs k st e
  refine callFn_sound g (h := onlyXs ⟨f.sc, [], f.code⟩ f.body F) (only_xs X) hf ?_ hx R O C
  unfold callFn fillArgs
  rw [hc, h1, Nat.beq_refl]
  show layArgs ⟨f.sc, [], f.code⟩ f.params xs [] (fun fr s => within fr ((onlyXs ⟨f.sc, [], f.code⟩ f.body F).xs ⟨f.sc, [], f.code⟩ f.body) (fun r s => match r with
    | .next => k .none s
    | .ret v => k v s) s) st = true
  rw [layArgs_plain h2, only_at]
  exact h3
/-! a part of the heap alone -/
theorem T.one {o : O} {j : Nat} (h : j < 512) : (T.put .nil 0 (some o)).get j = if j = 0 then some o else none := by
  rw [T.get_put _ (by decide) h, T.get_nil]
  by_cases q : j = 0
  · rw [if_pos q, if_pos q.symm]
  · rw [if_neg q, if_neg (Ne.symm q)]
theorem Rel.only (R : Rel G B m st s) {i : Nat} {a : Addr} {ob : Obj} {o : O} {fr : List (Nat × V)} (hi : m.ρ[i]? = some a) (e : s.heap.get? a = some ob) (hn : o.isInst = false) (ho : ORel G ⟨[a], []⟩ [] s.heap o ob)
    (hfr : ∀ f : Str → Option Value, (∀ x v, okS x = true → lk (sid x) st.fr = some v → ∃ w, f x = some w ∧ VRel m v w) → ∀ x v, okS x = true → lk (sid x) fr = some v → ∃ w, f x = some w ∧ VRel ⟨[a], []⟩ v w) :
    Rel G ⟨s.heap, [a], B.L⟩ ⟨[a], []⟩ ⟨1, 0, T.put .nil 0 (some o), fr, []⟩ s := by
  have ha := List.mem_of_getElem? hi
  refine { len := rfl, le := (by show 1 ≤ 512; decide), syms := rfl, nodup := (by simp), here := fun b hb => ⟨ob, by rw [List.mem_singleton.mp hb]; exact e⟩, newer := fun b hb => .inl hb, pre := fun b hb => hb,
           keep := fun b o h _ _ _ => h, loc := ?_, locFar := fun h => R.locFar (by rw [List.mem_singleton.mp h]; exact ha), tblFar := ⟨fun h => R.tblFar.1 (by rw [List.mem_singleton.mp h]; exact ha), R.tblFar.2⟩, tb := R.tb, kb := ?_, objs := ?_, clean := ?_, owns := ?_,
           gens := R.gens, drawn := R.drawn, os := R.os }
  · obtain ⟨f, x, y⟩ := R.loc; exact ⟨f, x, hfr f y⟩
  · intro b o q
    obtain ⟨x, y, z, w⟩ := R.kbHere b o q
    exact ⟨x, fun h => y (by rw [List.mem_singleton.mp h]; exact ha), z, w⟩
  · intro j o' hj q
    have hj : j < 1 := hj
    dsimp only at q
    rw [T.one (by omega)] at q
    rw [if_pos (by omega)] at q
    (first | exact (ff q).elim | exact (nn q).elim | cases q)
    exact ⟨a, ob, by rw [show j = 0 by omega]; rfl, e, ho⟩
  · intro j h1 h2
    have h1 : 1 ≤ j := h1
    show (T.put .nil 0 (some o)).get j = none
    rw [T.one h2, if_neg (by omega)]
  · intro j C d ms hj q
    have hj : j < 1 := hj
    dsimp only at q
    rw [T.one (by omega), if_pos (by omega)] at q
    (first | exact (ff q).elim | exact (nn q).elim | cases q); (first | exact (ff hn).elim | exact (nn hn).elim | cases hn)
/-- back to the whole: only the one object has changed -/
theorem Rel.after {m2 : Wm} {st2 : St} {s2 : Shared} {a : Addr} {i : Nat} {o0 o1 : O} (R : Rel G B m st s) (hi : m.ρ[i]? = some a) (h0 : st.t.get i = some o0) (n0 : o0.isOwn = false) (n1 : o1.isInst = false) (R2 : Rel G ⟨s.heap, [a], B.L⟩ m2 st2 s2) {ob : Obj} {t' : T}
    (e : s2.heap.get? a = some ob) (ho : ORel G m st.fd s2.heap o1 ob) (gp : ∀ j, j < 512 → t'.get j = if i = j then some o1 else st.t.get j) : Rel G B m ⟨st.n, st.k, t', [], st.fd⟩ s2 := by
  have ha := List.mem_of_getElem? hi
  have ilt := R.lt hi
  have kp : ∀ b o, b ≠ a → b ≠ B.L → b ≠ G.tbl → s.heap.get? b = some o → s2.heap.get? b = some o := fun b o h1 h2 h3 h => R2.keep b o h (fun q => h1 (List.mem_singleton.mp q)) h2 h3
  have km : ∀ b o, b ∈ m.ρ → b ≠ a → s.heap.get? b = some o → s2.heap.get? b = some o := fun b o h1 h2 h => kp b o h2 (fun q => R.locFar (q ▸ h1)) (fun q => R.tblFar.1 (q ▸ h1)) h
  refine { R with here := ?_, keep := ?_, loc := ?_, tb := R2.tb, objs := ?_, clean := fun j h1 h2 => (by have h1 : st.n ≤ j := h1; show t'.get j = none; rw [gp j h2, if_neg (by omega)]; exact R.clean j h1 h2), owns := ?_, gens := R2.gens, drawn := R2.drawn, os := R2.os }
  · intro b hb
    by_cases q : b = a
    · exact ⟨ob, q ▸ e⟩
    · obtain ⟨o, e⟩ := R.here b hb; exact ⟨o, km b o hb q e⟩
  · intro b o h1 h2 h3 h4
    refine kp b o (fun q => ?_) h3 h4 (R.keep b o h1 h2 h3 h4)
    rcases R.newer a ha with z | z
    · exact h2 (q ▸ z)
    · rw [q, z] at h1; (first | exact (ff h1).elim | exact (nn h1).elim | cases h1)
  · obtain ⟨f, x, _⟩ := R2.loc; exact ⟨f, x, fun _ _ _ z => by (first | exact (ff z).elim | exact (nn z).elim | cases z)⟩
  · intro j o' hj q
    dsimp only at q hj
    rw [gp j (Nat.lt_of_lt_of_le hj R.le)] at q
    split at q
    · rename_i ij; (first | exact (ff q).elim | exact (nn q).elim | cases q); subst ij; exact ⟨a, ob, hi, e, ho⟩
    · rename_i ij
      obtain ⟨b, ob', x', y, z⟩ := R.objs j o' hj q
      refine ⟨b, ob', x', km _ _ (List.mem_of_getElem? x') (fun q => ij (idx_inj R.nodup hi (q ▸ x'))) y, z.mono (Wm.Le.refl m) fun C d ms dx f e1 h1 h2 => ?_⟩
      subst e1
      obtain ⟨p1, p2⟩ := R.owns j C d ms hj q
      obtain ⟨o, es, ep, z1, r⟩ := h2
      refine ⟨o, es, ep, km _ _ (List.mem_of_getElem? h1) (fun q => ?_) z1, r⟩
      have : d = i := idx_inj R.nodup h1 (q ▸ hi)
      rw [this, h0] at p2; (first | exact (ff p2).elim | exact (nn p2).elim | cases p2); (first | exact (ff n0).elim | exact (nn n0).elim | cases n0)
  · intro j C d ms hj q
    dsimp only at q hj ⊢
    rw [gp j (Nat.lt_of_lt_of_le hj R.le)] at q
    split at q
    · (first | exact (ff q).elim | exact (nn q).elim | cases q); (first | exact (ff n1).elim | exact (nn n1).elim | cases n1)
    · obtain ⟨p1, p2⟩ := R.owns j C d ms hj q
      refine ⟨p1, ?_⟩
      rw [gp d (Nat.lt_of_lt_of_le p1 R.le), if_neg (fun z => ?_)]
      · exact p2
      · rw [← z, h0] at p2; (first | exact (ff p2).elim | exact (nn p2).elim | cases p2); (first | exact (ff n0).elim | exact (nn n0).elim | cases n0)
end Sx
end
section
open PySem PySem.W PySem.Calls PyProof.Rows
namespace Sx
set_option maxRecDepth 100000
noncomputable abbrev P0 (p : Params) : Pg := mkPg (KT p) (fun _ => none) 110
noncomputable def runB (P : Pg) (a : Addr) (k : Fl → St → Bool) (s : St) : Bool := match P.fn a with
  | some f => (run P 100).xs ⟨f.sc, [], f.code⟩ f.body k s
  | none => false
noncomputable abbrev srcT (a b : Int) : T := T.put .nil 0 (some (.list [.int a, .int b]))
noncomputable abbrev tkFr (t : Nat) : List (Nat × V) := [(sid "source", .ref 0), (sid "top", .int (.ofNat (t + 1)))]
theorem take_pos (p : Params) (k : Fl → St → Bool) (a b t : Nat) : runB (P0 p) 619 k ⟨1, 0, srcT (.ofNat (a + 1)) (.ofNat b), tkFr t, []⟩ =
    ifB (bitsOk (.ofNat (t + 1))) (k (.ret (.int (Int.fmod (.ofNat (a + 1)) (.ofNat (t + 1))))) ⟨1, 0, (srcT (.ofNat (a + 1)) (.ofNat b)).put 0 (some (.list [.int (Int.fdiv (.ofNat (a + 1)) (.ofNat (t + 1))), .int (.ofNat b)])),
      [(sid "source", .ref 0), (sid "top", .int (.ofNat (t + 1))), (sid "part", .int (Int.fmod (.ofNat (a + 1)) (.ofNat (t + 1))))], []⟩) false := by kernel_rfl
noncomputable abbrev nextB (b : Nat) : Int := Int.fmod (Int.ofNat b * 39373 + 7) 2147483647
theorem take_zero (p : Params) (k : Fl → St → Bool) (b t : Nat) : runB (P0 p) 619 k ⟨1, 0, srcT (.ofNat 0) (.ofNat b), tkFr t, []⟩ =
    ifB (bitsOk (nextB b)) (k (.ret (.int (Int.fmod (Int.fdiv (Int.fmod (nextB b * nextB b) 2147483629) 32) (.ofNat (t + 1))))) ⟨1, 0, (srcT (.ofNat 0) (.ofNat b)).put 0 (some (.list [.int (.ofNat 0), .int (nextB b)])), tkFr t, []⟩)
     (ifB (bitsOk (nextB b)) (k (.ret (.int (Int.fmod (Int.fdiv (Int.fmod (nextB b * nextB b) 2147483629) 32) (.ofNat (t + 1))))) ⟨1, 0, (srcT (.ofNat 0) (.ofNat b)).put 0 (some (.list [.int (.ofNat 0), .int (nextB b)])), tkFr t, []⟩) false) := by kernel_rfl
end Sx
end
section
open PySem PySem.W PySem.Calls PyProof.Rows
namespace Sx
set_option maxRecDepth 100000
variable {G : Gl} {B : Base} {m : Wm} {st : St} {s : Shared} {A : Around} {env : Env} {E : Value → Shared → Prop} {n : Nat} {h : Ih} {c : Cx}
/-- the same ground, without what is known by hand -/
noncomputable def Gl.with (G : Gl) (P : Pg) : Gl := { G with P := P }
theorem ORel.toP (P : Pg) {fd : List (Nat × Nat)} {h : Heap} {o : O} {ob : Obj} (x : ORel G m fd h o ob) : ORel (G.with P) m fd h o ob := by (first | exact (ff o).elim | exact (nn o).elim | cases o) <;> exact x
theorem ORel.ofP {P : Pg} {fd : List (Nat × Nat)} {h : Heap} {o : O} {ob : Obj} (x : ORel (G.with P) m fd h o ob) : ORel G m fd h o ob := by (first | exact (ff o).elim | exact (nn o).elim | cases o) <;> exact x
theorem Rel.toP (P : Pg) (R : Rel G B m st s) : Rel (G.with P) B m st s :=
  { len := R.len, le := R.le, syms := R.syms, nodup := R.nodup, here := R.here, newer := R.newer, pre := R.pre, keep := R.keep, loc := R.loc, locFar := R.locFar, tblFar := R.tblFar, tb := R.tb, kb := R.kb,
    objs := fun i o hi e => by obtain ⟨a, ob, x, y, z⟩ := R.objs i o hi e; exact ⟨a, ob, x, y, z.toP P⟩, clean := R.clean, owns := R.owns, gens := R.gens, drawn := R.drawn, os := R.os }
theorem Rel.ofP {P : Pg} (R : Rel (G.with P) B m st s) : Rel G B m st s :=
  { len := R.len, le := R.le, syms := R.syms, nodup := R.nodup, here := R.here, newer := R.newer, pre := R.pre, keep := R.keep, loc := R.loc, locFar := R.locFar, tblFar := R.tblFar, tb := R.tb, kb := R.kb,
    objs := fun i o hi e => by obtain ⟨a, ob, x, y, z⟩ := R.objs i o hi e; exact ⟨a, ob, x, y, z.ofP⟩, clean := R.clean, owns := R.owns, gens := R.gens, drawn := R.drawn, os := R.os }
/-- the ground of this text -/
structure GK (G : Gl) (p : Params) : Prop where
  g : GOk G
  K : G.K = KT p
  lam : G.lam = 110
theorem GK.fn {p : Params} (x : GK G p) (a : Addr) : G.P.fn a = (P0 p).fn a := by
  obtain ⟨sm, hp⟩ := x.g.pg
  rw [hp, x.K, x.lam]; rfl
theorem GK.g0 {p : Params} (x : GK G p) (sm : Addr → Option (List V → EM V)) : GOk (G.with (mkPg (KT p) sm 110)) :=
  { kin := x.g.kin, lim := x.g.lim, bn := x.g.bn, pg := ⟨sm, by show mkPg (KT p) sm 110 = mkPg G.K sm G.lam; rw [x.K, x.lam]⟩, tok := x.g.tok, hd := x.g.hd, bm := x.g.bm, sm := x.g.sm }
theorem GK.none_ok {p : Params} : SumsOk (G.with (P0 p)) 0 := fun a f e => by (first | exact (ff e).elim | exact (nn e).elim | cases e)
/-- this, and nothing else -/
noncomputable def justK (r : Fl) (st : St) : Fl → St → Bool := fun r' st' => @decide (r' = r ∧ st' = st) (Classical.propDecidable _)
theorem justK_at (r : Fl) (st : St) : justK r st r st = true := by unfold justK; exact @decide_eq_true _ (Classical.propDecidable _) ⟨rfl, rfl⟩
theorem justK_of {r r' : Fl} {st st' : St} (e : justK r st r' st' = true) : r' = r ∧ st' = st := by unfold justK at e; exact @of_decide_eq_true _ (Classical.propDecidable _) e
theorem fmod_nat (a b : Nat) : Int.fmod (.ofNat a) (.ofNat b) = .ofNat (a % b) := (Int.ofNat_fmod a b).symm
theorem fdiv_nat (a b : Nat) : Int.fdiv (.ofNat a) (.ofNat b) = .ofNat (a / b) := (Int.ofNat_fdiv a b).symm
theorem nextB_eq (b : Nat) : nextB b = .ofNat ((b * 39373 + 7) % 2147483647) := by
  show Int.fmod (Int.ofNat (b * 39373 + 7)) (.ofNat 2147483647) = _
  exact fmod_nat _ _
theorem bits_nat {n : Nat} (h : n ≤ 18446744073709551615) : bitsOk (.ofNat n) = true := Nat.ble_eq.mpr h
theorem draw_zero (b t : Nat) : Int.fmod (Int.fdiv (Int.fmod (nextB b * nextB b) 2147483629) 32) (.ofNat (t + 1)) = .ofNat (drawOf (t + 1) 0 b) := by
  rw [nextB_eq]
  show Int.fmod (Int.fdiv (Int.fmod (Int.ofNat ((b * 39373 + 7) % 2147483647 * ((b * 39373 + 7) % 2147483647))) (.ofNat 2147483629)) (.ofNat 32)) (.ofNat (t + 1)) = _
  rw [fmod_nat, fdiv_nat, fmod_nat]
  unfold drawOf
  rw [if_neg (by omega)]
/-- what take's body does to the source -/
theorem take_body {p : Params} (x : GK G p) {f : Fn} (hf : G.P.fn 619 = some f) {a : Addr} {i a0 b0 t nn : Nat} {u v : Tok} {ob : Obj} (hn : t + 1 ≤ 1000) (R : Rel G B m st s) (hi : m.ρ[i]? = some a)
    (eo : s.heap.get? a = some ob) (hob : ob = { cls := .type "list", data := .seq #[.int a0 u, .int b0 v] nn })
    (hs : lk (sid "source") st.fr = some (.ref i)) (ht : lk (sid "top") st.fr = some (.int (.ofNat (t + 1)))) (hE : EnvOk m ⟨f.sc, [], f.code⟩ env) (hB : B.L = env.locals) (O : Okay 100 A) {Q : Flow → Shared → Prop}
    (q : ∀ m2 st2 s2 tk nn' u' v', Rel G ⟨s.heap, [a], B.L⟩ m2 st2 s2 → s2.heap.get? a = some { cls := .type "list", data := .seq #[.int (leftA (t + 1) a0 : Nat) u', .int (leftB a0 b0 : Nat) v'] nn' } → Q (.ret (.int (drawOf (t + 1) a0 b0 : Nat) tk)) s2) :
    wpAny (model G.prog G.w) A (execs f.body env) Q E s := by
  subst hob
  have ho : ORel G ⟨[a], []⟩ [] s.heap (.list [.int (.ofNat a0), .int (.ofNat b0)]) { cls := .type "list", data := .seq #[.int a0 u, .int b0 v] nn } := ⟨_, _, rfl, ⟨_, rfl⟩, ⟨_, rfl⟩, trivial⟩
  have R0 := (R.only (fr := tkFr t) hi eo rfl ho (fun ff hff y w oy e => by
    rw [lk_cons, lk_cons, lk_nil] at e
    split at e
    · rename_i e1; (first | exact (ff e).elim | exact (nn e).elim | cases e)
      obtain ⟨w', p1, b, p2, p3⟩ := hff y (.ref i) oy (by rw [e1]; exact hs)
      exact ⟨w', p1, b, by cases hi.symm.trans p2; rfl, p3⟩
    · split at e
      · rename_i e1; (first | exact (ff e).elim | exact (nn e).elim | cases e)
        obtain ⟨w', p1, p2⟩ := hff y _ oy (by rw [e1]; exact ht)
        exact ⟨w', p1, p2⟩
      · (first | exact (ff e).elim | exact (nn e).elim | cases e))).toP (P0 p)
  have I := run_ok (x.g0 (fun _ => none)) (GK.none_ok (G := G) (p := p)) 100
  have hE0 : EnvOk ⟨[a], []⟩ ⟨f.sc, [], f.code⟩ env := { hE with cells := fun _ _ _ z => by cases z }
  have hf0 : (P0 p).fn 619 = some f := (x.fn 619).symm.trans hf
  have run_eq : ∀ (k : Fl → St → Bool) (s0 : St), runB (P0 p) 619 k s0 = (run (P0 p) 100).xs ⟨f.sc, [], f.code⟩ f.body k s0 := fun k s0 => by unfold runB; rw [hf0]
  have fin : ∀ (val : Int) (l1 l2 : Int) (fr' : List (Nat × V)), val = .ofNat (drawOf (t + 1) a0 b0) → l1 = .ofNat (leftA (t + 1) a0) → l2 = .ofNat (leftB a0 b0) →
      runB (P0 p) 619 (justK (.ret (.int val)) ⟨1, 0, (srcT (.ofNat a0) (.ofNat b0)).put 0 (some (.list [.int l1, .int l2])), fr', []⟩) ⟨1, 0, srcT (.ofNat a0) (.ofNat b0), tkFr t, []⟩ = true →
      wpAny (model G.prog G.w) A (execs f.body env) Q E s := fun val l1 l2 fr' e1 e2 e3 e4 => by
    rw [run_eq] at e4
    refine I.xs ⟨s.heap, [a], B.L⟩ ⟨[a], []⟩ _ _ _ _ s A env Q E e4 hE0 hB R0 O fun m2 r st2 fl s2 l2' R2 r2 e5 => ?_
    obtain ⟨rfl, rfl⟩ := justK_of e5
    obtain ⟨w, rfl, tk, rfl⟩ := r2
    obtain ⟨a', ob', h1, h2, items, nn', rfl, hv⟩ := R2.objs 0 (.list [.int l1, .int l2]) (show 0 < 1 by decide) (by rw [T.get_put _ (by decide) (by decide), if_pos rfl])
    have ha : a' = a := by
      have := l2'.at (m := ⟨[a], []⟩) (i := 0) (a := a) rfl
      rw [h1] at this; (first | exact (ff this).elim | exact (nn this).elim | cases this); rfl
    subst ha
    obtain ⟨ll⟩ := items
    rcases ll with _ | ⟨v1, _ | ⟨v2, _ | ⟨v3, ll⟩⟩⟩
    · exact hv.elim
    · exact hv.2.elim
    · obtain ⟨⟨u', rfl⟩, ⟨v', rfl⟩, _⟩ := hv
      rw [e1]
      refine q m2 _ s2 tk nn' u' v' R2.ofP ?_
      rw [h2, e2, e3]; rfl
    · exact hv.2.2.elim
  cases a0 with
  | zero =>
    refine fin _ _ _ _ (draw_zero b0 t) rfl ?_ (by rw [take_zero, nextB_eq, bits_nat (by omega)]; exact justK_at _ _)
    unfold leftB; rw [if_neg (by omega)]
  | succ a0 =>
    refine fin _ _ _ _ ?_ ?_ ?_ (by rw [take_pos, bits_nat (by omega)]; exact justK_at _ _)
    · rw [fmod_nat]; unfold drawOf; rw [if_pos (by omega)]
    · rw [fdiv_nat]; unfold leftA; rw [if_pos (by omega)]
    · unfold leftB; rw [if_pos (by omega)]
end Sx
end
section
open PySem PySem.W PySem.Calls PyProof.Rows
namespace Sx
set_option maxRecDepth 100000
variable {G : Gl} {B : Base} {m : Wm} {st : St} {s : Shared} {A : Around} {env : Env} {E : Value → Shared → Prop} {n : Nat} {h : Ih} {c : Cx}
theorem any_fr {k : V → St → Bool} {fr fr' : List (Nat × V)} {n k0 : Nat} {t : T} {fd : List (Nat × Nat)} : ∀ l : List V, EM.any l k ⟨n, k0, t, fr, fd⟩ = EM.any l (fun v s' => k v ⟨s'.n, s'.k, s'.t, fr, s'.fd⟩) ⟨n, k0, t, fr', fd⟩
  | [] => rfl
  | x :: r => by
    show ifB (k x ⟨n, k0, t, fr, fd⟩) (EM.any r k ⟨n, k0, t, fr, fd⟩) false = ifB (k x ⟨n, k0, t, fr, fd⟩) (EM.any r (fun v s' => k v ⟨s'.n, s'.k, s'.t, fr, s'.fd⟩) ⟨n, k0, t, fr', fd⟩) false
    rw [any_fr (fr' := fr') r]
theorem any_at {k : V → St → Bool} : ∀ {l : List V}, EM.any l k st = true → ∀ x ∈ l, k x st = true
  | x :: r, e, y, hy => by
    obtain ⟨h1, h2⟩ := ifB_ff (b := k x st) e
    cases hy with
    | head => exact h1
    | tail _ hy => exact any_at (l := r) h2 y hy
/-- what a draw is, taken apart -/
inductive Draws (st : St) (i n : Nat) (k : V → St → Bool) : Prop
  | any (h0 : st.t.get i = some (.src [])) (e : ∀ j, j < n → k (.int (.ofNat j)) st = true)
  | free (h0 : st.t.get i = some (.src [])) (e : k (.sym st.k) ⟨st.n, st.k + 1, st.t, st.fr, st.fd⟩ = true)
  | forced (j : Nat) (r : List (Nat × Nat)) (h0 : st.t.get i = some (.src ((n, j) :: r))) (hj : j < n) (e : k (.int (.ofNat j)) ⟨st.n, st.k, st.t.put i (some (.src r)), st.fr, st.fd⟩ = true)
  | left (j : Nat) (r : List (Nat × Nat)) (h0 : st.t.get i = some (.src ((n, j) :: r))) (e : k (.sym st.k) ⟨st.n, st.k + 1, st.t.put i (some (.src r)), st.fr, st.fd⟩ = true)
theorem take_cases {xs : List V} {k : V → St → Bool} (e : takeSum xs k st = true) : ∃ i n, xs = [.ref i, .int (.ofNat n)] ∧ 1 ≤ n ∧ n ≤ 1000 ∧ Draws st i n k := by
  rcases xs with _ | ⟨v, _ | ⟨w, _ | ⟨y, xs⟩⟩⟩
  · (first | exact (ff e).elim | exact (nn e).elim | cases e)
  · (first | exact (ff v).elim | exact (nn v).elim | cases v) <;> (first | exact (ff e).elim | exact (nn e).elim | cases e)
  · (first | exact (ff v).elim | exact (nn v).elim | cases v) <;> try (first | exact (ff e).elim | exact (nn e).elim | cases e)
    (first | exact (ff w).elim | exact (nn w).elim | cases w) <;> try (first | exact (ff e).elim | exact (nn e).elim | cases e)
    rename_i i z
    cases z with
    | negSucc z => (first | exact (ff e).elim | exact (nn e).elim | cases e)
    | ofNat n =>
      obtain ⟨o, h0, e1⟩ := ifO_ff (o := st.t.get i) e
      cases o with
      | src fd =>
        obtain ⟨h1, e2⟩ := ifB_ff (b := Nat.ble 1 n) e1
        obtain ⟨h2, e3⟩ := ifB_ff (b := Nat.ble n 1000) e2
        refine ⟨i, n, rfl, Nat.ble_eq.mp h1, Nat.ble_eq.mp h2, ?_⟩
        cases fd with
        | nil =>
          cases q : Nat.ble n 12 with
          | true =>
            have e4 : EM.any ((List.range n).map fun (k : Nat) => V.int (k : Int)) k st = true := by
              have : (match Nat.ble n 12 with | true => EM.any ((List.range n).map fun (k : Nat) => V.int (k : Int)) k st | false => newSym k st) = true := e3
              rw [q] at this; exact this
            exact .any h0 fun j hj => any_at e4 _ (List.mem_map.mpr ⟨j, List.mem_range.mpr hj, rfl⟩)
          | false =>
            have e4 : newSym k st = true := by
              have : (match Nat.ble n 12 with | true => EM.any ((List.range n).map fun (k : Nat) => V.int (k : Int)) k st | false => newSym k st) = true := e3
              rw [q] at this; exact this
            exact .free h0 e4
        | cons pr r =>
          obtain ⟨pn, pj⟩ := pr
          obtain ⟨h3, e4⟩ := ifB_ff (b := Nat.beq n pn) e3
          have h3 := Nat.beq_eq.mp h3
          subst h3
          have e5 : ifB (Nat.blt pj n) (k (.int (.ofNat pj)) ⟨st.n, st.k, st.t.put i (some (.src r)), st.fr, st.fd⟩) (k (.sym st.k) ⟨st.n, st.k + 1, st.t.put i (some (.src r)), st.fr, st.fd⟩) = true := e4
          cases q : Nat.blt pj n with
          | true => rw [q] at e5; exact .forced pj r h0 (Nat.blt_eq.mp q) e5
          | false => rw [q] at e5; exact .left pj r h0 e5
      | _ => (first | exact (ff e1).elim | exact (nn e1).elim | cases e1)
  · (first | exact (ff v).elim | exact (nn v).elim | cases v) <;> try (first | exact (ff e).elim | exact (nn e).elim | cases e)
    (first | exact (ff w).elim | exact (nn w).elim | cases w) <;> try (first | exact (ff e).elim | exact (nn e).elim | cases e)
    rename_i i z
    (first | exact (ff z).elim | exact (nn z).elim | cases z) <;> (first | exact (ff e).elim | exact (nn e).elim | cases e)
noncomputable def takeF : EM Fl := fun k s => ifO (lk (sid "source") s.fr) false fun v => ifO (lk (sid "top") s.fr) false fun w => takeSum [v, w] (fun r s' => k (.ret r) ⟨s'.n, s'.k, s'.t, [], s'.fd⟩) s
theorem take_xs {p : Params} (x : GK G p) {f : Fn} (hf : G.P.fn 619 = some f) : XsAt G ⟨f.sc, [], f.code⟩ f.body takeF 100 := by
  intro B m k st s A env Q E e hE hB R O C
  obtain ⟨v, hs, e1⟩ := ifO_ff e
  obtain ⟨w, ht, e2⟩ := ifO_ff e1
  obtain ⟨i, n, hx, h1, h2, D⟩ := take_cases e2
  (first | exact (ff hx).elim | exact (nn hx).elim | cases hx)
  have hsrc : ∃ a, m.ρ[i]? = some a := by
    obtain ⟨ff, _, y⟩ := R.loc
    obtain ⟨_, _, a, q, _⟩ := y ("source" : Str) (.ref i) (by decide +kernel) hs
    exact ⟨a, q⟩
  obtain ⟨a, hi⟩ := hsrc
  obtain ⟨t, rfl⟩ : ∃ t, n = t + 1 := ⟨n - 1, by omega⟩
  have go : ∀ fs fs' t', st.t.get i = some (.src fs) → (∀ a0 b0 : Nat, Forced fs a0 b0 → Forced fs' (leftA (t + 1) a0) (leftB a0 b0)) → (∀ j, j < 512 → t'.get j = if i = j then some (.src fs') else st.t.get j) →
      (∀ (a0 b0 : Nat) s2 tk, Forced fs a0 b0 → Rel G B m ⟨st.n, st.k, t', [], st.fd⟩ s2 → Q (.ret (.int (drawOf (t + 1) a0 b0 : Nat) tk)) s2) → wpAny (model G.prog G.w) A (execs f.body env) Q E s := fun fs fs' t' h0 hF gp K => by
    obtain ⟨a', ob, z1, z2, nn, a0, b0, u, v, z3, z4, z5⟩ := R.objs i _ (R.lt hi) h0
    cases hi.symm.trans z1
    refine take_body x hf (by omega) R hi z2 z3 hs ht hE hB O fun m2 st2 s2 tk nn' u' v' R2 e3 => ?_
    refine K a0 b0 s2 tk z5 (R.after (o1 := .src fs') hi h0 rfl rfl R2 e3 ⟨nn', _, _, u', v', rfl, ?_, hF a0 b0 z5⟩ gp)
    unfold leftB
    split
    · exact z4
    · omega
  have self : ∀ fs, st.t.get i = some (.src fs) → ∀ j, j < 512 → st.t.get j = if i = j then some (.src fs) else st.t.get j := fun fs h0 j _ => by
    by_cases q : i = j
    · rw [if_pos q, ← q]; exact h0
    · rw [if_neg q]
  have put : ∀ fs, ∀ j, j < 512 → (st.t.put i (some (.src fs))).get j = if i = j then some (.src fs) else st.t.get j := fun fs j hj => T.get_put _ (Nat.lt_of_lt_of_le (R.lt hi) R.le) hj _
  cases D with
  | any h0 e3 =>
    refine go [] [] st.t h0 (fun _ _ _ => trivial) (self _ h0) fun a0 b0 s2 tk _ R2 => ?_
    have hlt : drawOf (t + 1) a0 b0 < t + 1 := by unfold drawOf; split <;> exact Nat.mod_lt _ (Nat.succ_pos _)
    exact C m (.ret (.int (.ofNat (drawOf (t + 1) a0 b0)))) _ _ s2 (Wm.Le.refl m) R2 ⟨_, rfl, ⟨tk, rfl⟩⟩ (e3 _ hlt)
  | free h0 e3 =>
    refine go [] [] st.t h0 (fun _ _ _ => trivial) (self _ h0) fun a0 b0 s2 tk _ R2 => ?_
    have R3 := R2.newSym (drawOf (t + 1) a0 b0 : Nat)
    refine C ⟨m.ρ, m.σ ++ [((drawOf (t + 1) a0 b0 : Nat) : Int)]⟩ (.ret (.sym st.k)) _ _ s2 ⟨⟨[], by simp⟩, ⟨_, rfl⟩⟩ R3 ⟨_, rfl, ⟨_, tk, ?_, rfl⟩⟩ e3
    show (m.σ ++ [((drawOf (t + 1) a0 b0 : Nat) : Int)])[st.k]? = _
    rw [← R.syms]; simp
  | forced j r h0 hj e3 =>
    refine go _ r (st.t.put i (some (.src r))) h0 (fun _ _ z => z.2) (put r) fun a0 b0 s2 tk z R2 => ?_
    have hz := z.1 hj
    exact C m (.ret (.int (.ofNat j))) _ _ s2 (Wm.Le.refl m) R2 ⟨_, rfl, ⟨tk, by rw [hz]; rfl⟩⟩ e3
  | left j r h0 e3 =>
    refine go _ r (st.t.put i (some (.src r))) h0 (fun _ _ z => z.2) (put r) fun a0 b0 s2 tk z R2 => ?_
    have R3 := R2.newSym (drawOf (t + 1) a0 b0 : Nat)
    refine C ⟨m.ρ, m.σ ++ [((drawOf (t + 1) a0 b0 : Nat) : Int)]⟩ (.ret (.sym st.k)) _ _ s2 ⟨⟨[], by simp⟩, ⟨_, rfl⟩⟩ R3 ⟨_, rfl, ⟨_, tk, ?_, rfl⟩⟩ e3
    show (m.σ ++ [((drawOf (t + 1) a0 b0 : Nat) : Int)])[st.k]? = _
    rw [← R.syms]; simp
/-- the heads of the functions known by hand -/
noncomputable def headOk (P : Pg) (a : Addr) (l : List (Nat × Bool)) : Bool := match P.fn a with
  | some f => decide (f.params = l) && f.cellNames.isEmpty
  | none => false
theorem head_619 (p : Params) : headOk (P0 p) 619 [(sid "source", false), (sid "top", false)] = true := by kernel_rfl
theorem head_of {p : Params} (x : GK G p) {a : Addr} {l : List (Nat × Bool)} (e : headOk (P0 p) a l = true) : ∃ f, G.P.fn a = some f ∧ f.params = l ∧ f.cellNames = [] := by
  unfold headOk at e
  rw [x.fn a]
  cases q : (P0 p).fn a with
  | none => rw [q] at e; (first | exact (ff e).elim | exact (nn e).elim | cases e)
  | some f =>
    rw [q] at e
    obtain ⟨e1, e2⟩ := Bool.and_eq_true_iff.mp e
    exact ⟨f, rfl, of_decide_eq_true e1, List.isEmpty_iff.mp e2⟩
theorem take_ok {p : Params} (x : GK G p) : SumOk G 619 takeSum 101 := by
  obtain ⟨f, hf, h1, h2⟩ := head_of x (head_619 p)
  refine sum_of x.g hf h2 (take_xs x hf) fun xs k st e => ?_
  obtain ⟨i, n, rfl, h3, h4, D⟩ := take_cases e
  refine ⟨[(sid "source", .ref i), (sid "top", .int (.ofNat n))], by rw [h1]; rfl, by rw [h1]; rfl, ?_⟩
  show takeSum [.ref i, .int (.ofNat n)] (fun r s' => k r ⟨s'.n, s'.k, s'.t, st.fr, s'.fd⟩) ⟨st.n, st.k, st.t, [(sid "source", .ref i), (sid "top", .int (.ofNat n))], st.fd⟩ = true
  obtain ⟨n0, k0, t, fr, fd⟩ := st
  have : takeSum [.ref i, .int (.ofNat n)] k ⟨n0, k0, t, fr, fd⟩ = takeSum [.ref i, .int (.ofNat n)] (fun r s' => k r ⟨s'.n, s'.k, s'.t, fr, s'.fd⟩) ⟨n0, k0, t, [(sid "source", .ref i), (sid "top", .int (.ofNat n))], fd⟩ := by
    show ifO (t.get i) false _ = ifO (t.get i) false _
    cases t.get i with
    | none => rfl
    | some o =>
      cases o with
      | src fs =>
        show ifB (Nat.ble 1 n) (ifB (Nat.ble n 1000) _ false) false = ifB (Nat.ble 1 n) (ifB (Nat.ble n 1000) _ false) false
        congr 2
        cases fs with
        | nil =>
          dsimp only
          cases Nat.ble n 12 with
          | true => exact any_fr _
          | false => rfl
        | cons pr r => rfl
      | _ => rfl
  rw [this] at e
  exact e
end Sx
end
section
open PySem PySem.W PySem.Calls PyProof.Rows
namespace Sx
set_option maxRecDepth 100000
noncomputable abbrev growOf (c : Int) : Int := ifB (iLt c (-1 - c)) (-1 - c) c
noncomputable abbrev seedOf (g : Int) : Int := Int.fmod ((Int.fmod g 2147483629 + 218) * 48271) 2147483647
noncomputable abbrev plFr (c g : Int) : List (Nat × V) := [(sid "script", .ref 0), (sid "cell", .int c), (sid "grown", .int g)]
theorem pool_nil (p : Params) (k : Fl → St → Bool) (ob : Obj) : runB (P0 p) 612 k ⟨1, 0, T.put .nil 0 (some (.fix ob [])), [(sid "script", .ref 0)], []⟩ =
    k (.ret (.ref 1)) ⟨2, 0, (T.put .nil 0 (some (.fix ob []))).put 1 (some (.list [.int 0, .int (seedOf 0)])), plFr 0 0, []⟩ := by kernel_rfl
theorem pool_cons (p : Params) (k : Fl → St → Bool) (ob : Obj) (c : Int) (rest : List V) : runB (P0 p) 612 k ⟨1, 0, T.put .nil 0 (some (.fix ob (.int c :: rest))), [(sid "script", .ref 0)], []⟩ =
    ifB (short (.int c :: rest)) (ifB (short (.int c :: rest)) (ifB (!(iLt (growOf c) 1000000000000000000))
      (k (.ret (.ref 1)) ⟨2, 0, (T.put .nil 0 (some (.fix ob (.int c :: rest)))).put 1 (some (.list [.int (growOf c), .int (seedOf (growOf c))])), plFr c (growOf c), []⟩)
      (k (.ret (.ref 1)) ⟨2, 0, (T.put .nil 0 (some (.fix ob (.int c :: rest)))).put 1 (some (.list [.int 0, .int (seedOf (growOf c))])), plFr c (growOf c), []⟩)) false) false := by kernel_rfl
theorem head_612 (p : Params) : headOk (P0 p) 612 [(sid "script", false)] = true := by kernel_rfl
end Sx
end
section
open PySem PySem.W PySem.Calls PyProof.Rows
namespace Sx
set_option maxRecDepth 100000
variable {G : Gl} {B : Base} {m : Wm} {st : St} {s : Shared} {A : Around} {env : Env} {E : Value → Shared → Prop} {n : Nat} {h : Ih} {c : Cx}
/-- the source of a script -/
noncomputable def poolSum (vs : List V) : EM V := match vs with
  | [.ref i] => fun k s => look i (fun o s => match o with
    | .scr => newRef (.src []) k s
    | _ => false) s
  | _ => EM.fail
noncomputable def poolF : EM Fl := fun k s => ifO (lk (sid "script") s.fr) false fun v => poolSum [v] (fun r s' => k (.ret r) ⟨s'.n, s'.k, s'.t, [], s'.fd⟩) s
theorem ints_rel {m : Wm} : ∀ {ks : List Int} {vs : List Value}, IntsAre vs ks → VsRel m (ks.map V.int) vs
  | [], _, .nil => trivial
  | _ :: _, _, .cons n t r => ⟨⟨t, rfl⟩, ints_rel r⟩
theorem ints_of {m : Wm} : ∀ {ks : List Int} {vs : List Value}, VsRel m (ks.map V.int) vs → IntsAre vs ks
  | [], [], _ => .nil
  | k :: ks, v :: vs, h => by
    obtain ⟨⟨t, rfl⟩, b⟩ := h
    exact .cons k t (ints_of b)
theorem grow_pos (c : Int) : 0 ≤ growOf c := by
  unfold growOf
  rw [iLt_lt]
  by_cases q : c < -1 - c
  · rw [decide_eq_true q]; show 0 ≤ -1 - c; omega
  · rw [decide_eq_false q]; show 0 ≤ c; omega
theorem seed_at {g : Int} (h : 0 ≤ g) : ∃ b : Nat, seedOf g = .ofNat b ∧ b < 2147483647 := by
  obtain ⟨n, rfl⟩ := Int.eq_ofNat_of_zero_le h
  refine ⟨(n % 2147483629 + 218) * 48271 % 2147483647, ?_, Nat.mod_lt _ (by decide)⟩
  show Int.fmod ((Int.fmod (.ofNat n) (.ofNat 2147483629) + 218) * 48271) 2147483647 = _
  rw [fmod_nat]
  show Int.fmod (.ofNat ((n % 2147483629 + 218) * 48271)) (.ofNat 2147483647) = _
  exact fmod_nat _ _
theorem pool_xs {p : Params} (x : GK G p) {f : Fn} (hf : G.P.fn 612 = some f) : XsAt G ⟨f.sc, [], f.code⟩ f.body poolF 100 := by
  intro B m k st s A env Q E e hE hB R O C
  obtain ⟨v, hs, e1⟩ := ifO_ff e
  cases v with
  | ref i =>
    obtain ⟨o, h0, e2⟩ := ifO_ff (o := st.t.get i) e1
    cases o with
    | scr =>
      obtain ⟨h1, e3⟩ := ifB_ff (b := Nat.blt st.n 512) e2
      have h1 := Nat.blt_eq.mp h1
      have hsrc : ∃ a, m.ρ[i]? = some a := by
        obtain ⟨ff, _, y⟩ := R.loc
        obtain ⟨_, _, a, q, _⟩ := y ("script" : Str) (.ref i) (by decide +kernel) hs
        exact ⟨a, q⟩
      obtain ⟨a, hi⟩ := hsrc
      obtain ⟨a', ob, z1, z2, z0, items, nn, ks, zs, z3, z4⟩ := R.objs i _ (R.lt hi) h0
      cases hi.symm.trans z1
      have ho : ORel G ⟨[a], []⟩ [] s.heap (.fix G.scr (ks.map V.int)) ob := ⟨z0, _, _, zs, ints_rel z3⟩
      have R0 := (R.only (fr := [(sid "script", .ref 0)]) hi z2 rfl ho (fun ff hff y w oy e => by
        rw [lk_cons, lk_nil] at e
        split at e
        · rename_i e1; (first | exact (ff e).elim | exact (nn e).elim | cases e)
          obtain ⟨w', p1, b, p2, p3⟩ := hff y (.ref i) oy (by rw [e1]; exact hs)
          exact ⟨w', p1, b, by cases hi.symm.trans p2; rfl, p3⟩
        · (first | exact (ff e).elim | exact (nn e).elim | cases e))).toP (P0 p)
      have I := run_ok (x.g0 (fun _ => none)) (GK.none_ok (G := G) (p := p)) 100
      have hE0 : EnvOk ⟨[a], []⟩ ⟨f.sc, [], f.code⟩ env := { hE with cells := fun _ _ _ z => by cases z }
      have hf0 : (P0 p).fn 612 = some f := (x.fn 612).symm.trans hf
      have run_eq : ∀ (k : Fl → St → Bool) (s0 : St), runB (P0 p) 612 k s0 = (run (P0 p) 100).xs ⟨f.sc, [], f.code⟩ f.body k s0 := fun k s0 => by unfold runB; rw [hf0]
      have fin : ∀ (ga sb : Int) (fr' : List (Nat × V)) (a0 b0 : Nat), ga = .ofNat a0 → sb = .ofNat b0 → b0 < 2147483647 →
          runB (P0 p) 612 (justK (.ret (.ref 1)) ⟨2, 0, (T.put .nil 0 (some (.fix G.scr (ks.map V.int)))).put 1 (some (.list [.int ga, .int sb])), fr', []⟩) ⟨1, 0, T.put .nil 0 (some (.fix G.scr (ks.map V.int))), [(sid "script", .ref 0)], []⟩ = true →
          wpAny (model G.prog G.w) A (execs f.body env) Q E s := fun ga sb fr' a0 b0 e1 e2 hb e4 => by
        rw [run_eq] at e4
        refine I.xs ⟨s.heap, [a], B.L⟩ ⟨[a], []⟩ _ _ _ _ s A env Q E e4 hE0 hB R0 O fun m2 r st2 fl s2 l2 R2 r2 e5 => ?_
        obtain ⟨rfl, rfl⟩ := justK_of e5
        obtain ⟨w, rfl, r3⟩ := r2
        obtain ⟨a1, hi1, rfl⟩ := r3
        have t0 : ((T.put .nil 0 (some (.fix G.scr (ks.map V.int)))).put 1 (some (.list [.int ga, .int sb]))).get 0 = some (.fix G.scr (ks.map V.int)) := by
          rw [T.get_put _ (by decide) (by decide), if_neg (by decide), T.get_put _ (by decide) (by decide), if_pos rfl]
        have t1 : ((T.put .nil 0 (some (.fix G.scr (ks.map V.int)))).put 1 (some (.list [.int ga, .int sb]))).get 1 = some (.list [.int ga, .int sb]) := by
          rw [T.get_put _ (by decide) (by decide), if_pos rfl]
        obtain ⟨a', ob', g1, g2, g3, _⟩ := R2.objs 0 _ (show 0 < 2 by decide) t0
        obtain ⟨a1', ob1, k1, k2, items1, nn1, rfl, hv1⟩ := R2.objs 1 _ (show 1 < 2 by decide) t1
        cases hi1.symm.trans k1
        have ha : m2.ρ[0]? = some a := l2.at (m := ⟨[a], []⟩) (i := 0) (a := a) rfl
        cases ha.symm.trans g1
        have ne : a1 ≠ a := fun q => by
          subst q
          have := idx_inj R2.nodup hi1 ha
          (first | exact (ff this).elim | exact (nn this).elim | cases this)
        have new : s.heap.get? a1 = none := by
          rcases R2.newer a1 (List.mem_of_getElem? hi1) with q | q
          · exact absurd (List.mem_singleton.mp q) ne
          · exact q
        have self : ∀ j, j < 512 → st.t.get j = if i = j then some .scr else st.t.get j := fun j _ => by
          by_cases q : i = j
          · rw [if_pos q, ← q]; exact h0
          · rw [if_neg q]
        have R3 := R.after (o1 := .scr) hi h0 rfl rfl R2.ofP g2 (show ORel G m st.fd s2.heap .scr _ from ⟨g3, items, nn, ks, zs, z3, z4⟩) self
        obtain ⟨ll⟩ := items1
        rcases ll with _ | ⟨v1, _ | ⟨v2, _ | ⟨v3, ll⟩⟩⟩
        · exact hv1.elim
        · exact hv1.2.elim
        · obtain ⟨⟨u', rfl⟩, ⟨v', rfl⟩, _⟩ := hv1
          have ho1 : ORel G (m.add a1) st.fd s2.heap (.src []) { cls := .type "list", data := .seq #[.int ga u', .int sb v'] nn1 } := ⟨nn1, a0, b0, u', v', by rw [e1, e2]; rfl, hb, trivial⟩
          have R4 := R3.addFar (h' := s2.heap) (t := s2.toks) (R.far new) h1 rfl (fun _ _ z => z) k2 ho1
          refine C (m.add a1) (.ret (.ref st.n)) _ _ s2 (m.le_add a1) R4 ⟨_, rfl, a1, ?_, rfl⟩ e3
          rw [← R.len]; exact m.add_at a1
        · exact hv1.2.2.elim
      cases ks with
      | nil =>
        obtain ⟨b0, q1, q2⟩ := seed_at (Int.le_refl 0)
        exact fin 0 (seedOf 0) (plFr 0 0) 0 b0 rfl q1 q2 (by rw [show ([] : List Int).map V.int = [] from rfl, pool_nil]; exact justK_at _ _)
      | cons c rest =>
        have sh : short (V.int c :: rest.map V.int) = true := by
          unfold short
          refine Nat.ble_eq.mpr ?_
          rw [List.length_cons] at z4
          rw [List.length_cons, List.length_map]
          omega
        obtain ⟨b0, q1, q2⟩ := seed_at (grow_pos c)
        cases hg : (!(iLt (growOf c) 1000000000000000000)) with
        | true =>
          obtain ⟨a0, ha0⟩ := Int.eq_ofNat_of_zero_le (grow_pos c)
          exact fin (growOf c) (seedOf (growOf c)) (plFr c (growOf c)) a0 b0 ha0 q1 q2 (by
            rw [show (c :: rest).map V.int = V.int c :: rest.map V.int from rfl, pool_cons, sh, hg]; exact justK_at _ _)
        | false =>
          exact fin 0 (seedOf (growOf c)) (plFr c (growOf c)) 0 b0 rfl q1 q2 (by
            rw [show (c :: rest).map V.int = V.int c :: rest.map V.int from rfl, pool_cons, sh, hg]; exact justK_at _ _)
    | _ => (first | exact (ff e2).elim | exact (nn e2).elim | cases e2)
  | _ => (first | exact (ff e1).elim | exact (nn e1).elim | cases e1)
theorem pool_ok {p : Params} (x : GK G p) : SumOk G 612 poolSum 101 := by
  obtain ⟨f, hf, h1, h2⟩ := head_of x (head_612 p)
  refine sum_of x.g hf h2 (pool_xs x hf) fun xs k st e => ?_
  rcases xs with _ | ⟨v, _ | ⟨w, xs⟩⟩
  · (first | exact (ff e).elim | exact (nn e).elim | cases e)
  · refine ⟨[(sid "script", v)], by rw [h1]; rfl, by rw [h1]; rfl, ?_⟩
    cases v with
    | ref i => exact e
    | _ => (first | exact (ff e).elim | exact (nn e).elim | cases e)
  · (first | exact (ff v).elim | exact (nn v).elim | cases v) <;> (first | exact (ff e).elim | exact (nn e).elim | cases e)
end Sx
end
section
open PySem PySem.W PySem.Calls PyProof.Rows
namespace Sx
set_option maxRecDepth 100000
variable {G : Gl} {B : Base} {m : Wm} {st : St} {s : Shared} {A : Around} {env : Env} {E : Value → Shared → Prop} {n : Nat} {h : Ih} {c : Cx}
/-! some objects alone, numbered anew -/
theorem Rel.onlyL (R : Rel G B m st s) {as : List Addr} {os : List O} {t : T} {fr : List (Nat × V)} (nd : as.Nodup) (hm : ∀ a ∈ as, a ∈ m.ρ) (hl : as.length = os.length) (h512 : as.length ≤ 512) (gp : ∀ j, j < 512 → t.get j = os[j]?)
    (ho : ∀ (j : Nat) (a : Addr) (o : O), as[j]? = some a → os[j]? = some o → o.isInst = false ∧ ∃ ob, s.heap.get? a = some ob ∧ ORel G ⟨as, []⟩ [] s.heap o ob)
    (hfr : ∀ f : Str → Option Value, (∀ x v, okS x = true → lk (sid x) st.fr = some v → ∃ w, f x = some w ∧ VRel m v w) → ∀ x v, okS x = true → lk (sid x) fr = some v → ∃ w, f x = some w ∧ VRel ⟨as, []⟩ v w) :
    Rel G ⟨s.heap, as, B.L⟩ ⟨as, []⟩ ⟨as.length, 0, t, fr, []⟩ s := by
  have at' : ∀ (j : Nat) (o : O), j < as.length → t.get j = some o → ∃ a, as[j]? = some a ∧ os[j]? = some o := fun j o hj e => by
    rw [gp j (by omega)] at e
    exact ⟨as[j], List.getElem?_eq_getElem hj, e⟩
  refine { len := rfl, le := h512, syms := rfl, nodup := nd, here := fun b hb => R.here b (hm b hb), newer := fun b hb => .inl hb, pre := fun b hb => hb,
           keep := fun b o h _ _ _ => h, loc := ?_, locFar := fun h => R.locFar (hm _ h), tblFar := ⟨fun h => R.tblFar.1 (hm _ h), R.tblFar.2⟩, tb := R.tb, kb := ?_, objs := ?_, clean := ?_, owns := ?_,
           gens := R.gens, drawn := R.drawn, os := R.os }
  · obtain ⟨f, x, y⟩ := R.loc; exact ⟨f, x, hfr f y⟩
  · intro b o q
    obtain ⟨x, y, z, w⟩ := R.kbHere b o q
    exact ⟨x, fun h => y (hm _ h), z, w⟩
  · intro j o hj q
    obtain ⟨a, h1, h2⟩ := at' j o hj q
    obtain ⟨_, ob, h3, h4⟩ := ho j a o h1 h2
    exact ⟨a, ob, h1, h3, h4⟩
  · intro j h1 h2
    have h1 : as.length ≤ j := h1
    show t.get j = none
    rw [gp j h2]
    exact List.getElem?_eq_none (by omega)
  · intro j C d ms hj q
    obtain ⟨a, h1, h2⟩ := at' j _ hj q
    have := (ho j a _ h1 h2).1
    (first | exact (ff this).elim | exact (nn this).elim | cases this)
/-- back to the whole: only those objects have changed -/
theorem Rel.afterL {m2 : Wm} {st2 : St} {s2 : Shared} {as : List Addr} (R : Rel G B m st s) (hm : ∀ a ∈ as, a ∈ m.ρ) (R2 : Rel G ⟨s.heap, as, B.L⟩ m2 st2 s2) {t' : T} (clean : ∀ j, st.n ≤ j → j < 512 → t'.get j = none)
    (hold : ∀ (i : Nat) (o : O), i < st.n → t'.get i = some o → (st.t.get i = some o ∧ ∀ a, m.ρ[i]? = some a → a ∉ as) ∨ (o.isInst = false ∧ ∃ a ob, m.ρ[i]? = some a ∧ s2.heap.get? a = some ob ∧ ORel G m st.fd s2.heap o ob))
    (owns : ∀ j C d ms, j < st.n → t'.get j = some (.inst C d ms) → t'.get d = some (.own j) ∧ ∀ a, m.ρ[d]? = some a → a ∉ as) : Rel G B m ⟨st.n, st.k, t', [], st.fd⟩ s2 := by
  have kp : ∀ b o, b ∉ as → b ≠ B.L → b ≠ G.tbl → s.heap.get? b = some o → s2.heap.get? b = some o := fun b o h1 h2 h3 h => R2.keep b o h h1 h2 h3
  have km : ∀ b o, b ∈ m.ρ → b ∉ as → s.heap.get? b = some o → s2.heap.get? b = some o := fun b o h1 h2 h => kp b o h2 (fun q => R.locFar (q ▸ h1)) (fun q => R.tblFar.1 (q ▸ h1)) h
  refine { R with here := ?_, keep := ?_, loc := ?_, tb := R2.tb, objs := ?_, clean := clean, owns := ?_, gens := R2.gens, drawn := R2.drawn, os := R2.os }
  · intro b hb
    by_cases q : b ∈ as
    · exact R2.here b (R2.pre b q)
    · obtain ⟨o, e⟩ := R.here b hb; exact ⟨o, km b o hb q e⟩
  · intro b o h1 h2 h3 h4
    refine kp b o (fun q => ?_) h3 h4 (R.keep b o h1 h2 h3 h4)
    rcases R.newer b (hm b q) with z | z
    · exact h2 z
    · rw [z] at h1; (first | exact (ff h1).elim | exact (nn h1).elim | cases h1)
  · obtain ⟨f, x, _⟩ := R2.loc; exact ⟨f, x, fun _ _ _ z => by (first | exact (ff z).elim | exact (nn z).elim | cases z)⟩
  · intro j o' hj q
    dsimp only at q hj
    rcases hold j o' hj q with ⟨p1, p2⟩ | ⟨_, a, ob, p1, p2, p3⟩
    · obtain ⟨b, ob', x', y, z⟩ := R.objs j o' hj p1
      refine ⟨b, ob', x', km _ _ (List.mem_of_getElem? x') (p2 b x') y, z.mono (Wm.Le.refl m) fun C d ms dx f e1 h1 h2 => ?_⟩
      subst e1
      obtain ⟨o, es, ep, z1, r⟩ := h2
      exact ⟨o, es, ep, km _ _ (List.mem_of_getElem? h1) ((owns j C d ms hj q).2 dx h1) z1, r⟩
    · exact ⟨a, ob, p1, p2, p3⟩
  · intro j C d ms hj q
    dsimp only at q hj ⊢
    refine ⟨?_, (owns j C d ms hj q).1⟩
    rcases hold j _ hj q with ⟨p1, _⟩ | ⟨p1, _⟩
    · exact (R.owns j C d ms hj p1).1
    · (first | exact (ff p1).elim | exact (nn p1).elim | cases p1)
/-! bodies known by hand, with cells -/
noncomputable def XsAtC (G : Gl) (sc : Scope) (code : Nat) (ss0 : List Stmt) (F : Cx → EM Fl) (n : Nat) : Prop := ∀ (B : Base) (m : Wm) (c : Cx) (k : Fl → St → Bool) (st : St) (s : Shared) (A : Around) (env : Env) (Q : Flow → Shared → Prop) (E : Value → Shared → Prop),
  c.sc = sc → c.code = code → F c k st = true → EnvOk m c env → B.L = env.locals → Rel G B m st s → Okay n A → Cont G B m FRel k Q → wpAny (model G.prog G.w) A (execs ss0 env) Q E s
open Classical in
noncomputable def onlyC (sc : Scope) (code : Nat) (ss0 : List Stmt) (F : Cx → EM Fl) : Ih := ⟨fun _ _ => EM.fail, fun c ss k st => if c.sc = sc ∧ c.code = code ∧ ss = ss0 then F c k st else false, fun _ _ => EM.fail⟩
theorem only_c {sc : Scope} {code : Nat} {ss0 : List Stmt} {F : Cx → EM Fl} (X : XsAtC G sc code ss0 F n) : SXs G (onlyC sc code ss0 F) n := by
  intro B m c ss k st s A env Q E e hE hB R O C
  unfold onlyC at e
  dsimp only at e
  split at e
  · rename_i q
    obtain ⟨h1, h2, rfl⟩ := q
    exact X B m c k st s A env Q E h1 h2 e hE hB R O C
  · (first | exact (ff e).elim | exact (nn e).elim | cases e)
theorem onlyC_at {sc : Scope} {code : Nat} {ss0 : List Stmt} {F : Cx → EM Fl} {c : Cx} (h1 : c.sc = sc) (h2 : c.code = code) : (onlyC sc code ss0 F).xs c ss0 = F c := by
  funext k st
  unfold onlyC
  dsimp only
  rw [if_pos ⟨h1, h2, rfl⟩]
theorem sum_ofC (g : GOk G) {a : Addr} {f : Fn} {u : List V → EM V} {F : Cx → EM Fl} (hf : G.P.fn a = some f) (X : XsAtC G f.sc f.code f.body F n)
    (hu : ∀ xs k st, u xs k st = true → callFn (onlyC f.sc f.code f.body F) f xs k st = true) : SumOk G a u (n + 1) := by
  intro B m xs k st s A vs Q e hx R O C
  exact callFn_sound g (h := onlyC f.sc f.code f.body F) (only_c X) hf (hu xs k st e) hx R O C
end Sx
end
section
open PySem PySem.W PySem.Calls PyProof.Rows
namespace Sx
set_option maxRecDepth 100000
variable {G : Gl} {B : Base} {m : Wm} {st : St} {s : Shared} {A : Around} {env : Env} {E : Value → Shared → Prop} {n : Nat} {h : Ih} {c : Cx}
/-! a call that makes things out of nothing is known by what it leaves -/
noncomputable def shV (n : Nat) (v : V) : V := match v with
  | .ref i => .ref (Nat.add n i)
  | .none => .none
  | .tt b => .tt b
  | .int i => .int i
  | .str x => .str x
  | .old a => .old a
  | .sym _ => .none
  | .bi b => .bi b
noncomputable def shVs (n : Nat) : List V → List V
  | [] => []
  | x :: r => shV n x :: shVs n r
noncomputable def shMs (n : Nat) : List (Nat × V) → List (Nat × V)
  | [] => []
  | p :: r => (p.1, shV n p.2) :: shMs n r
noncomputable def shEs (n : Nat) : List (V × V) → List (V × V)
  | [] => []
  | p :: r => (p.1, shV n p.2) :: shEs n r
noncomputable def shO (n : Nat) (o : O) : O := match o with
  | .list xs => .list (shVs n xs)
  | .tup xs => .tup (shVs n xs)
  | .inst C d ms => .inst C (Nat.add n d) (shMs n ms)
  | .own j => .own (Nat.add n j)
  | .dict es => .dict (shEs n es)
  | .fset => .fset
  | _ => .opq
/-- the same thing, numbered anew: the number i there is the number sel i here -/
noncomputable def maV (sel : List Nat) (a b : V) : Bool := match a with
  | .none => match b with
    | .none => true
    | _ => false
  | .tt x => match b with
    | .tt y => match x with
      | true => y
      | false => !y
    | _ => false
  | .int x => match b with
    | .int y => iEq x y
    | _ => false
  | .str x => match b with
    | .str y => Nat.beq x y
    | _ => false
  | .old x => match b with
    | .old y => Nat.beq x y
    | _ => false
  | .ref i => match b with
    | .ref j => ifO (sel[i]?) false fun k => Nat.beq k j
    | _ => false
  | _ => false
noncomputable def maVs (sel : List Nat) : List V → List V → Bool
  | [], ys => match ys with
    | [] => true
    | _ :: _ => false
  | x :: xs, ys => match ys with
    | [] => false
    | y :: ys => ifB (maV sel x y) (maVs sel xs ys) false
noncomputable def maMs (sel : List Nat) : List (Nat × V) → List (Nat × V) → Bool
  | [], ys => match ys with
    | [] => true
    | _ :: _ => false
  | x :: xs, ys => match ys with
    | [] => false
    | y :: ys => ifB (Nat.beq x.1 y.1) (ifB (maV sel x.2 y.2) (maMs sel xs ys) false) false
noncomputable def maEs (sel : List Nat) : List (V × V) → List (V × V) → Bool
  | [], ys => match ys with
    | [] => true
    | _ :: _ => false
  | x :: xs, ys => match ys with
    | [] => false
    | y :: ys => ifB (maV [] x.1 y.1) (ifB (maV sel x.2 y.2) (maEs sel xs ys) false) false
noncomputable def maO (sel : List Nat) (a b : O) : Bool := match a with
  | .list xs => match b with
    | .list ys => maVs sel xs ys
    | _ => false
  | .tup xs => match b with
    | .tup ys => maVs sel xs ys
    | _ => false
  | .inst C d ms => match b with
    | .inst C' d' ms' => ifB (Nat.beq C C') (ifO (sel[d]?) false fun k => ifB (Nat.beq k d') (maMs sel ms ms') false) false
    | _ => false
  | .own _ => true
  | .dict xs => match b with
    | .dict ys => maEs sel xs ys
    | _ => false
  | .fset => match b with
    | .fset => true
    | _ => false
  | .opq => true
  | _ => false
theorem maV_cases {sel : List Nat} {a b : V} (e : maV sel a b = true) : (∃ i j, a = .ref i ∧ b = .ref j ∧ sel[i]? = some j) ∨ (b = a ∧ ∀ (n : Nat) (m2 m : Wm) (v : Value), VRel m2 a v → VRel m (shV n a) v) := by
  cases a with
  | ref i =>
    cases b with
    | ref j =>
      obtain ⟨k, h1, h2⟩ := ifO_ff (o := sel[i]?) e
      exact .inl ⟨i, j, rfl, rfl, by rw [h1, Nat.beq_eq.mp h2]⟩
    | _ => exact (ff e).elim
  | none => right; cases b <;> first | exact ⟨rfl, fun _ _ _ _ r => r⟩ | exact (ff e).elim
  | tt x =>
    right
    cases b with
    | tt y => cases x <;> cases y <;> first | exact ⟨rfl, fun _ _ _ _ r => r⟩ | exact (ff e).elim
    | _ => exact (ff e).elim
  | int x =>
    right
    cases b with
    | int y => have e : iEq x y = true := e; rw [iEq_eq] at e; exact ⟨by rw [of_decide_eq_true e], fun _ _ _ _ r => r⟩
    | _ => exact (ff e).elim
  | str x =>
    right
    cases b with
    | str y => exact ⟨by rw [Nat.beq_eq.mp e], fun _ _ _ _ r => r⟩
    | _ => exact (ff e).elim
  | old x =>
    right
    cases b with
    | old y => exact ⟨by rw [Nat.beq_eq.mp e], fun _ _ _ _ r => r⟩
    | _ => exact (ff e).elim
  | _ => exact (ff e).elim
/-- the numbers there, laid into the numbers here -/
structure Into (sel : List Nat) (n : Nat) (m2 m : Wm) : Prop where
  at' : ∀ i j x, sel[i]? = some j → m2.ρ[j]? = some x → m.ρ[n + i]? = some x
  sy : m2.σ = []
theorem maV_sound {sel : List Nat} {m2 : Wm} (T : Into sel n m2 m) {a b : V} {v : Value} (e : maV sel a b = true) (r : VRel m2 b v) : VRel m (shV n a) v := by
  rcases maV_cases e with ⟨i, j, rfl, rfl, hs⟩ | ⟨rfl, q⟩
  · obtain ⟨x, h1, h2⟩ := r
    exact ⟨x, T.at' i j x hs h1, h2⟩
  · exact q n m2 m v r
theorem maVs_sound {sel : List Nat} {m2 : Wm} (T : Into sel n m2 m) {xs : List V} : ∀ {ys : List V} {vs : List Value}, maVs sel xs ys = true → VsRel m2 ys vs → VsRel m (shVs n xs) vs := by
  induction xs with
  | nil =>
    intro ys vs e r
    cases ys with
    | nil => cases vs with
      | nil => trivial
      | cons => exact r.elim
    | cons => exact (ff e).elim
  | cons x xs ih =>
    intro ys vs e r
    cases ys with
    | nil => exact (ff e).elim
    | cons y ys =>
      obtain ⟨h1, h2⟩ := ifB_ff (b := maV sel x y) e
      cases vs with
      | nil => exact r.elim
      | cons v vs => exact ⟨maV_sound T h1 r.1, ih h2 r.2⟩
theorem maEs_sound {sel : List Nat} {m2 : Wm} (T : Into sel n m2 m) {K : Type} {kk : K → V → Prop} {xs : List (V × V)} : ∀ {ys : List (V × V)} {vs : List (K × Value)}, maEs sel xs ys = true → EsRel kk m2 ys vs → EsRel kk m (shEs n xs) vs := by
  induction xs with
  | nil =>
    intro ys vs e r
    cases ys with
    | nil => cases vs with
      | nil => trivial
      | cons => exact r.elim
    | cons => exact (ff e).elim
  | cons x xs ih =>
    intro ys vs e r
    cases ys with
    | nil => exact (ff e).elim
    | cons y ys =>
      obtain ⟨h0, e⟩ := ifB_ff (b := maV [] x.1 y.1) e
      obtain ⟨h1, h2⟩ := ifB_ff (b := maV sel x.2 y.2) e
      cases vs with
      | nil => exact r.elim
      | cons v vs =>
        have hk : x.1 = y.1 := by
          rcases maV_cases h0 with ⟨i, j, _, _, q⟩ | ⟨q, _⟩
          · exact (nn q).elim
          · exact q.symm
        exact ⟨by show kk v.1 x.1; rw [hk]; exact r.1, maV_sound T h1 r.2.1, ih h2 r.2.2⟩
theorem maMs_len {sel : List Nat} {xs : List (Nat × V)} : ∀ {ys : List (Nat × V)}, maMs sel xs ys = true → (shMs n xs).length = ys.length := by
  induction xs with
  | nil => intro ys e; cases ys with
    | nil => rfl
    | cons => exact (ff e).elim
  | cons x xs ih =>
    intro ys e
    cases ys with
    | nil => exact (ff e).elim
    | cons y ys => exact congrArg (· + 1) (ih (ifB_ff (b := maV sel x.2 y.2) (ifB_ff (b := Nat.beq x.1 y.1) e).2).2)
theorem maMs_lk {sel : List Nat} {z : Nat} {xs : List (Nat × V)} : ∀ {ys : List (Nat × V)}, maMs sel xs ys = true → (lk z ys = none ∧ lk z (shMs n xs) = none) ∨ ∃ a b, lk z ys = some b ∧ lk z (shMs n xs) = some (shV n a) ∧ maV sel a b = true := by
  induction xs with
  | nil => intro ys e; cases ys with
    | nil => exact .inl ⟨rfl, rfl⟩
    | cons => exact (ff e).elim
  | cons x xs ih =>
    intro ys e
    cases ys with
    | nil => exact (ff e).elim
    | cons y ys =>
      obtain ⟨h0, e⟩ := ifB_ff (b := Nat.beq x.1 y.1) e
      obtain ⟨h1, h2⟩ := ifB_ff (b := maV sel x.2 y.2) e
      have h0 := Nat.beq_eq.mp h0
      rw [show shMs n (x :: xs) = (x.1, shV n x.2) :: shMs n xs from rfl, lk_cons, lk_cons]
      by_cases q : z = y.1
      · rw [if_pos q, if_pos (q.trans h0.symm)]; exact .inr ⟨x.2, y.2, rfl, rfl, h1⟩
      · rw [if_neg q, if_neg (fun w => q (w.trans h0))]; exact ih h2
theorem maO_sound {sel : List Nat} {m2 : Wm} {fd fd' : List (Nat × Nat)} {hh : Heap} (T : Into sel n m2 m) {a b : O} {ob : Obj} (e : maO sel a b = true) (r : ORel G m2 fd hh b ob) : ORel G m fd' hh (shO n a) ob := by
  cases a with
  | list xs =>
    cases b with
    | list ys => obtain ⟨i, k, h1, h2⟩ := r; exact ⟨i, k, h1, maVs_sound T e h2⟩
    | _ => exact (ff e).elim
  | tup xs =>
    cases b with
    | tup ys => obtain ⟨c, i, k, h1, h2⟩ := r; exact ⟨c, i, k, h1, maVs_sound T e h2⟩
    | _ => exact (ff e).elim
  | dict xs =>
    cases b with
    | dict ys =>
      rcases r with ⟨kvs, h1, h2⟩ | ⟨kvs, h1, h2⟩
      · exact .inl ⟨kvs, h1, maEs_sound T e h2⟩
      · exact .inr ⟨kvs, h1, maEs_sound T e h2⟩
    | _ => exact (ff e).elim
  | inst C d ms =>
    cases b with
    | inst C' d' ms' =>
      obtain ⟨h1, e1⟩ := ifB_ff (b := Nat.beq C C') e
      obtain ⟨k, h2, e2⟩ := ifO_ff (o := sel[d]?) e1
      obtain ⟨h3, e3⟩ := ifB_ff (b := Nat.beq k d') e2
      clear e e1 e2
      have h1 := Nat.beq_eq.mp h1
      have h3 := Nat.beq_eq.mp h3
      subst h1 h3
      obtain ⟨dx, f, r1, r2, r3, r4⟩ := r
      refine ⟨dx, f, T.at' d k dx h2 r1, r2, (maMs_len (n := n) e3).symm ▸ r3, fun y hy => ?_⟩
      have := r4 y hy
      rcases maMs_lk (n := n) (z := sid y) e3 with ⟨q1, q2⟩ | ⟨a, b, q1, q2, q3⟩
      · rw [q1] at this; rw [q2]; exact this
      · rw [q1] at this; rw [q2]
        obtain ⟨w, w1, w2⟩ := this
        exact ⟨w, w1, maV_sound T q3 w2⟩
    | _ => exact (ff e).elim
  | fset =>
    cases b with
    | fset => exact r
    | _ => exact (ff e).elim
  | own j => trivial
  | opq => trivial
  | _ => exact (ff e).elim
/-- laid into the table, from a place on -/
noncomputable def lay (n : Nat) : List O → Nat → T → T
  | [], _, t => t
  | o :: r, j, t => lay n r (Nat.add j 1) (t.put (Nat.add n j) (some (shO n o)))
theorem lay_get {os : List O} : ∀ {j i : Nat} {t : T}, n + j + os.length ≤ 512 → i < 512 → (lay n os j t).get i = if n + j ≤ i ∧ i < n + j + os.length then (os[i - (n + j)]?).map (shO n) else t.get i := by
  induction os with
  | nil => intro j i t h1 h2; show t.get i = _; rw [if_neg (by rw [List.length_nil]; omega)]
  | cons o r ih =>
    intro j i t h1 h2
    rw [List.length_cons] at h1 ⊢
    show (lay n r (j + 1) (t.put (n + j) (some (shO n o)))).get i = _
    rw [ih (by omega) h2, T.get_put _ (by omega) h2]
    by_cases q : n + j = i
    · rw [if_neg (by omega), if_pos q, if_pos (by omega), show i - (n + j) = 0 by omega]; rfl
    · rw [if_neg q]
      by_cases q2 : n + (j + 1) ≤ i ∧ i < n + (j + 1) + r.length
      · rw [if_pos q2, if_pos (by omega), show i - (n + j) = (i - (n + (j + 1))) + 1 by omega, List.getElem?_cons_succ]
      · rw [if_neg q2, if_neg (by omega)]
/-- all of it stands there -/
noncomputable def allMa (sel : List Nat) (t : T) (n : Nat) : List Nat → List O → Bool
  | [], os => match os with
    | [] => true
    | _ :: _ => false
  | j :: js, os => match os with
    | [] => false
    | o :: os => ifB (Nat.blt j n) (ifO (t.get j) false fun b => ifB (maO sel o b) (allMa sel t n js os) false) false
theorem allMa_at {sel : List Nat} {t : T} {N : Nat} {js : List Nat} : ∀ {os : List O}, allMa sel t N js os = true → js.length = os.length ∧ ∀ (i : Nat) (o : O), os[i]? = some o → ∃ j b, js[i]? = some j ∧ j < N ∧ t.get j = some b ∧ maO sel o b = true := by
  induction js with
  | nil => intro os e; cases os with
    | nil => exact ⟨rfl, fun i o q => (nn (a := o) (List.getElem?_nil.symm.trans q)).elim⟩
    | cons => exact (ff e).elim
  | cons j js ih =>
    intro os e
    cases os with
    | nil => exact (ff e).elim
    | cons o os =>
      obtain ⟨h1, e⟩ := ifB_ff (b := Nat.blt j N) e
      obtain ⟨b, h2, e⟩ := ifO_ff (o := t.get j) e
      obtain ⟨h3, e⟩ := ifB_ff (b := maO sel o b) e
      obtain ⟨l, h⟩ := ih e
      refine ⟨congrArg (· + 1) l, fun i o' q => ?_⟩
      cases i with
      | zero => obtain rfl := Option.some.inj q; exact ⟨j, b, rfl, Nat.blt_eq.mp h1, h2, h3⟩
      | succ i => exact h i o' q
noncomputable def ownsB (all : List O) : List O → Nat → Bool
  | [], _ => true
  | o :: r, j => ifB (match o with
      | .inst _ d _ => ifO (all[d]?) false fun x => match x with
        | .own k => Nat.beq k j
        | _ => false
      | _ => true) (ownsB all r (Nat.add j 1)) false
theorem ownsB_at {all : List O} {os : List O} : ∀ {j0 : Nat}, ownsB all os j0 = true → ∀ (i : Nat) C d ms, os[i]? = some (.inst C d ms) → all[d]? = some (.own (j0 + i)) := by
  induction os with
  | nil => intro j0 _ i C d ms q; exact (nn (List.getElem?_nil.symm.trans q)).elim
  | cons o r ih =>
    intro j0 e i C d ms q
    obtain ⟨h1, h2⟩ := ifB_ff e
    cases i with
    | zero =>
      obtain rfl := Option.some.inj q
      obtain ⟨x, h3, h4⟩ := ifO_ff (o := all[d]?) h1
      cases x with
      | own k => rw [h3, Nat.beq_eq.mp h4]; rfl
      | _ => exact (ff h4).elim
    | succ i =>
      have := ih h2 i C d ms q
      rw [this]; show some (O.own (j0 + 1 + i)) = some (O.own (j0 + (i + 1))); rw [Nat.add_assoc, Nat.add_comm 1 i]
theorem shO_inst {o : O} {C d : Nat} {ms : List (Nat × V)} (e : shO n o = .inst C d ms) : ∃ d' ms', o = .inst C d' ms' ∧ d = n + d' := by
  cases o with
  | inst C' d' ms' => injection e with e1 e2 e3; subst e1; exact ⟨d', ms', rfl, e2.symm⟩
  | _ => exact O.noConfusion e
/-- what was made in a place of its own, laid beside the rest -/
theorem Rel.join {m2 : Wm} {st2 : St} {s2 : Shared} (R : Rel G B m st s) (R2 : Rel G ⟨s.heap, [], B.L⟩ m2 st2 s2) {sel : List Nat} {os : List O} (nd : sel.Nodup) (hk : m2.σ = []) (hm : allMa sel st2.t st2.n sel os = true) (ho : ownsB os os 0 = true) (le : st.n + os.length ≤ 512) :
    ∃ ρs : List Addr, Rel G B ⟨m.ρ ++ ρs, m.σ⟩ ⟨st.n + os.length, st.k, lay st.n os 0 st.t, [], st.fd⟩ s2 ∧ Into sel st.n m2 ⟨m.ρ ++ ρs, m.σ⟩ := by
  obtain ⟨hl, hat⟩ := allMa_at hm
  have hρ : ∀ j, j < st2.n → ∃ x, m2.ρ[j]? = some x := fun j hj => ⟨_, List.getElem?_eq_getElem (by rw [R2.len]; exact hj)⟩
  have hsel : ∀ (i j : Nat), sel[i]? = some j → j < st2.n := fun i j q => by
    have hi := (List.getElem?_eq_some_iff.mp q).1
    obtain ⟨j', b, h1, h2, _⟩ := hat i _ (List.getElem?_eq_getElem (hl ▸ hi))
    have := Option.some.inj (q.symm.trans h1)
    rw [this]; exact h2
  let ρs : List Addr := sel.map fun j => (m2.ρ[j]?).getD 0
  have hs : ∀ (i j : Nat) (x : Addr), sel[i]? = some j → m2.ρ[j]? = some x → ρs[i]? = some x := fun i j x q1 q2 => by
    have z : ρs[i]? = (sel[i]?).map fun j => (m2.ρ[j]?).getD 0 := List.getElem?_map ..
    rw [z, q1]; show some ((m2.ρ[j]?).getD 0) = _; rw [q2]; rfl
  have hin : ∀ x ∈ ρs, x ∈ m2.ρ := fun x hx => by
    obtain ⟨j, h1, h2⟩ := List.mem_map.mp hx
    obtain ⟨i, h3⟩ := List.mem_iff_getElem?.mp h1
    obtain ⟨y, h4⟩ := hρ j (hsel i j h3)
    rw [h4] at h2; rw [← h2]; exact List.mem_of_getElem? h4
  have hfree : ∀ x ∈ ρs, s.heap.get? x = none := fun x hx => by
    rcases R2.newer x (hin x hx) with z | z
    · exact (List.not_mem_nil z).elim
    · exact z
  have kp : ∀ b o, b ≠ B.L → b ≠ G.tbl → s.heap.get? b = some o → s2.heap.get? b = some o := fun b o h1 h2 h => R2.keep b o h (List.not_mem_nil) h1 h2
  have km : ∀ b o, b ∈ m.ρ → s.heap.get? b = some o → s2.heap.get? b = some o := fun b o h1 h => kp b o (fun q => R.locFar (q ▸ h1)) (fun q => R.tblFar.1 (q ▸ h1)) h
  have into : Into sel st.n m2 ⟨m.ρ ++ ρs, m.σ⟩ := ⟨fun i j x q1 q2 => by
    show (m.ρ ++ ρs)[st.n + i]? = _
    rw [List.getElem?_append_right (by rw [R.len]; omega), R.len, Nat.add_sub_cancel_left]; exact hs i j x q1 q2, hk⟩
  have ll : ρs.length = os.length := by rw [← hl]; exact List.length_map ..
  have lg : ∀ i, i < 512 → (lay st.n os 0 st.t).get i = if st.n ≤ i ∧ i < st.n + os.length then (os[i - st.n]?).map (shO st.n) else st.t.get i := fun i hi => lay_get (j := 0) le hi
  have low : ∀ i, i < st.n → (lay st.n os 0 st.t).get i = st.t.get i := fun i hi => by rw [lg i (by omega), if_neg (by omega)]
  have high : ∀ i o, st.n ≤ i → i < st.n + os.length → (lay st.n os 0 st.t).get i = some o → ∃ a, os[i - st.n]? = some a ∧ o = shO st.n a := fun i o h1 h2 q => by
    rw [lg i (by omega), if_pos ⟨h1, h2⟩] at q
    obtain ⟨a, p1, p2⟩ := Option.map_eq_some_iff.mp q
    exact ⟨a, p1, p2.symm⟩
  have far : ∀ x ∈ ρs, B.h.get? x = none := fun x hx => (R.far (hfree x hx)).h
  refine ⟨ρs, { len := (by rw [List.length_append, R.len, ll]), le := le, syms := R.syms, nodup := ?_, here := ?_, newer := ?_, pre := fun a ha => List.mem_append_left _ (R.pre a ha), keep := fun b o h1 h2 h3 h4 => kp b o h3 h4 (R.keep b o h1 h2 h3 h4),
                loc := ?_, locFar := ?_, tblFar := ?_, tb := R2.tb, kb := R.kb, objs := ?_, clean := ?_, owns := ?_, gens := R2.gens, drawn := R2.drawn, os := R2.os }, into⟩
  · refine List.nodup_append.mpr ⟨R.nodup, ?_, fun a ha b hb q => ?_⟩
    · refine List.pairwise_map.mpr (List.Pairwise.imp_of_mem (fun {i j} hi hj ne q => ne ?_) nd)
      obtain ⟨i', h1⟩ := List.mem_iff_getElem?.mp hi
      obtain ⟨j', h2⟩ := List.mem_iff_getElem?.mp hj
      obtain ⟨x, h3⟩ := hρ i (hsel _ _ h1)
      obtain ⟨y, h4⟩ := hρ j (hsel _ _ h2)
      rw [h3, h4] at q
      have q : x = y := q
      exact idx_inj R2.nodup h3 (q ▸ h4)
    · obtain ⟨o, e⟩ := R.here a ha
      rw [q, hfree b hb] at e; exact nn e
  · intro a ha
    rcases List.mem_append.mp ha with z | z
    · obtain ⟨o, e⟩ := R.here a z; exact ⟨o, km a o z e⟩
    · exact R2.here a (hin a z)
  · intro a ha
    rcases List.mem_append.mp ha with z | z
    · exact R.newer a z
    · exact .inr (far a z)
  · obtain ⟨f, x, _⟩ := R2.loc; exact ⟨f, x, fun _ _ _ z => (nn z).elim⟩
  · exact fun q => (List.mem_append.mp q).elim R.locFar fun z => R2.locFar (hin _ z)
  · exact ⟨fun q => (List.mem_append.mp q).elim R.tblFar.1 fun z => R2.tblFar.1 (hin _ z), R.tblFar.2⟩
  · intro i o hi q
    by_cases lt : i < st.n
    · have q : st.t.get i = some o := (low i lt).symm.trans q
      obtain ⟨a, ob, h1, h2, h3⟩ := R.objs i o lt q
      refine ⟨a, ob, ?_, km a ob (List.mem_of_getElem? h1) h2, h3.mono ⟨⟨ρs, rfl⟩, ⟨[], (List.append_nil _).symm⟩⟩ fun C d ms dx f e1 p1 p2 => ?_⟩
      · rw [List.getElem?_append_left (List.getElem?_eq_some_iff.mp h1).1]; exact h1
      · obtain ⟨o', es, ep, z1, r⟩ := p2
        exact ⟨o', es, ep, km _ _ (List.mem_of_getElem? p1) z1, r⟩
    · obtain ⟨a, p1, rfl⟩ := high i o (by omega) hi q
      obtain ⟨j, b, h1, h2, h3, h4⟩ := hat _ a p1
      obtain ⟨x, ob, r1, r2, r3⟩ := R2.objs j b h2 h3
      refine ⟨x, ob, ?_, r2, maO_sound into h4 r3⟩
      have := into.at' _ j x h1 r1
      rw [show st.n + (i - st.n) = i by omega] at this
      exact this
  · intro i h1 h2
    have h1 : st.n + os.length ≤ i := h1
    show (lay st.n os 0 st.t).get i = none
    rw [lg i h2, if_neg (by omega)]; exact R.clean i (by omega) h2
  · intro j C d ms hj q
    by_cases lt : j < st.n
    · have q : st.t.get j = some (.inst C d ms) := (low j lt).symm.trans q
      obtain ⟨p1, p2⟩ := R.owns j C d ms lt q
      exact ⟨Nat.lt_of_lt_of_le p1 (Nat.le_add_right _ _), (low d p1).trans p2⟩
    · obtain ⟨a, p1, p2⟩ := high j _ (by omega) hj q
      obtain ⟨d', ms', rfl, rfl⟩ := shO_inst p2.symm
      have z := ownsB_at ho _ C d' ms' p1
      have zl := (List.getElem?_eq_some_iff.mp z).1
      refine ⟨by show st.n + d' < st.n + os.length; omega, ?_⟩
      show (lay st.n os 0 st.t).get (st.n + d') = _
      rw [lg _ (by omega), if_pos (by omega), Nat.add_sub_cancel_left, z]
      show some (O.own (st.n + (0 + (j - st.n)))) = _
      rw [show st.n + (0 + (j - st.n)) = j by omega]
/-! the state of a law: made of nothing -/
noncomputable def selS : List Nat := [0, 1, 2, 3, 4, 6, 7, 8, 9, 10, 11, 12, 13, 14, 15, 16, 17, 18, 19, 20, 46, 60, 61, 62, 63, 64, 65, 66, 67, 68, 69, 70, 71, 72, 73, 74, 75, 76, 77, 78, 79, 80, 82, 83, 84, 85, 86, 87]
noncomputable def tplS : List O := [
  .tup [.str (sid "int"), .str (sid "int")],
  .tup [.str (sid "int"), .str (sid "int")],
  .tup [.str (sid "chan"), .str (sid "both"), .ref 1],
  .tup [],
  .tup [.str (sid "interface"), .ref 3],
  .list [.ref 6, .ref 7, .ref 8],
  .tup [.none, .ref 0],
  .tup [.none, .ref 2],
  .tup [.none, .ref 4],
  .tup [],
  .tup [],
  .tup [],
  .tup [],
  .dict [],
  .own 15,
  .inst 38 14 [((sid "key"), .str (sid "m.f")), ((sid "locals"), .ref 5), ((sid "params"), .ref 9), ((sid "results"), .ref 10), ((sid "captured"), .ref 11), ((sid "body"), .ref 12), ((sid "literals"), .ref 13)],
  .dict [(.str (sid "value"), .old 466), (.str (sid "values"), .old 473), (.str (sid "codes"), .ref 17)],
  .dict [],
  .own 19,
  .inst 601 18 [((sid "packages"), .none), ((sid "named"), .ref 20), ((sid "globals"), .ref 21), ((sid "consts"), .ref 22), ((sid "funcs"), .ref 23), ((sid "bodies"), .ref 24), ((sid "files"), .ref 25), ((sid "scopes"), .ref 26), ((sid "order"), .ref 27), ((sid "starts"), .ref 28), ((sid "settle"), .none), ((sid "want"), .none), ((sid "mentions"), .ref 29), ((sid "measured"), .ref 30), ((sid "values"), .ref 31), ((sid "inits"), .ref 32), ((sid "late_keys"), .ref 33), ((sid "late_parts"), .ref 34), ((sid "late_sizes"), .ref 35), ((sid "is_whole"), .tt true)],
  .opq,
  .opq,
  .opq,
  .opq,
  .opq,
  .opq,
  .opq,
  .opq,
  .opq,
  .opq,
  .opq,
  .opq,
  .opq,
  .opq,
  .opq,
  .opq,
  .opq,
  .own 38,
  .inst 294 37 [((sid "world"), .ref 19), ((sid "typed_fn"), .ref 15), ((sid "boxed"), .ref 39), ((sid "known"), .ref 16), ((sid "held"), .ref 40), ((sid "sites"), .int 0), ((sid "loops"), .ref 41), ((sid "has_defers"), .tt false), ((sid "spot"), .int 0), ((sid "code"), .ref 44), ((sid "here"), .int 0)],
  .fset,
  .dict [(.int 0, .int 0), (.int 1, .int 1), (.int 2, .int 2)],
  .dict [],
  .list [.ref 47],
  .own 44,
  .inst 79 43 [((sid "key"), .str (sid "m.f")), ((sid "params"), .int 0), ((sid "registers"), .ref 45), ((sid "blocks"), .ref 42), ((sid "captured"), .int 0), ((sid "results"), .int 0), ((sid "recovery"), .none)],
  .list [.ref 0, .ref 2, .ref 4],
  .list [],
  .list [.ref 46, .none]]
noncomputable def kTpl (r : Fl) (s : St) : Bool := match r with
  | .ret v => match v with
    | .ref i => ifB (Nat.beq i 77) (ifB (Nat.beq s.k 0) (allMa selS s.t s.n selS tplS) false) false
    | _ => false
  | _ => false
theorem kTpl_of {r : Fl} {s : St} (e : kTpl r s = true) : r = .ret (.ref 77) ∧ s.k = 0 ∧ allMa selS s.t s.n selS tplS = true := by
  cases r with
  | next => exact (ff e).elim
  | ret v =>
    cases v with
    | ref i =>
      obtain ⟨h1, e⟩ := ifB_ff (b := Nat.beq i 77) e
      obtain ⟨h2, e⟩ := ifB_ff (b := Nat.beq s.k 0) e
      exact ⟨by rw [Nat.beq_eq.mp h1], Nat.beq_eq.mp h2, e⟩
    | _ => exact (ff e).elim
theorem state_run (p : Params) : runB (P0 p) 645 kTpl st0 = true := by kernel_rfl
theorem owns_S : ownsB tplS tplS 0 = true := by kernel_rfl
theorem nodup_S : selS.Nodup := by unfold selS; decide
noncomputable def stateSum (vs : List V) : EM V := match vs with
  | [] => fun k s => ifB (Nat.ble (Nat.add s.n 48) 512) (k (.ref (Nat.add s.n 38)) ⟨Nat.add s.n 48, s.k, lay s.n tplS 0 s.t, s.fr, s.fd⟩) false
  | _ :: _ => EM.fail
noncomputable def stateF : EM Fl := fun k s => stateSum [] (fun r s' => k (.ret r) ⟨s'.n, s'.k, s'.t, [], s'.fd⟩) s
theorem state_xs {p : Params} (x : GK G p) {f : Fn} (hf : G.P.fn 645 = some f) : XsAt G ⟨f.sc, [], f.code⟩ f.body stateF 100 := by
  intro B m k st s A env Q E e hE hB R O C
  obtain ⟨h1, e1⟩ := ifB_ff (b := Nat.ble (Nat.add st.n 48) 512) e
  have le : st.n + 48 ≤ 512 := Nat.ble_eq.mp h1
  have R0 := (R.onlyL (as := []) (os := []) (t := .nil) (fr := []) List.nodup_nil (fun a ha => (List.not_mem_nil ha).elim) rfl (Nat.zero_le _) (fun j _ => rfl) (fun j a o q _ => (nn q).elim) (fun _ _ _ _ _ z => (nn z).elim)).toP (P0 p)
  have I := run_ok (x.g0 (fun _ => none)) (GK.none_ok (G := G) (p := p)) 100
  have hE0 : EnvOk ⟨[], []⟩ ⟨f.sc, [], f.code⟩ env := { hE with cells := fun _ _ _ z => (nn z).elim }
  have hf0 : (P0 p).fn 645 = some f := (x.fn 645).symm.trans hf
  have hr := state_run p
  unfold runB at hr
  rw [hf0] at hr
  refine I.xs ⟨s.heap, [], B.L⟩ ⟨[], []⟩ _ _ _ _ s A env Q E hr hE0 hB R0 O fun m2 r st2 fl s2 l2 R2 r2 e5 => ?_
  obtain ⟨rfl, hk, hm⟩ := kTpl_of e5
  obtain ⟨w, rfl, x1, x2, rfl⟩ := r2
  have hσ : m2.σ = [] := List.eq_nil_of_length_eq_zero (R2.syms.trans hk)
  obtain ⟨ρs, R3, T⟩ := R.join R2.ofP nodup_S hσ hm owns_S le
  exact C ⟨m.ρ ++ ρs, m.σ⟩ (.ret (.ref (Nat.add st.n 38))) _ _ s2 ⟨⟨ρs, rfl⟩, ⟨[], (List.append_nil _).symm⟩⟩ R3 ⟨_, rfl, x1, T.at' 38 77 x1 rfl x2, rfl⟩ e1
theorem head_645 (p : Params) : headOk (P0 p) 645 [] = true := by kernel_rfl
theorem state_ok {p : Params} (x : GK G p) : SumOk G 645 stateSum 101 := by
  obtain ⟨f, hf, h1, h2⟩ := head_of x (head_645 p)
  refine sum_of x.g hf h2 (state_xs x hf) fun xs k st e => ?_
  cases xs with
  | nil => exact ⟨[], by rw [h1]; rfl, by rw [h1]; rfl, e⟩
  | cons => exact (ff e).elim
end Sx
end
section
open PySem PySem.W PySem.Calls PyProof.Rows
namespace Sx
set_option maxRecDepth 100000
variable {G : Gl} {B : Base} {m : Wm} {st : St} {s : Shared} {A : Around} {env : Env} {E : Value → Shared → Prop} {n : Nat} {h : Ih} {c : Cx}
noncomputable def sums1 : Addr → Option (List V → EM V) := fun a => match Nat.beq a 619 with
  | true => some takeSum
  | false => match Nat.beq a 645 with
    | true => some stateSum
    | false => none
noncomputable abbrev P1 (p : Params) : Pg := mkPg (KT p) sums1 110
/-- the end of a part of the law: it holds, and the source is whole -/
noncomputable def kEnd (r : Fl) (s : St) : Bool := match r with
  | .ret v => match v with
    | .tt b => match b with
      | true => ifO (s.t.get 0) false fun o => match o with
        | .src fs => match fs with
          | [] => true
          | _ => false
        | _ => false
      | false => false
    | _ => false
  | _ => false
theorem kEnd_of {r : Fl} {s : St} (e : kEnd r s = true) : r = .ret (.tt true) ∧ s.t.get 0 = some (.src []) := by
  unfold kEnd at e
  cases r with
  | next => (first | exact (ff e).elim | exact (nn e).elim | cases e)
  | ret v =>
    cases v with
    | tt b =>
      cases b with
      | false => (first | exact (ff e).elim | exact (nn e).elim | cases e)
      | true =>
        obtain ⟨o, h1, h2⟩ := ifO_ff (o := s.t.get 0) e
        cases o with
        | src fs =>
          cases fs with
          | nil => exact ⟨rfl, h1⟩
          | cons p r => (first | exact (ff h2).elim | exact (nn h2).elim | cases h2)
        | _ => (first | exact (ff h2).elim | exact (nn h2).elim | cases h2)
    | _ => (first | exact (ff e).elim | exact (nn e).elim | cases e)
noncomputable def st1 (fd : List (Nat × Nat)) : St := ⟨1, 0, T.put .nil 0 (some (.src fd)), [(sid "source", .ref 0)], []⟩
theorem sums1_ok {p : Params} (x : GK G p) : SumsOk (G.with (P1 p)) 101 := by
  have y : GK (G.with (P1 p)) p := ⟨x.g0 sums1, x.K, x.lam⟩
  intro a f e
  have e' : sums1 a = some f := e
  unfold sums1 at e'
  cases q : Nat.beq a 619 with
  | true =>
    rw [q] at e'
    have := Nat.beq_eq.mp q
    subst this
    (first | exact (ff e').elim | exact (nn e').elim | cases e')
    exact take_ok y
  | false =>
    rw [q] at e'
    cases q2 : Nat.beq a 645 with
    | true =>
      rw [q2] at e'
      have := Nat.beq_eq.mp q2
      subst this
      obtain rfl := Option.some.inj e'
      exact state_ok y
    | false => rw [q2] at e'; exact (nn e').elim
theorem GK.with1 {p : Params} (x : GK G p) : AllOk (G.with (P1 p)) (run (P1 p) 100) 201 := run_ok (x.g0 sums1) (sums1_ok x) 100
/-- a part of the law holds -/
noncomputable def rightSum (vs : List V) : EM V := match vs with
  | [.ref i] => fun k s => look i (fun o s => match o with
    | .src fs => match fs with
      | [] => k (.tt true) s
      | _ => false
    | _ => false) s
  | _ => EM.fail
noncomputable def rightF : EM Fl := fun k s => ifO (lk (sid "source") s.fr) false fun v => rightSum [v] (fun r s' => k (.ret r) ⟨s'.n, s'.k, s'.t, [], s'.fd⟩) s
theorem right_cases {v : V} {k : V → St → Bool} (e : rightSum [v] k st = true) : ∃ i, v = .ref i ∧ st.t.get i = some (.src []) ∧ k (.tt true) st = true := by
  cases v with
  | ref i =>
    obtain ⟨o, h1, h2⟩ := ifO_ff (o := st.t.get i) e
    cases o with
    | src fs =>
      cases fs with
      | nil => exact ⟨i, rfl, h1, h2⟩
      | cons p r => (first | exact (ff h2).elim | exact (nn h2).elim | cases h2)
    | _ => (first | exact (ff h2).elim | exact (nn h2).elim | cases h2)
  | _ => (first | exact (ff e).elim | exact (nn e).elim | cases e)
theorem lt_draw (n a b : Nat) (hn : 0 < n) : drawOf n a b < n := by unfold drawOf; split <;> exact Nat.mod_lt _ hn
theorem forced_cons {n a b : Nat} {r : List (Nat × Nat)} (h : Forced r (leftA n a) (leftB a b)) : Forced ((n, drawOf n a b) :: r) a b := ⟨fun _ => rfl, h⟩
theorem forced_free {n a b : Nat} {r : List (Nat × Nat)} (h : Forced r (leftA n a) (leftB a b)) : Forced ((n, n) :: r) a b := ⟨fun q => absurd q (Nat.lt_irrefl _), h⟩
theorem right_xs {p : Params} (x : GK G p) {ad : Addr} {f : Fn} (hf : G.P.fn ad = some f) (hK : ∀ a b : Nat, ∃ fd, Forced fd a b ∧ runB (P1 p) ad kEnd (st1 fd) = true) : XsAt G ⟨f.sc, [], f.code⟩ f.body rightF 201 := by
  intro B m k st s A env Q E e hE hB R O C
  obtain ⟨v, hs, e1⟩ := ifO_ff e
  obtain ⟨i, rfl, h0, e2⟩ := right_cases e1
  have hsrc : ∃ a, m.ρ[i]? = some a := by
    obtain ⟨ff, _, y⟩ := R.loc
    obtain ⟨_, _, a, q, _⟩ := y ("source" : Str) (.ref i) (by decide +kernel) hs
    exact ⟨a, q⟩
  obtain ⟨a, hi⟩ := hsrc
  obtain ⟨a', ob, z1, z2, nn, a0, b0, u, v, rfl, z4, _⟩ := R.objs i _ (R.lt hi) h0
  cases hi.symm.trans z1
  obtain ⟨fd, hF, hr⟩ := hK a0 b0
  have ho : ORel G ⟨[a], []⟩ [] s.heap (.src fd) { cls := .type "list", data := .seq #[.int a0 u, .int b0 v] nn } := ⟨nn, a0, b0, u, v, rfl, z4, hF⟩
  have R0 := (R.only (fr := [(sid "source", .ref 0)]) hi z2 rfl ho (fun ff hff y w oy e => by
    rw [lk_cons, lk_nil] at e
    split at e
    · rename_i e1; (first | exact (ff e).elim | exact (nn e).elim | cases e)
      obtain ⟨w', p1, b, p2, p3⟩ := hff y (.ref i) oy (by rw [e1]; exact hs)
      exact ⟨w', p1, b, by cases hi.symm.trans p2; rfl, p3⟩
    · (first | exact (ff e).elim | exact (nn e).elim | cases e))).toP (P1 p)
  have I := x.with1
  have hE0 : EnvOk ⟨[a], []⟩ ⟨f.sc, [], f.code⟩ env := { hE with cells := fun _ _ _ z => by cases z }
  have hf0 : (P1 p).fn ad = some f := (x.fn ad).symm.trans hf
  have hr' : (run (P1 p) 100).xs ⟨f.sc, [], f.code⟩ f.body kEnd (st1 fd) = true := by unfold runB at hr; rw [hf0] at hr; exact hr
  refine I.xs ⟨s.heap, [a], B.L⟩ ⟨[a], []⟩ _ _ _ _ s A env Q E hr' hE0 hB R0 O fun m2 r st2 fl s2 l2 R2 r2 e5 => ?_
  obtain ⟨rfl, ht⟩ := kEnd_of e5
  obtain ⟨w, rfl, r3⟩ := r2
  have ha : m2.ρ[0]? = some a := l2.at (m := ⟨[a], []⟩) (i := 0) (a := a) rfl
  obtain ⟨a', ob', g1, g2, g3⟩ := R2.objs 0 _ (R2.lt ha) ht
  cases ha.symm.trans g1
  have self : ∀ j, j < 512 → st.t.get j = if i = j then some (.src []) else st.t.get j := fun j _ => by
    by_cases q : i = j
    · rw [if_pos q, ← q]; exact h0
    · rw [if_neg q]
  have R3 := R.after (o1 := .src []) hi h0 rfl rfl R2.ofP g2 (show ORel G m st.fd s2.heap (.src []) ob' from g3) self
  exact C m (.ret (.tt true)) _ _ s2 (Wm.Le.refl m) R3 ⟨w, rfl, r3⟩ e2
theorem right_ok {p : Params} (x : GK G p) {ad : Addr} (hh : headOk (P0 p) ad [(sid "source", false)] = true) (hK : ∀ a b : Nat, ∃ fd, Forced fd a b ∧ runB (P1 p) ad kEnd (st1 fd) = true) : SumOk G ad rightSum 202 := by
  obtain ⟨f, hf, h1, h2⟩ := head_of x hh
  refine sum_of x.g hf h2 (right_xs x hf hK) fun xs k st e => ?_
  rcases xs with _ | ⟨v, _ | ⟨w, xs⟩⟩
  · (first | exact (ff e).elim | exact (nn e).elim | cases e)
  · refine ⟨[(sid "source", v)], by rw [h1]; rfl, by rw [h1]; rfl, ?_⟩
    cases v with
    | ref i => exact e
    | _ => (first | exact (ff e).elim | exact (nn e).elim | cases e)
  · (first | exact (ff v).elim | exact (nn v).elim | cases v) <;> (first | exact (ff e).elim | exact (nn e).elim | cases e)
theorem head_664 (p : Params) : headOk (P0 p) 664 [(sid "source", false)] = true := by kernel_rfl
theorem head_676 (p : Params) : headOk (P0 p) 676 [(sid "source", false)] = true := by kernel_rfl
theorem head_686 (p : Params) : headOk (P0 p) 686 [(sid "source", false)] = true := by kernel_rfl
end Sx
end
section
open PySem PySem.W PySem.Calls PyProof.Rows
namespace Sx
set_option maxRecDepth 100000
variable {G : Gl} {B : Base} {m : Wm} {st : St} {s : Shared} {A : Around} {env : Env} {E : Value → Shared → Prop} {n : Nat} {h : Ih} {c : Cx}
theorem execs_append {b : List Stmt} : ∀ a : List Stmt, execs (a ++ b) env = (execs a env >>= fun f => match f with | .next => execs b env | f => pure f)
  | [] => rfl
  | s :: a => by
    rw [List.cons_append, execs_cons, execs_cons, bind_assoc]
    congr 1
    funext f
    cases f with
    | next => exact execs_append a
    | _ => rfl
noncomputable def runTo (P : Pg) (a : Addr) (i : Nat) (k : Fl → St → Bool) (s : St) : Bool := match P.fn a with
  | some f => (run P 100).xs ⟨f.sc, [], f.code⟩ (f.body.take i) k s
  | none => false
noncomputable def runFrom (P : Pg) (a : Addr) (i : Nat) (k : Fl → St → Bool) (s : St) : Bool := match P.fn a with
  | some f => (run P 100).xs ⟨f.sc, [], f.code⟩ (f.body.drop i) k s
  | none => false
/-- what of the first half the second half looks at -/
noncomputable def kPre (r : Fl) (s : St) : Bool := match r with
  | .next => ifO (lk (sid "source") s.fr) false fun v => match v with
    | .ref i => match i with
      | 0 => ifO (lk (sid "word") s.fr) false fun w => match w with
        | .str x => ifB (ifB (Nat.beq x (sid "go")) true (Nat.beq x (sid "defer"))) (ifO (lk (sid "W") s.fr) false fun y => match y with
          | .ref j => ifO (s.t.get j) false fun o => match o with
            | .tup xs => match xs with
              | [.str p, .str q] => ifB (Nat.beq p (sid "int")) (ifB (Nat.beq q (sid "int")) (ifO (s.t.get 0) false fun o => match o with
                | .src fs => match fs with
                  | [] => true
                  | _ => false
                | _ => false) false) false
              | _ => false
            | _ => false
          | _ => false) false
        | _ => false
      | _ => false
    | _ => false
  | _ => false
theorem kPre_of {r : Fl} {s : St} (e : kPre r s = true) : r = .next ∧ lk (sid "source") s.fr = some (.ref 0) ∧ (∃ x, (x = sid "go" ∨ x = sid "defer") ∧ lk (sid "word") s.fr = some (.str x)) ∧
    (∃ j, lk (sid "W") s.fr = some (.ref j) ∧ s.t.get j = some (.tup [.str (sid "int"), .str (sid "int")])) ∧ s.t.get 0 = some (.src []) := by
  cases r with
  | ret v => (first | exact (ff e).elim | exact (nn e).elim | cases e)
  | next =>
    obtain ⟨v, h1, e1⟩ := ifO_ff (o := lk (sid "source") s.fr) e
    cases v with
    | ref i =>
      cases i with
      | succ i => (first | exact (ff e1).elim | exact (nn e1).elim | cases e1)
      | zero =>
        obtain ⟨w, h2, e2⟩ := ifO_ff (o := lk (sid "word") s.fr) e1
        cases w with
        | str x =>
          obtain ⟨h3, e3⟩ := ifB_ff (b := ifB (Nat.beq x (sid "go")) true (Nat.beq x (sid "defer"))) e2
          obtain ⟨y, h4, e4⟩ := ifO_ff (o := lk (sid "W") s.fr) e3
          cases y with
          | ref j =>
            obtain ⟨o, h5, e5⟩ := ifO_ff (o := s.t.get j) e4
            cases o with
            | tup xs =>
              rcases xs with _ | ⟨p, _ | ⟨q, _ | ⟨z, xs⟩⟩⟩
              · (first | exact (ff e5).elim | exact (nn e5).elim | cases e5)
              · (first | exact (ff p).elim | exact (nn p).elim | cases p) <;> (first | exact (ff e5).elim | exact (nn e5).elim | cases e5)
              · (first | exact (ff p).elim | exact (nn p).elim | cases p) <;> try (first | exact (ff e5).elim | exact (nn e5).elim | cases e5)
                (first | exact (ff q).elim | exact (nn q).elim | cases q) <;> try (first | exact (ff e5).elim | exact (nn e5).elim | cases e5)
                rename_i p q
                obtain ⟨h6, e6⟩ := ifB_ff (b := Nat.beq p (sid "int")) e5
                obtain ⟨h7, e7⟩ := ifB_ff (b := Nat.beq q (sid "int")) e6
                obtain ⟨o, h8, e8⟩ := ifO_ff (o := s.t.get 0) e7
                cases o with
                | src fs =>
                  cases fs with
                  | nil =>
                    rw [Nat.beq_eq.mp h6, Nat.beq_eq.mp h7] at h5
                    refine ⟨rfl, h1, ⟨x, ?_, h2⟩, ⟨j, h4, h5⟩, h8⟩
                    cases q1 : Nat.beq x (sid "go") with
                    | true => exact .inl (Nat.beq_eq.mp q1)
                    | false => rw [q1] at h3; exact .inr (Nat.beq_eq.mp h3)
                  | cons a r => (first | exact (ff e8).elim | exact (nn e8).elim | cases e8)
                | _ => (first | exact (ff e8).elim | exact (nn e8).elim | cases e8)
              · (first | exact (ff p).elim | exact (nn p).elim | cases p) <;> try (first | exact (ff e5).elim | exact (nn e5).elim | cases e5)
                (first | exact (ff q).elim | exact (nn q).elim | cases q) <;> (first | exact (ff e5).elim | exact (nn e5).elim | cases e5)
            | _ => (first | exact (ff e5).elim | exact (nn e5).elim | cases e5)
          | _ => (first | exact (ff e4).elim | exact (nn e4).elim | cases e4)
        | _ => (first | exact (ff e2).elim | exact (nn e2).elim | cases e2)
    | _ => (first | exact (ff e1).elim | exact (nn e1).elim | cases e1)
noncomputable def intT : O := .tup [.str (sid "int"), .str (sid "int")]
noncomputable def st2 (w : Nat) (fd : List (Nat × Nat)) : St := ⟨2, 0, (T.put .nil 0 (some (.src fd))).put 1 (some intT), [(sid "source", .ref 0), (sid "word", .str w), (sid "W", .ref 1)], []⟩
theorem two_get {o1 o2 : O} {j : Nat} (h : j < 512) : ((T.put .nil 0 (some o1)).put 1 (some o2)).get j = [o1, o2][j]? := by
  rw [T.get_put _ (by decide) h, T.one h]
  match j with
  | 0 => rfl
  | 1 => rfl
  | j + 2 => rw [if_neg (by omega), if_neg (by omega)]; rfl
theorem later_xs {p : Params} (x : GK G p) {ad : Addr} {f : Fn} (hf : G.P.fn ad = some f) (hK : ∀ a b : Nat, ∃ fd, Forced fd a b ∧ runTo (P1 p) ad 5 kPre (st1 fd) = true)
    (hK2 : ∀ (w a b : Nat), w = sid "go" ∨ w = sid "defer" → ∃ fd, Forced fd a b ∧ runFrom (P1 p) ad 5 kEnd (st2 w fd) = true) : XsAt G ⟨f.sc, [], f.code⟩ f.body rightF 201 := by
  intro B m k st s A env Q E e hE hB R O C
  obtain ⟨v, hs, e1⟩ := ifO_ff e
  obtain ⟨i, rfl, h0, e2⟩ := right_cases e1
  have hsrc : ∃ a, m.ρ[i]? = some a := by
    obtain ⟨ff, _, y⟩ := R.loc
    obtain ⟨_, _, a, q, _⟩ := y ("source" : Str) (.ref i) (by decide +kernel) hs
    exact ⟨a, q⟩
  obtain ⟨a, hi⟩ := hsrc
  obtain ⟨a', ob, z1, z2, nn, a0, b0, u, v, rfl, z4, _⟩ := R.objs i _ (R.lt hi) h0
  cases hi.symm.trans z1
  obtain ⟨fd, hF, hr⟩ := hK a0 b0
  have ho : ORel G ⟨[a], []⟩ [] s.heap (.src fd) { cls := .type "list", data := .seq #[.int a0 u, .int b0 v] nn } := ⟨nn, a0, b0, u, v, rfl, z4, hF⟩
  have R0 := (R.only (fr := [(sid "source", .ref 0)]) hi z2 rfl ho (fun ff hff y w oy e => by
    rw [lk_cons, lk_nil] at e
    split at e
    · rename_i e1; (first | exact (ff e).elim | exact (nn e).elim | cases e)
      obtain ⟨w', p1, b, p2, p3⟩ := hff y (.ref i) oy (by rw [e1]; exact hs)
      exact ⟨w', p1, b, by cases hi.symm.trans p2; rfl, p3⟩
    · (first | exact (ff e).elim | exact (nn e).elim | cases e))).toP (P1 p)
  have I := x.with1
  have hE0 : ∀ m0 : Wm, EnvOk m0 ⟨f.sc, [], f.code⟩ env := fun m0 => { hE with cells := fun _ _ _ z => by cases z }
  have hf0 : (P1 p).fn ad = some f := (x.fn ad).symm.trans hf
  have hr' : (run (P1 p) 100).xs ⟨f.sc, [], f.code⟩ (f.body.take 5) kPre (st1 fd) = true := by unfold runTo at hr; rw [hf0] at hr; exact hr
  rw [← List.take_append_drop 5 f.body, execs_append]
  refine wpAny_bind ?_
  refine I.xs ⟨s.heap, [a], B.L⟩ ⟨[a], []⟩ _ _ _ _ s A env _ E hr' (hE0 _) hB R0 O fun m2 r stp fl s2 l2 R2 r2 e5 => ?_
  obtain ⟨rfl, g1, ⟨w, hw, g2⟩, ⟨j, g3, g4⟩, g5⟩ := kPre_of e5
  have r2 : fl = .next := r2
  subst r2
  show wpAny (model G.prog G.w) A (execs (f.body.drop 5) env) Q E s2
  have ha : m2.ρ[0]? = some a := l2.at (m := ⟨[a], []⟩) (i := 0) (a := a) rfl
  obtain ⟨a', ob', k1, k2, nn', a1, b1, u', v', rfl, k4, _⟩ := R2.objs 0 _ (R2.lt ha) g5
  cases ha.symm.trans k1
  have hW : ∃ aw, m2.ρ[j]? = some aw := by
    obtain ⟨ff, _, y⟩ := R2.loc
    obtain ⟨_, _, b, q, _⟩ := y ("W" : Str) (.ref j) (by decide +kernel) g3
    exact ⟨b, q⟩
  obtain ⟨aw, hj⟩ := hW
  obtain ⟨aw', obw, w1, w2, w3⟩ := R2.objs j _ (R2.lt hj) g4
  cases hj.symm.trans w1
  have ne : a ≠ aw := fun q => by
    subst q
    have := idx_inj R2.nodup ha hj
    subst this
    rw [g5] at g4; (first | exact (ff g4).elim | exact (nn g4).elim | cases g4)
  obtain ⟨fd2, hF2, hr2⟩ := hK2 w a1 b1 hw
  have hm : ∀ b ∈ [a, aw], b ∈ m2.ρ := fun b hb => by
    rcases List.mem_cons.mp hb with q | hb
    · rw [q]; exact List.mem_of_getElem? ha
    · rw [List.mem_singleton.mp hb]; exact List.mem_of_getElem? hj
  have R3 := R2.onlyL (as := [a, aw]) (os := [.src fd2, intT]) (t := (T.put .nil 0 (some (.src fd2))).put 1 (some intT)) (fr := [(sid "source", .ref 0), (sid "word", .str w), (sid "W", .ref 1)]) (by simp [ne]) hm rfl (by show 2 ≤ 512; decide) (fun j hj => two_get hj)
    (fun jj b o h1 h2 => by
      match jj with
      | 0 => (first | exact (ff h1).elim | exact (nn h1).elim | cases h1); (first | exact (ff h2).elim | exact (nn h2).elim | cases h2); exact ⟨rfl, _, k2, nn', a1, b1, u', v', rfl, k4, hF2⟩
      | 1 =>
        (first | exact (ff h1).elim | exact (nn h1).elim | cases h1); (first | exact (ff h2).elim | exact (nn h2).elim | cases h2)
        obtain ⟨c1, items, n1, c2, c3⟩ := w3
        refine ⟨rfl, obw, w2, c1, items, n1, c2, ?_⟩
        obtain ⟨ll⟩ := items
        rcases ll with _ | ⟨v1, _ | ⟨v2, _ | ⟨v3, ll⟩⟩⟩
        · exact c3.elim
        · exact c3.2.elim
        · exact ⟨c3.1, c3.2.1, trivial⟩
        · exact c3.2.2.elim
      | jj + 2 => simp at h1)
    (fun ff hff y z oy e => by
      rw [lk_cons, lk_cons, lk_cons, lk_nil] at e
      split at e
      · rename_i e1; (first | exact (ff e).elim | exact (nn e).elim | cases e)
        obtain ⟨w', p1, b, p2, p3⟩ := hff y (.ref 0) oy (by rw [e1]; exact g1)
        exact ⟨w', p1, b, by cases ha.symm.trans p2; rfl, p3⟩
      · split at e
        · rename_i e1; (first | exact (ff e).elim | exact (nn e).elim | cases e)
          obtain ⟨w', p1, p2⟩ := hff y (.str w) oy (by rw [e1]; exact g2)
          exact ⟨w', p1, p2⟩
        · split at e
          · rename_i e1; (first | exact (ff e).elim | exact (nn e).elim | cases e)
            obtain ⟨w', p1, b, p2, p3⟩ := hff y (.ref j) oy (by rw [e1]; exact g3)
            exact ⟨w', p1, b, by cases hj.symm.trans p2; rfl, p3⟩
          · (first | exact (ff e).elim | exact (nn e).elim | cases e))
  have hr2' : (run (P1 p) 100).xs ⟨f.sc, [], f.code⟩ (f.body.drop 5) kEnd (st2 w fd2) = true := by unfold runFrom at hr2; rw [hf0] at hr2; exact hr2
  refine I.xs ⟨s2.heap, [a, aw], B.L⟩ ⟨[a, aw], []⟩ _ _ _ _ s2 A env Q E hr2' (hE0 _) hB R3 O fun m4 r4 st4 fl4 s4 l4 R4 r4' e6 => ?_
  obtain ⟨rfl, ht⟩ := kEnd_of e6
  obtain ⟨w4, rfl, r5⟩ := r4'
  have ha4 : m4.ρ[0]? = some a := l4.at (m := ⟨[a, aw], []⟩) (i := 0) (a := a) rfl
  obtain ⟨a', ob4, q1, q2, q3⟩ := R4.objs 0 _ (R4.lt ha4) ht
  cases ha4.symm.trans q1
  have lt0 := R2.lt ha
  have R5 := R2.afterL hm R4 (t' := T.put .nil 0 (some (.src []))) (fun jj h1 h2 => by rw [T.one h2, if_neg (by omega)])
    (fun ii o h1 h2 => by
      have le := R2.le
      rw [T.one (by omega)] at h2
      split at h2
      · rename_i e0; (first | exact (ff h2).elim | exact (nn h2).elim | cases h2); subst e0
        exact .inr ⟨rfl, a, ob4, ha, q2, q3⟩
      · (first | exact (ff h2).elim | exact (nn h2).elim | cases h2))
    (fun jj C d ms h1 h2 => by
      have le := R2.le
      rw [T.one (by omega)] at h2
      split at h2 <;> (first | exact (ff h2).elim | exact (nn h2).elim | cases h2))
  have self : ∀ j, j < 512 → st.t.get j = if i = j then some (.src []) else st.t.get j := fun j _ => by
    by_cases q : i = j
    · rw [if_pos q, ← q]; exact h0
    · rw [if_neg q]
  have R6 := R.after (o1 := .src []) hi h0 rfl rfl R5.ofP q2 (show ORel G m st.fd s4.heap (.src []) ob4 from q3) self
  exact C m (.ret (.tt true)) _ _ s4 (Wm.Le.refl m) R6 ⟨w4, rfl, r5⟩ e2
theorem later_ok {p : Params} (x : GK G p) {ad : Addr} (hh : headOk (P0 p) ad [(sid "source", false)] = true) (hK : ∀ a b : Nat, ∃ fd, Forced fd a b ∧ runTo (P1 p) ad 5 kPre (st1 fd) = true)
    (hK2 : ∀ (w a b : Nat), w = sid "go" ∨ w = sid "defer" → ∃ fd, Forced fd a b ∧ runFrom (P1 p) ad 5 kEnd (st2 w fd) = true) : SumOk G ad rightSum 202 := by
  obtain ⟨f, hf, h1, h2⟩ := head_of x hh
  refine sum_of x.g hf h2 (later_xs x hf hK hK2) fun xs k st e => ?_
  rcases xs with _ | ⟨v, _ | ⟨w, xs⟩⟩
  · (first | exact (ff e).elim | exact (nn e).elim | cases e)
  · refine ⟨[(sid "source", v)], by rw [h1]; rfl, by rw [h1]; rfl, ?_⟩
    cases v with
    | ref i => exact e
    | _ => (first | exact (ff e).elim | exact (nn e).elim | cases e)
  · (first | exact (ff v).elim | exact (nn v).elim | cases v) <;> (first | exact (ff e).elim | exact (nn e).elim | cases e)
end Sx
end
section
open PySem PySem.W PySem.Calls PyProof.Rows
namespace Sx
set_option maxRecDepth 100000
variable {G : Gl} {B : Base} {m : Wm} {st : St} {s : Shared} {A : Around} {env : Env} {E : Value → Shared → Prop} {n : Nat} {h : Ih} {c : Cx}
noncomputable abbrev cellsC : List (Nat × Nat) := [(sid "W", 2), (sid "source", 1)]
noncomputable def treeC : T := ((T.put .nil 0 (some (.src []))).put 1 (some (.cell (some (.ref 0))))).put 2 (some (.cell none))
noncomputable def stC : St := ⟨3, 0, treeC, [], []⟩
noncomputable def runC (P : Pg) (a : Addr) (k : Fl → St → Bool) (s : St) : Bool := match P.fn a with
  | some f => (run P 100).xs ⟨f.sc, cellsC, f.code⟩ f.body k s
  | none => false
theorem treeC_get {j : Nat} (h : j < 512) : treeC.get j = [Sx.O.src [], .cell (some (.ref 0)), .cell none][j]? := by
  unfold treeC
  rw [T.get_put _ (by decide) h, T.get_put _ (by decide) h, T.one h]
  match j with
  | 0 => rfl
  | 1 => rfl
  | 2 => rfl
  | j + 3 => rw [if_neg (by omega), if_neg (by omega), if_neg (by omega)]; rfl
noncomputable def chosenF (c : Cx) : EM Fl := fun k s => ifO (lk (sid "source") c.cells) false fun j => ifO (lk (sid "W") c.cells) false fun j2 => ifO (s.t.get j) false fun o => match o with
  | .cell (some v) => ifO (s.t.get j2) false fun o => match o with
    | .cell none => rightSum [v] (fun r s' => k (.ret r) ⟨s'.n, s'.k, (s'.t.put j none).put j2 none, [], s'.fd⟩) s
    | _ => false
  | _ => false
theorem chosen_xs {p : Params} (x : GK G p) {ad : Addr} {f : Fn} (hf : G.P.fn ad = some f) (hK : runC (P1 p) ad kEnd stC = true) : XsAtC G f.sc f.code f.body chosenF 201 := by
  intro B m c k st s A env Q E hc1 hc2 e hE hB R O C
  obtain ⟨j, hj, e1⟩ := ifO_ff (o := lk (sid "source") c.cells) e
  obtain ⟨j2, hj2, e2⟩ := ifO_ff (o := lk (sid "W") c.cells) e1
  obtain ⟨o, hc, e3⟩ := ifO_ff (o := st.t.get j) e2
  cases o with
  | cell v =>
    cases v with
    | none => (first | exact (ff e3).elim | exact (nn e3).elim | cases e3)
    | some v =>
      obtain ⟨o, hcw, e4⟩ := ifO_ff (o := st.t.get j2) e3
      cases o with
      | cell vw =>
        cases vw with
        | some _ => (first | exact (ff e4).elim | exact (nn e4).elim | cases e4)
        | none =>
          obtain ⟨i, rfl, h0, e5⟩ := right_cases e4
          obtain ⟨aj, hja, hjl⟩ := hE.cells ("source" : Str) j (by decide +kernel) hj
          obtain ⟨aw, hwa, hwl⟩ := hE.cells ("W" : Str) j2 (by decide +kernel) hj2
          obtain ⟨aj', obj, y1, y2, y3⟩ := R.objs j _ (R.lt hja) hc
          cases hja.symm.trans y1
          obtain ⟨aw', obw, w1, w2, w3⟩ := R.objs j2 _ (R.lt hwa) hcw
          cases hwa.symm.trans w1
          obtain ⟨wv, cd1, yv, rfl, a, hi, rfl⟩ := y3
          obtain ⟨wv2, cd2, _⟩ := w3
          obtain ⟨a', ob, z1, z2, nn, a0, b0, u, v, rfl, z4, _⟩ := R.objs i _ (R.lt hi) h0
          cases hi.symm.trans z1
          have n1 : a ≠ aj := fun q => by
            have := idx_inj R.nodup hi (q ▸ hja); subst this
            rw [h0] at hc; (first | exact (ff hc).elim | exact (nn hc).elim | cases hc)
          have n2 : a ≠ aw := fun q => by
            have := idx_inj R.nodup hi (q ▸ hwa); subst this
            rw [h0] at hcw; (first | exact (ff hcw).elim | exact (nn hcw).elim | cases hcw)
          have n3 : aj ≠ aw := fun q => by
            have := idx_inj R.nodup hja (q ▸ hwa); subst this
            rw [hc] at hcw; (first | exact (ff hcw).elim | exact (nn hcw).elim | cases hcw)
          have hm : ∀ b ∈ [a, aj, aw], b ∈ m.ρ := fun b hb => by
            rcases List.mem_cons.mp hb with q | hb
            · rw [q]; exact List.mem_of_getElem? hi
            · rcases List.mem_cons.mp hb with q | hb
              · rw [q]; exact List.mem_of_getElem? hja
              · rw [List.mem_singleton.mp hb]; exact List.mem_of_getElem? hwa
          have R0 := (R.onlyL (as := [a, aj, aw]) (os := [.src [], .cell (some (.ref 0)), .cell none]) (t := treeC) (fr := []) (by simp [n1, n2, n3]) hm rfl (by show 3 ≤ 512; decide) (fun j hj => treeC_get hj)
            (fun jj b o h1 h2 => by
              match jj with
              | 0 => (first | exact (ff h1).elim | exact (nn h1).elim | cases h1); (first | exact (ff h2).elim | exact (nn h2).elim | cases h2); exact ⟨rfl, _, z2, nn, a0, b0, u, v, rfl, z4, trivial⟩
              | 1 => (first | exact (ff h1).elim | exact (nn h1).elim | cases h1); (first | exact (ff h2).elim | exact (nn h2).elim | cases h2); exact ⟨rfl, obj, y2, _, cd1, _, rfl, a, rfl, rfl⟩
              | 2 => (first | exact (ff h1).elim | exact (nn h1).elim | cases h1); (first | exact (ff h2).elim | exact (nn h2).elim | cases h2); exact ⟨rfl, obw, w2, _, cd2, trivial⟩
              | jj + 3 => simp at h1)
            (fun _ _ _ _ _ z => by (first | exact (ff z).elim | exact (nn z).elim | cases z))).toP (P1 p)
          have I := x.with1
          have hcl : ∀ (y : Str) (jj : Nat), okS y = true → lk (sid y) cellsC = some jj → ∃ b, ([a, aj, aw] : List Addr)[jj]? = some b ∧ env.cells.lookup y = some b := fun y jj oy q => by
            dsimp only [cellsC] at q
            rw [lk_cons, lk_cons, lk_nil] at q
            split at q
            · rename_i e0; (first | exact (ff q).elim | exact (nn q).elim | cases q)
              have : y = ("W" : Str) := sid_inj oy (by decide +kernel) e0
              subst this
              exact ⟨aw, rfl, hwl⟩
            · split at q
              · rename_i e0; (first | exact (ff q).elim | exact (nn q).elim | cases q)
                have : y = ("source" : Str) := sid_inj oy (by decide +kernel) e0
                subst this
                exact ⟨aj, rfl, hjl⟩
              · (first | exact (ff q).elim | exact (nn q).elim | cases q)
          have hE0 : EnvOk ⟨[a, aj, aw], []⟩ ⟨f.sc, cellsC, f.code⟩ env := ⟨hE.kind, fun y q => hE.loc y (by rw [hc1]; exact q), fun y q => hE.cel y (by rw [hc1]; exact q), fun y q => hE.glb y (by rw [hc1]; exact q), hcl, hE.globals, hE.builtins, by rw [← hc2]; exact hE.code⟩
          have hf0 : (P1 p).fn ad = some f := (x.fn ad).symm.trans hf
          have hr' : (run (P1 p) 100).xs ⟨f.sc, cellsC, f.code⟩ f.body kEnd stC = true := by unfold runC at hK; rw [hf0] at hK; exact hK
          refine I.xs ⟨s.heap, [a, aj, aw], B.L⟩ ⟨[a, aj, aw], []⟩ _ _ _ _ s A env Q E hr' hE0 hB R0 O fun m2 r st2 fl s2 l2 R2 r2 e6 => ?_
          obtain ⟨rfl, ht⟩ := kEnd_of e6
          obtain ⟨w, rfl, r3⟩ := r2
          have ha : m2.ρ[0]? = some a := l2.at (m := ⟨[a, aj, aw], []⟩) (i := 0) (a := a) rfl
          obtain ⟨a', ob', g1, g2, g3⟩ := R2.objs 0 _ (R2.lt ha) ht
          cases ha.symm.trans g1
          have le := R.le
          have ljt := R.lt hja
          have lwt := R.lt hwa
          have gp : ∀ ii, ii < 512 → ((st.t.put j none).put j2 none).get ii = if j2 = ii then none else if j = ii then none else st.t.get ii := fun ii hii => by
            rw [T.get_put _ (by omega) hii, T.get_put _ (by omega) hii]
          have R3 := R.afterL hm R2.ofP (t' := (st.t.put j none).put j2 none) (fun ii h1 h2 => by rw [gp ii h2, if_neg (by omega), if_neg (by omega)]; exact R.clean ii h1 h2)
            (fun ii o h1 h2 => by
              rw [gp ii (by omega)] at h2
              split at h2
              · (first | exact (ff h2).elim | exact (nn h2).elim | cases h2)
              · split at h2
                · (first | exact (ff h2).elim | exact (nn h2).elim | cases h2)
                · rename_i q1 q2
                  by_cases q : ii = i
                  · subst q
                    rw [h0] at h2; (first | exact (ff h2).elim | exact (nn h2).elim | cases h2)
                    exact .inr ⟨rfl, a, ob', hi, g2, g3⟩
                  · refine .inl ⟨h2, fun b hb hmem => ?_⟩
                    rcases List.mem_cons.mp hmem with e0 | hmem
                    · exact q (idx_inj R.nodup hb (e0 ▸ hi))
                    · rcases List.mem_cons.mp hmem with e0 | hmem
                      · exact q2 (idx_inj R.nodup (e0 ▸ hja) hb)
                      · exact q1 (idx_inj R.nodup (List.mem_singleton.mp hmem ▸ hwa) hb))
            (fun jj D d ms h1 h2 => by
              rw [gp jj (by omega)] at h2
              split at h2
              · (first | exact (ff h2).elim | exact (nn h2).elim | cases h2)
              · split at h2
                · (first | exact (ff h2).elim | exact (nn h2).elim | cases h2)
                · obtain ⟨p1, p2⟩ := R.owns jj D d ms h1 h2
                  have d1 : j ≠ d := fun q => by rw [← q, hc] at p2; (first | exact (ff p2).elim | exact (nn p2).elim | cases p2)
                  have d2 : j2 ≠ d := fun q => by rw [← q, hcw] at p2; (first | exact (ff p2).elim | exact (nn p2).elim | cases p2)
                  have d3 : i ≠ d := fun q => by rw [← q, h0] at p2; (first | exact (ff p2).elim | exact (nn p2).elim | cases p2)
                  refine ⟨by rw [gp d (by omega), if_neg d2, if_neg d1]; exact p2, fun b hb hmem => ?_⟩
                  rcases List.mem_cons.mp hmem with e0 | hmem
                  · exact d3 (idx_inj R.nodup (e0 ▸ hi) hb)
                  · rcases List.mem_cons.mp hmem with e0 | hmem
                    · exact d1 (idx_inj R.nodup (e0 ▸ hja) hb)
                    · exact d2 (idx_inj R.nodup (List.mem_singleton.mp hmem ▸ hwa) hb))
          exact C m (.ret (.tt true)) _ _ s2 (Wm.Le.refl m) R3 ⟨w, rfl, r3⟩ e5
      | _ => (first | exact (ff e4).elim | exact (nn e4).elim | cases e4)
  | _ => (first | exact (ff e3).elim | exact (nn e3).elim | cases e3)
/-- the part with two cells -/
noncomputable def chosenSum (vs : List V) : EM V := match vs with
  | [v] => match v with
    | .ref i => fun k s => ifB (Nat.blt (Nat.add s.n 1) 512) (ifB (Nat.blt i s.n) (rightSum [.ref i] (fun r s' => k r ⟨Nat.add (Nat.add s'.n 1) 1, s'.k, ((((s'.t.put s'.n (some (.cell none))).put (Nat.add s'.n 1) (some (.cell none))).put s'.n (some (.cell (some (.ref i))))).put s'.n none).put (Nat.add s'.n 1) none, s'.fr, s'.fd⟩) s) false) false
    | _ => EM.fail
  | _ => EM.fail
noncomputable def headOkC (P : Pg) (a : Addr) : Bool := match P.fn a with
  | some f => decide (f.params = [(sid "source", true)]) && decide (f.cellNames = [sid "source", sid "W"])
  | none => false
theorem head_681 (p : Params) : headOkC (P0 p) 681 = true := by kernel_rfl
theorem sid_sw : sid "source" ≠ sid "W" := by decide +kernel
theorem lay_two {x y : Nat} {K : List (Nat × Nat) → St → Bool} (h : st.n + 1 < 512) : layCells [x, y] [] K st = K [(y, Nat.add st.n 1), (x, st.n)] ⟨Nat.add (Nat.add st.n 1) 1, st.k, (st.t.put st.n (some (.cell none))).put (Nat.add st.n 1) (some (.cell none)), st.fr, st.fd⟩ := by
  show ifB (Nat.blt st.n 512) (ifB (Nat.blt (Nat.add st.n 1) 512) (K [(y, Nat.add st.n 1), (x, st.n)] ⟨Nat.add (Nat.add st.n 1) 1, st.k, (st.t.put st.n (some (.cell none))).put (Nat.add st.n 1) (some (.cell none)), st.fr, st.fd⟩) false) false = _
  rw [show Nat.blt st.n 512 = true from Nat.blt_eq.mpr (by omega), show Nat.blt (Nat.add st.n 1) 512 = true from Nat.blt_eq.mpr h]
theorem store_at {v : V} {c : Cx} {x j : Nat} {w : Option V} {K : Unit → St → Bool} (h1 : lk x c.cells = some j) (h2 : st.t.get j = some (.cell w)) : storeCell c x v K st = K () ⟨st.n, st.k, st.t.put j (some (.cell (some v))), st.fr, st.fd⟩ := by
  show (ifO (lk x c.cells) false fun j => look j (fun o s => match o with
    | .cell _ => store j (.cell (some v)) K s
    | _ => false) st) = _
  rw [h1]
  show (ifO (st.t.get j) false fun o => match o with
    | .cell _ => store j (.cell (some v)) K st
    | _ => false) = _
  rw [h2]
  rfl
theorem chosen_ok {p : Params} (x : GK G p) (hK : runC (P1 p) 681 kEnd stC = true) : SumOk G 681 chosenSum 202 := by
  have hh := head_681 p
  unfold headOkC at hh
  rw [← x.fn 681] at hh
  cases hf : G.P.fn 681 with
  | none => rw [hf] at hh; (first | exact (ff hh).elim | exact (nn hh).elim | cases hh)
  | some f =>
    rw [hf] at hh
    obtain ⟨h1, h2⟩ := Bool.and_eq_true_iff.mp hh
    have h1 := of_decide_eq_true h1
    have h2 := of_decide_eq_true h2
    refine sum_ofC x.g hf (chosen_xs x hf hK) fun xs k st e => ?_
    rcases xs with _ | ⟨v, _ | ⟨w, xs⟩⟩
    · (first | exact (ff e).elim | exact (nn e).elim | cases e)
    · cases v with
      | ref i =>
        obtain ⟨b1, e1⟩ := ifB_ff (b := Nat.blt (Nat.add st.n 1) 512) e
        obtain ⟨b2, e2⟩ := ifB_ff (b := Nat.blt i st.n) e1
        have b1 : st.n + 1 < 512 := Nat.blt_eq.mp b1
        have b2 := Nat.blt_eq.mp b2
        obtain ⟨i', hi', h0, e3⟩ := right_cases e2
        (first | exact (ff hi').elim | exact (nn hi').elim | cases hi')
        obtain ⟨n0, k0, t, fr, fd⟩ := st
        dsimp only at b1 b2 h0 e3
        unfold callFn fillArgs
        rw [h1, h2]
        show layCells [sid "source", sid "W"] [] (fun cells s => layArgs ⟨f.sc, cells, f.code⟩ [(sid "source", true)] [.ref i] [] (fun fr s => within fr ((onlyC f.sc f.code f.body chosenF).xs ⟨f.sc, cells, f.code⟩ f.body) (fun r s => match r with
          | .next => k .none s
          | .ret v => k v s) s) s) ⟨n0, k0, t, fr, fd⟩ = true
        rw [lay_two (by exact b1)]
        dsimp only
        have g2 : ∀ j, j < 512 → ((t.put n0 (some (.cell none))).put (Nat.add n0 1) (some (.cell none))).get j = if n0 + 1 = j then some (.cell none) else if n0 = j then some (.cell none) else t.get j := fun j hj => by
          rw [T.get_put _ b1 hj, T.get_put _ (by omega) hj]
        show storeCell ⟨f.sc, [(sid "W", Nat.add n0 1), (sid "source", n0)], f.code⟩ (sid "source") (.ref i) (fun _ s => within [] ((onlyC f.sc f.code f.body chosenF).xs ⟨f.sc, [(sid "W", Nat.add n0 1), (sid "source", n0)], f.code⟩ f.body) (fun r s => match r with
          | .next => k .none s
          | .ret v => k v s) s) ⟨Nat.add (Nat.add n0 1) 1, k0, (t.put n0 (some (.cell none))).put (Nat.add n0 1) (some (.cell none)), fr, fd⟩ = true
        have l1 : lk (sid "source") [(sid "W", Nat.add n0 1), (sid "source", n0)] = some n0 := by rw [lk_cons, if_neg sid_sw, lk_cons, if_pos rfl]
        have l2 : lk (sid "W") [(sid "W", Nat.add n0 1), (sid "source", n0)] = some (Nat.add n0 1) := by rw [lk_cons, if_pos rfl]
        rw [store_at l1 (w := none) (by show ((t.put n0 (some (.cell none))).put (Nat.add n0 1) (some (.cell none))).get n0 = _; rw [g2 n0 (by omega), if_neg (by omega), if_pos rfl])]
        rw [onlyC_at (c := ⟨f.sc, [(sid "W", Nat.add n0 1), (sid "source", n0)], f.code⟩) rfl rfl]
        have g3 : ∀ j, j < 512 → (((t.put n0 (some (.cell none))).put (Nat.add n0 1) (some (.cell none))).put n0 (some (.cell (some (.ref i))))).get j = if n0 = j then some (.cell (some (.ref i))) else if n0 + 1 = j then some (.cell none) else t.get j := fun j hj => by
          rw [T.get_put _ (by omega) hj, g2 j hj]
          by_cases q : n0 = j
          · rw [if_pos q, if_pos q]
          · rw [if_neg q, if_neg q, if_neg q]
        show (ifO (lk (sid "source") [(sid "W", Nat.add n0 1), (sid "source", n0)]) false fun j => ifO (lk (sid "W") [(sid "W", Nat.add n0 1), (sid "source", n0)]) false fun j2 => ifO ((((t.put n0 (some (.cell none))).put (Nat.add n0 1) (some (.cell none))).put n0 (some (.cell (some (.ref i))))).get j) false fun o => match o with
          | .cell (some v) => ifO ((((t.put n0 (some (.cell none))).put (Nat.add n0 1) (some (.cell none))).put n0 (some (.cell (some (.ref i))))).get j2) false fun o => match o with
            | .cell none => rightSum [v] (fun r s' => k r ⟨s'.n, s'.k, (s'.t.put j none).put j2 none, fr, s'.fd⟩) ⟨Nat.add (Nat.add n0 1) 1, k0, ((t.put n0 (some (.cell none))).put (Nat.add n0 1) (some (.cell none))).put n0 (some (.cell (some (.ref i)))), [], fd⟩
            | _ => false
          | _ => false) = true
        rw [l1, l2]
        show (ifO ((((t.put n0 (some (.cell none))).put (Nat.add n0 1) (some (.cell none))).put n0 (some (.cell (some (.ref i))))).get n0) false fun o => match o with
          | .cell (some v) => ifO ((((t.put n0 (some (.cell none))).put (Nat.add n0 1) (some (.cell none))).put n0 (some (.cell (some (.ref i))))).get (n0 + 1)) false fun o => match o with
            | .cell none => rightSum [v] (fun r s' => k r ⟨s'.n, s'.k, (s'.t.put n0 none).put (Nat.add n0 1) none, fr, s'.fd⟩) ⟨Nat.add (Nat.add n0 1) 1, k0, ((t.put n0 (some (.cell none))).put (Nat.add n0 1) (some (.cell none))).put n0 (some (.cell (some (.ref i)))), [], fd⟩
            | _ => false
          | _ => false) = true
        rw [g3 n0 (by omega), if_pos rfl]
        show (ifO ((((t.put n0 (some (.cell none))).put (Nat.add n0 1) (some (.cell none))).put n0 (some (.cell (some (.ref i))))).get (n0 + 1)) false fun o => match o with
            | .cell none => rightSum [.ref i] (fun r s' => k r ⟨s'.n, s'.k, (s'.t.put n0 none).put (Nat.add n0 1) none, fr, s'.fd⟩) ⟨Nat.add (Nat.add n0 1) 1, k0, ((t.put n0 (some (.cell none))).put (Nat.add n0 1) (some (.cell none))).put n0 (some (.cell (some (.ref i)))), [], fd⟩
            | _ => false) = true
        rw [g3 (n0 + 1) b1, if_neg (by omega), if_pos rfl]
        show (ifO ((((t.put n0 (some (.cell none))).put (Nat.add n0 1) (some (.cell none))).put n0 (some (.cell (some (.ref i))))).get i) false fun o => match o with
            | .src fs => match fs with
              | [] => k (.tt true) ⟨Nat.add (Nat.add n0 1) 1, k0, ((((t.put n0 (some (.cell none))).put (Nat.add n0 1) (some (.cell none))).put n0 (some (.cell (some (.ref i))))).put n0 none).put (Nat.add n0 1) none, fr, fd⟩
              | _ => false
            | _ => false) = true
        rw [g3 i (by omega), if_neg (by omega), if_neg (by omega), h0]
        exact e3
      | _ => (first | exact (ff e).elim | exact (nn e).elim | cases e)
    · (first | exact (ff v).elim | exact (nn v).elim | cases v) <;> (first | exact (ff e).elim | exact (nn e).elim | cases e)
end Sx
end
section
open PySem PySem.W PySem.Calls PyProof.Rows
namespace Sx
set_option maxRecDepth 100000
variable {G : Gl} {B : Base} {m : Wm} {st : St} {s : Shared} {A : Around} {env : Env} {E : Value → Shared → Prop} {n : Nat} {h : Ih} {c : Cx}
/-! the law whole -/
noncomputable def sums2 : Addr → Option (List V → EM V) := fun a => match Nat.beq a 612 with
  | true => some poolSum
  | false => match Nat.beq a 664 with
    | true => some rightSum
    | false => match Nat.beq a 676 with
      | true => some rightSum
      | false => match Nat.beq a 681 with
        | true => some chosenSum
        | false => match Nat.beq a 686 with
          | true => some rightSum
          | false => none
noncomputable abbrev P2 (p : Params) : Pg := mkPg (KT p) sums2 110
noncomputable def kLaw (r : V) (s : St) : Bool := match r with
  | .tt b => match b with
    | true => ifO (s.t.get 0) false fun o => match o with
      | .scr => true
      | _ => false
    | false => false
  | _ => false
theorem kLaw_of {r : V} {s : St} (e : kLaw r s = true) : r = .tt true ∧ s.t.get 0 = some .scr := by
  cases r with
  | tt b =>
    cases b with
    | false => (first | exact (ff e).elim | exact (nn e).elim | cases e)
    | true =>
      obtain ⟨o, h1, h2⟩ := ifO_ff (o := s.t.get 0) e
      cases o with
      | scr => exact ⟨rfl, h1⟩
      | _ => (first | exact (ff h2).elim | exact (nn h2).elim | cases h2)
  | _ => (first | exact (ff e).elim | exact (nn e).elim | cases e)
noncomputable def stLaw : St := ⟨1, 0, T.put .nil 0 (some .scr), [], []⟩
noncomputable def runLaw (P : Pg) : Bool := match P.fn 693 with
  | some f => callFn (run P 100) f [.ref 0] kLaw stLaw
  | none => false
set_option maxHeartbeats 0 in
theorem law_run (p : Params) : runLaw (P2 p) = true := by kernel_rfl
/-- the parts hold, each by itself -/
structure Parts (p : Params) : Prop where
  call : ∀ a b : Nat, ∃ fd, Forced fd a b ∧ runB (P1 p) 664 kEnd (st1 fd) = true
  built : ∀ a b : Nat, ∃ fd, Forced fd a b ∧ runB (P1 p) 676 kEnd (st1 fd) = true
  chosen : runC (P1 p) 681 kEnd stC = true
  pre : ∀ a b : Nat, ∃ fd, Forced fd a b ∧ runTo (P1 p) 686 5 kPre (st1 fd) = true
  post : ∀ (w a b : Nat), w = sid "go" ∨ w = sid "defer" → ∃ fd, Forced fd a b ∧ runFrom (P1 p) 686 5 kEnd (st2 w fd) = true
theorem sums2_ok {p : Params} (x : GK G p) (T : Parts p) : SumsOk (G.with (P2 p)) 202 := by
  have y : GK (G.with (P2 p)) p := ⟨x.g0 sums2, x.K, x.lam⟩
  intro a f e
  have e' : sums2 a = some f := e
  unfold sums2 at e'
  cases q1 : Nat.beq a 612 with
  | true =>
    rw [q1] at e'; have := Nat.beq_eq.mp q1; subst this; (first | exact (ff e').elim | exact (nn e').elim | cases e')
    have z := pool_ok y
    intro B m xs k st s A vs Q e hx R O C
    exact z B m xs k st s A vs Q e hx R (O.le (by decide)) C
  | false =>
    rw [q1] at e'
    cases q2 : Nat.beq a 664 with
    | true => rw [q2] at e'; have := Nat.beq_eq.mp q2; subst this; (first | exact (ff e').elim | exact (nn e').elim | cases e'); exact right_ok y (head_664 p) T.call
    | false =>
      rw [q2] at e'
      cases q3 : Nat.beq a 676 with
      | true => rw [q3] at e'; have := Nat.beq_eq.mp q3; subst this; (first | exact (ff e').elim | exact (nn e').elim | cases e'); exact right_ok y (head_676 p) T.built
      | false =>
        rw [q3] at e'
        cases q4 : Nat.beq a 681 with
        | true => rw [q4] at e'; have := Nat.beq_eq.mp q4; subst this; (first | exact (ff e').elim | exact (nn e').elim | cases e'); exact chosen_ok y T.chosen
        | false =>
          rw [q4] at e'
          cases q5 : Nat.beq a 686 with
          | true => rw [q5] at e'; have := Nat.beq_eq.mp q5; subst this; (first | exact (ff e').elim | exact (nn e').elim | cases e'); exact later_ok y (head_686 p) T.pre T.post
          | false => rw [q5] at e'; (first | exact (ff e').elim | exact (nn e').elim | cases e')
theorem law_call {p : Params} (x : GK G p) (T : Parts p) {sv : Value} {Q : Value → Shared → Prop} (hx : VRel m (.ref 0) sv) (R : Rel G B m stLaw s) (O : Okay 303 A)
    (C : ∀ m' st' s', m.Le m' → Rel G B m' st' s' → st'.t.get 0 = some .scr → (∀ o, s.heap.get? B.L = some o → s'.heap.get? B.L = some o) → Q (.bool true) s') : wpAny (model G.prog G.w) A (call (.ref 693) [sv]) Q E s := by
  have I := run_ok (x.g0 sums2) (sums2_ok x T) 100
  have hr := law_run p
  unfold runLaw at hr
  cases hf : (P2 p).fn 693 with
  | none => rw [hf] at hr; (first | exact (ff hr).elim | exact (nn hr).elim | cases hr)
  | some f =>
    rw [hf] at hr
    refine call_ret (G := G.with (P2 p)) (callFn_sound2 (x.g0 sums2) I.xs hf hr (vs := [sv]) ⟨hx, trivial⟩ (R.toP (P2 p)) O fun m' a st' b s' l R' r e kL => ?_)
    obtain ⟨rfl, ht⟩ := kLaw_of e
    have r : b = .bool true := r
    subst r
    exact C m' st' s' l R'.ofP ht kL
theorem call_pick {P : Pg} {ad : Addr} (r : ∀ j1 j2, j1 < 3 → j2 < 3 → runB P ad kEnd (st1 [(3, j1), (4, j2)]) = true) (r3 : ∀ j1 j3, j1 < 3 → j3 < 3 → runB P ad kEnd (st1 [(3, j1), (4, 3), (60, 60), (3, j3)]) = true) (a b : Nat) :
    ∃ fd, Forced fd a b ∧ runB P ad kEnd (st1 fd) = true := by
  have h1 := lt_draw 3 a b (by decide)
  have h2 := lt_draw 4 (leftA 3 a) (leftB a b) (by decide)
  by_cases q : drawOf 4 (leftA 3 a) (leftB a b) = 3
  · refine ⟨[(3, drawOf 3 a b), (4, 3), (60, 60), (3, _)], ⟨fun _ => rfl, fun _ => q, fun z => absurd z (Nat.lt_irrefl _), fun _ => rfl, trivial⟩, r3 _ _ h1 (lt_draw 3 _ _ (by decide))⟩
  · refine ⟨[(3, drawOf 3 a b), (4, drawOf 4 (leftA 3 a) (leftB a b))], ⟨fun _ => rfl, fun _ => rfl, trivial⟩, r _ _ h1 (by omega)⟩
end Sx
end
section
open PySem PySem.W PySem.Calls PyProof.Rows
namespace Sx
set_option maxRecDepth 100000
theorem int_items {R : WRecords} : ∀ {xs : List WData}, WShape.hasItems R xs .int = true → ∃ ks : List Int, xs = ks.map .int
  | [], _ => ⟨[], rfl⟩
  | x :: xs, e => by
    have e' : (WShape.has R x .int && WShape.hasItems R xs .int) = true := by unfold WShape.hasItems at e; exact e
    obtain ⟨h1, h2⟩ := Bool.and_eq_true_iff.mp e'
    obtain ⟨ks, rfl⟩ := int_items h2
    cases x with
    | int k => exact ⟨k :: ks, rfl⟩
    | _ => exact (ff h1).elim
theorem args_of {args : List WData} (hpre : PySem.Challenge.rw_xm0181_01.row.toRowW.claim.pre args = true) : ∃ ks : List Int, args = [.list (ks.map .int)] ∧ ks.length ≤ 63 := by
  obtain ⟨h1, h2⟩ := pre_splitW hpre
  obtain ⟨d, r, rfl, h3, h4⟩ := hasAllW_cons (e := .list .int) (es := []) h1
  have h5 := hasAllW_nil h4
  subst h5
  cases d with
  | list xs =>
    have h6 : WShape.hasItems PySem.Challenge.rw_xm0181_01.row.records xs .int = true := (Bool.or_false _).symm.trans h3
    obtain ⟨ks, rfl⟩ := int_items h6
    refine ⟨ks, rfl, ?_⟩
    have h7 : WTm.holds [] (.and (.not (.lt (.lit (.int 63)) (.len (.arg 0)))) (.lit (.bool true))) { args := [.list (ks.map .int)] } = true := h2
    simp only [WTm.holds, WTm.value, List.getElem?_cons_zero, List.length_map] at h7
    refine Nat.not_lt.mp fun q => ?_
    have h8 : Num.less? (WData.int 63) (WData.int (ks.length : Int)) = some true := by
      show some (decide ((63 : Int) < (ks.length : Int))) = some true
      rw [decide_eq_true (by omega)]
    have h9 : less? (WData.int 63) (WData.int (ks.length : Int)) = Num.less? (WData.int 63) (WData.int (ks.length : Int)) := by simp [less?]
    rw [h9, h8] at h7
    (first | exact (ff h7).elim | exact (nn h7).elim | cases h7)
  | _ => exact (ff h3).elim
theorem well_int {P : Params} {h : Heap} {v : Value} {d : WData} (w : Well P h v d) : ∀ k : Int, d = .int k → ∃ t, v = .int k t := by
  cases w with
  | int i t => intro k e; exact ⟨t, by injection e with e; rw [e]⟩
  | _ => intro k e; exact WData.noConfusion e
theorem well_ints {P : Params} {h : Heap} {ks : List Int} : ∀ {vs : List Value}, WellAll P h vs (ks.map .int) → IntsAre vs ks := by
  induction ks with
  | nil => intro vs w; cases w; exact .nil
  | cons k ks ih =>
    intro vs w
    change WellAll P h vs (.int k :: ks.map .int) at w
    cases w with
    | cons a b => obtain ⟨t, rfl⟩ := well_int a k rfl; exact .cons k t (ih b)
end Sx
end
section
open PySem PySem.W PySem.Calls PyProof.Rows
namespace Sx
set_option maxRecDepth 100000
theorem hide_get {h : Heap} {l : List Addr} {b : Addr} {o : Obj} (e : h.get? b = some o) (hb : b ∉ l) : (hideAll h l).get? b = some o := hideAll_get _ e hb
theorem hide_ns {h : Heap} {l : List Addr} {b : Addr} {f : Str → Option Value} (x : h.Ns b f) (hb : b ∉ l) : (hideAll h l).Ns b f := let ⟨o, es, ep, e, r⟩ := x; ⟨o, es, ep, hide_get e hb, r⟩
theorem kt_far : asK.all (fun a => !(a == 106) && !(a == 391)) = true := by kernel_rfl
theorem kt_nolist (p : Params) : (KT p).all (fun q => match q.2.cls with | .type "list" => false | _ => true) = true := by kernel_rfl
theorem kt_hd (p : Params) : codeHdIn (KT p) 110 106 = true := by kernel_rfl
theorem kt_main (p : Params) : (match (KT p).lookup 3 with | some ⟨_, _, .dict es _, _⟩ => nsFind es ("law" : Str) | _ => none) = some (.ref 693) := by kernel_rfl
theorem kt_has3 (p : Params) : ((KT p).lookup 3).isSome = true := by kernel_rfl
theorem lookup_mem : ∀ {K : Frag} {a : Addr} {o : Obj}, K.lookup a = some o → (a, o) ∈ K
  | [], _, _, e => by simp at e
  | (b, o') :: r, a, o, e => by
    rw [List.lookup_cons] at e
    cases q : a == b with
    | true => rw [q] at e; (first | exact (ff e).elim | exact (nn e).elim | cases e); rw [beq_iff_eq.mp q]; exact .head _
    | false => rw [q] at e; exact .tail _ (lookup_mem e)
theorem law_post (args ds : List WData) : PySem.Challenge.rw_xm0181_01.row.toRowW.claim.post args (.bool true) ds = true := by
  show (WShape.has [] (.bool true) .bool && WTm.holds [] (.eq .res (.lit (.bool true))) { args := args, res := some (.bool true), after := ds }) = true
  simp [WShape.has, WShape.arms, WTm.holds, WTm.value, same]
theorem law_walk (TP : ∀ p, Parts p) {w : World} {s₀ s₁ : Shared} {mg mb : Str → Option Value} {E : Value → Shared → Prop} (G : Ground q1 loose1 PySem.Challenge.rw_xm0181_01.row.toRowW.records (fun _ _ => True) w s₀ mg mb s₁.heap) (Y : Seen1 w s₁.heap) {fa : Addr} (hmg : mg ("law" : Str) = some (.ref fa)) (hg : s₁.gens = #[])
    {args : List WData} {vals : List Value} {as : List Addr} (hpre : PySem.Challenge.rw_xm0181_01.row.toRowW.claim.pre args = true) (hrd : ReadsAllW PySem.Challenge.rw_xm0181_01.row.toRowW.records (classAt s₀.heap) s₁.heap vals args as) (hwl : WellAll w.params s₁.heap vals args) (hlo : ∀ a ∈ as, (a == sysModules) = false) :
    wpAny (model PySem.Challenge.rw_xm0181_01.row.toRowW.prog w) callerA (PySem.call (.ref fa) vals) (fun v s' => GoodWG PySem.Challenge.rw_xm0181_01.row.toRowW.claim (classAt s₀.heap) (ExcName.means s₀.heap) args s₁ (.ok (.ret v)) s') E s₁ := by
  obtain ⟨ks, rfl, hlen⟩ := args_of hpre
  cases hwl with
  | cons hw1 hw2 =>
  (first | exact (ff hw2).elim | exact (nn hw2).elim | cases hw2)
  cases hw1 with
  | @list sc vs _ hsc hvs =>
  have hI := well_ints hvs
  have hscas : sc ∈ as := by
    cases hrd with
    | cons h1 h2 => cases h1 with | list => simp
  have hsm := beq_eq_false_iff_ne.mp (hlo sc hscas)
  have h106 : s₁.heap.get? 106 = some { cls := .none, data := .fields #[] } := Y.kx 106 _ rfl
  have h391 := Y.kx 391 _ rfl
  have n1 : sc ≠ 106 := fun q => by rw [q, h106] at hsc; (first | exact (ff hsc).elim | exact (nn hsc).elim | cases hsc)
  have n2 : sc ≠ 391 := fun q => by
    rw [q, h391] at hsc
    have z := congrArg Obj.data (Option.some.inj hsc)
    (first | exact (ff z).elim | exact (nn z).elim | cases z)
  have nn : ∀ {b : Addr} {ob : Obj}, s₁.heap.get? b = some ob → (∀ vs n, ob ≠ { cls := .type "list", data := .seq vs n }) → ob.data ≠ .fields #[] → b ≠ 391 → b ∉ [106, 391, sc] := fun {b ob} e h1 h2 h3 hm => by
    rcases List.mem_cons.mp hm with q | hm
    · rw [q, h106] at e; (first | exact (ff e).elim | exact (nn e).elim | cases e); exact h2 rfl
    · rcases List.mem_cons.mp hm with q | hm
      · exact h3 q
      · rw [List.mem_singleton.mp hm, hsc] at e; (first | exact (ff e).elim | exact (nn e).elim | cases e); exact h1 _ _ rfl
  have nsfar : ∀ {b : Addr} {f : Str → Option Value}, s₁.heap.Ns b f → b ≠ 391 → b ∉ [106, 391, sc] := fun {b f} ⟨ob, es, ep, e, hd, _⟩ h3 => nn e (fun vs n q => by rw [q] at hd; (first | exact (ff hd).elim | exact (nn hd).elim | cases hd)) (fun q => by rw [q] at hd; (first | exact (ff hd).elim | exact (nn hd).elim | cases hd)) h3
  have kin : (KT w.params).In (hideAll s₁.heap [106, 391, sc]) := fun a ob e => by
    have e1 := Y.kt a ob e
    have hmem := lookup_mem e
    have hmem2 : a ∈ asK := by rw [asK_eq w.params]; exact List.mem_map_of_mem (f := (·.1)) hmem
    have hf := List.all_eq_true.mp kt_far a hmem2
    simp only [Bool.and_eq_true, Bool.not_eq_true', beq_eq_false_iff_ne] at hf
    have hl := List.all_eq_true.mp (kt_nolist w.params) _ hmem
    refine hide_get e1 fun hm => ?_
    rcases List.mem_cons.mp hm with q | hm
    · exact hf.1 q
    · rcases List.mem_cons.mp hm with q | hm
      · exact hf.2 q
      · rw [List.mem_singleton.mp hm, hsc] at e1; (first | exact (ff e1).elim | exact (nn e1).elim | cases e1); (first | exact (ff hl).elim | exact (nn hl).elim | cases hl)
  -- the law's own address
  have hfa : fa = 693 := by
    have z := kt_main w.params
    have z3 := kt_has3 w.params
    obtain ⟨o3, e3⟩ := Option.isSome_iff_exists.mp z3
    rw [e3] at z
    obtain ⟨ob, es, ep, e, hd, _, hf⟩ := G.T.g
    have e4 := Y.kt 3 o3 e3
    have : s₁.heap.get? mainGlobals = some o3 := e4
    rw [this] at e
    (first | exact (ff e).elim | exact (nn e).elim | cases e)
    obtain ⟨oc, od, odat, osl⟩ := o3
    dsimp only at hd
    subst hd
    have z : nsFind es ("law" : Str) = some (.ref 693) := z
    rw [hf ("law" : Str), hmg] at z
    (first | exact (ff z).elim | exact (nn z).elim | cases z); rfl
  subst hfa
  obtain ⟨bm, obm, b1, b2, b4, b5, b6, b7⟩ := G.T.bmain
  have m1 : bm ≠ mainGlobals := fun q => by
    obtain ⟨ob, es, ep, e, hd, _⟩ := G.T.g
    rw [q, e] at b4; (first | exact (ff b4).elim | exact (nn b4).elim | cases b4); rw [hd] at b7; (first | exact (ff b7).elim | exact (nn b7).elim | cases b7)
  have m2 : bm ≠ 106 := fun q => by
    rw [q, h106] at b4; (first | exact (ff b4).elim | exact (nn b4).elim | cases b4); (first | exact (ff b7).elim | exact (nn b7).elim | cases b7)
  have m4 : bm ≠ 391 := fun q => by
    rw [q, h391] at b4
    have z := congrArg Obj.data (Option.some.inj b4)
    rw [b7] at z; (first | exact (ff z).elim | exact (nn z).elim | cases z)
  have m3 : bm ∉ [106, 391, sc] := nn b4 (fun vs n q => by rw [q] at b7; (first | exact (ff b7).elim | exact (nn b7).elim | cases b7)) (fun q => by rw [b7] at q; (first | exact (ff q).elim | exact (nn q).elim | cases q)) m4
  have x : GOk { prog := PySem.Challenge.rw_xm0181_01.row.toRowW.prog, w := w, K := KT w.params, P := P0 w.params, gens := s₁.gens, drawn := s₁.drawn, os := s₁.os, tbl := 106, tok := fun o => ∃ ps, o = tabObj ps ∧ TriplesOk ps.toList, old := hideAll s₁.heap [106, 391, sc], lam := 110, scr := { cls := .type "list", data := .seq vs.toArray } } :=
    { kin := kin
      lim := by obtain ⟨mc, h1, h2⟩ := G.T.nolimit; exact ⟨mc, hide_ns h1 (nsfar h1 (by decide)), h2⟩
      bn := ⟨mb, hide_ns G.T.b (nsfar G.T.b (by decide)), G.T.builtins⟩
      pg := ⟨_, rfl⟩
      tok := rfl
      hd := codeHd_of_K kin (kt_hd w.params)
      bm := ⟨mg, hide_ns G.T.g (nsfar G.T.g (by decide)), bm, obm, b1, b2, m1, m2, hide_get b4 m3, b5, b6, b7⟩
      sm := by
        obtain ⟨ob, e⟩ := Y.sm
        refine ⟨ob, hide_get e fun hm => ?_⟩
        rcases List.mem_cons.mp hm with q | hm
        · (first | exact (ff q).elim | exact (nn q).elim | cases q)
        · rcases List.mem_cons.mp hm with q | hm
          · (first | exact (ff q).elim | exact (nn q).elim | cases q)
          · exact hsm (List.mem_singleton.mp hm).symm }
  generalize hG : ({ prog := PySem.Challenge.rw_xm0181_01.row.toRowW.prog, w := w, K := KT w.params, P := P0 w.params, gens := s₁.gens, drawn := s₁.drawn, os := s₁.os, tbl := 106, tok := fun o => ∃ ps, o = tabObj ps ∧ TriplesOk ps.toList, old := hideAll s₁.heap [106, 391, sc], lam := 110, scr := { cls := .type "list", data := .seq vs.toArray } } : Gl) = GG at x
  have gk : GK GG w.params := ⟨x, by rw [← hG], by rw [← hG]⟩
  have gtbl : GG.tbl = 106 := by rw [← hG]
  have gold : GG.old = hideAll s₁.heap [106, 391, sc] := by rw [← hG]
  have gscr : GG.scr = { cls := .type "list", data := .seq vs.toArray } := by rw [← hG]
  have R : Rel GG ⟨s₁.heap, [sc], 391⟩ ⟨[sc], []⟩ stLaw s₁ := by
    refine { len := rfl, le := (by show 1 ≤ 512; decide), syms := rfl, nodup := (by simp), here := fun b hb => ⟨_, (List.mem_singleton.mp hb).symm ▸ hsc⟩, newer := fun b hb => .inl hb, pre := fun b hb => hb,
             keep := fun b o e _ _ _ => e, loc := ?_, locFar := fun hb => n2 (List.mem_singleton.mp hb).symm, tblFar := ⟨fun hb => n1 ((List.mem_singleton.mp hb).symm.trans gtbl), by show (391 : Nat) ≠ GG.tbl; rw [gtbl]; decide⟩, tb := ?_, kb := ?_, objs := ?_, clean := ?_, owns := ?_,
             gens := by rw [← hG], drawn := by rw [← hG], os := by rw [← hG] }
    · refine ⟨nsFind _, ⟨_, _, _, h391, rfl, ?_, fun _ => rfl⟩, fun _ _ _ z => by (first | exact (ff z).elim | exact (nn z).elim | cases z)⟩
      intro e he
      simp [ent] at he
      rcases he with rfl | rfl | rfl | rfl <;> exact ⟨_, _, rfl⟩
    · refine ⟨_, by rw [gtbl]; exact h106, ?_⟩
      rw [x.tok]; exact ⟨#[], rfl, trivial⟩
    · intro b o e
      rw [gold] at e
      have nb : b ∉ [106, 391, sc] := fun hm => by rw [hideAll_none _ hm] at e; (first | exact (ff e).elim | exact (nn e).elim | cases e)
      refine ⟨of_hideAll _ e, fun hm => nb (by rw [List.mem_singleton.mp hm]; simp), fun q => nb (by rw [q]; simp), fun q => nb (by rw [q, gtbl]; simp)⟩
    · intro i o hi e
      have hi : i < 1 := hi
      have e : (T.put .nil 0 (some .scr)).get i = some o := e
      rw [T.one (by omega), if_pos (by omega)] at e
      (first | exact (ff e).elim | exact (nn e).elim | cases e)
      exact ⟨sc, _, by rw [show i = 0 by omega]; rfl, hsc, gscr.symm, vs.toArray, 0, ks, gscr, by simpa using hI, hlen⟩
    · intro i h1 h2
      have h1 : 1 ≤ i := h1
      show (T.put .nil 0 (some .scr)).get i = none
      rw [T.one h2, if_neg (by omega)]
    · intro j C d ms hj e
      have hj : j < 1 := hj
      have e : (T.put .nil 0 (some .scr)).get j = some (.inst C d ms) := e
      rw [T.one (by omega), if_pos (by omega)] at e
      (first | exact (ff e).elim | exact (nn e).elim | cases e)
  have O : Okay 303 callerA := ⟨rfl, by decide +kernel, by decide +kernel⟩
  have gp : GG.prog = PySem.Challenge.rw_xm0181_01.row.toRowW.prog := by rw [← hG]
  have gw : GG.w = w := by rw [← hG]
  have fin := law_call (G := GG) (A := callerA) (E := E) (sv := .ref sc) (Q := fun v s' => GoodWG PySem.Challenge.rw_xm0181_01.row.toRowW.claim (classAt s₀.heap) (ExcName.means s₀.heap) [.list (ks.map .int)] s₁ (.ok (.ret v)) s') gk (TP w.params) ⟨sc, rfl, rfl⟩ R O fun m' st' s' l R' ht kL => ?_
  · rw [gp, gw] at fin; exact fin
  · refine ⟨.inl ⟨.bool true, .bool true, [], rfl, fun cls => rfl, .bool true, law_post _ _, fun _ => ⟨List.nodup_nil, fun a ha => by (first | exact (ff ha).elim | exact (nn ha).elim | cases ha)⟩⟩, ?_, R'.os.trans (by rw [← hG]), .of_eq (R'.gens.trans (by rw [← hG]; exact hg))⟩
    have hold : ∀ b o, s₁.heap.get? b = some o → asItWas s₁.heap s'.heap b o := fun b o e => by
      by_cases q1 : b = 106
      · subst q1
        rw [h106] at e; (first | exact (ff e).elim | exact (nn e).elim | cases e)
        obtain ⟨o', t1, t2⟩ := R'.tb
        rw [x.tok] at t2
        obtain ⟨ps, rfl, _⟩ := t2
        rw [gtbl] at t1
        have hd0 := codeHd_of_K Y.kt (kt_hd w.params)
        exact .inr (.inl ⟨(hd0.tab (ps := #[]) h106).isCodeTable, rfl, #[], ps, rfl, by rw [t1]; simp⟩)
      · by_cases q2 : b = 391
        · subst q2; exact .inl (kL o e)
        · by_cases q3 : b = sc
          · subst q3
            rw [hsc] at e; (first | exact (ff e).elim | exact (nn e).elim | cases e)
            obtain ⟨a', ob', t1, t2, t3, _⟩ := R'.objs 0 _ (by have := R'.len; have := (l.at (m := ⟨[b], []⟩) (i := 0) (a := b) rfl); have := (List.getElem?_eq_some_iff.mp this).1; omega) ht
            have t4 : m'.ρ[0]? = some b := l.at (m := ⟨[b], []⟩) (i := 0) (a := b) rfl
            cases t4.symm.trans t1
            rw [t3, gscr] at t2
            exact .inl t2
          · exact .inl (R'.keep b o e (fun hm => q3 (List.mem_singleton.mp hm)) q2 (fun q => q1 (q.trans gtbl)))
    refine ⟨hold, fun b o e => ?_⟩
    rcases hold b o e with z | ⟨_, _, _, _, _, z⟩ | ⟨_, _, ⟨o', _, _, z, _⟩, _⟩ <;> exact ⟨_, z⟩
end Sx
end
section
open PySem PySem.W PyProof.Rows
namespace Sx
set_option maxRecDepth 100000
set_option maxHeartbeats 0
theorem rb (p : Params) : runB (P1 p) 676 kEnd (st1 []) = true := by kernel_rfl
end Sx
end
section
open PySem PySem.W PyProof.Rows
namespace Sx
set_option maxRecDepth 100000
set_option maxHeartbeats 0
theorem rc_0a (p : Params) : (runB (P1 p) 664 kEnd (st1 [(3,0),(4,0)]) && runB (P1 p) 664 kEnd (st1 [(3,0),(4,1)])) = true := by kernel_rfl
end Sx
end
section
open PySem PySem.W PyProof.Rows
namespace Sx
set_option maxRecDepth 100000
set_option maxHeartbeats 0
theorem rc_0b (p : Params) : runB (P1 p) 664 kEnd (st1 [(3,0),(4,2)]) = true := by kernel_rfl
end Sx
end
section
open PySem PySem.W PyProof.Rows
namespace Sx
set_option maxRecDepth 100000
set_option maxHeartbeats 0
theorem rc_0c0 (p : Params) : runB (P1 p) 664 kEnd (st1 [(3,0),(4,3),(60,60),(3,0)]) = true := by kernel_rfl
end Sx
end
section
open PySem PySem.W PyProof.Rows
namespace Sx
set_option maxRecDepth 100000
set_option maxHeartbeats 0
theorem rc_0c1 (p : Params) : runB (P1 p) 664 kEnd (st1 [(3,0),(4,3),(60,60),(3,1)]) = true := by kernel_rfl
end Sx
end
section
open PySem PySem.W PyProof.Rows
namespace Sx
set_option maxRecDepth 100000
set_option maxHeartbeats 0
theorem rc_0c2 (p : Params) : runB (P1 p) 664 kEnd (st1 [(3,0),(4,3),(60,60),(3,2)]) = true := by kernel_rfl
end Sx
end
section
open PySem PySem.W PyProof.Rows
namespace Sx
set_option maxRecDepth 100000
set_option maxHeartbeats 0
theorem rc_1a (p : Params) : (runB (P1 p) 664 kEnd (st1 [(3,1),(4,0)]) && runB (P1 p) 664 kEnd (st1 [(3,1),(4,1)])) = true := by kernel_rfl
end Sx
end
section
open PySem PySem.W PyProof.Rows
namespace Sx
set_option maxRecDepth 100000
set_option maxHeartbeats 0
theorem rc_1b (p : Params) : runB (P1 p) 664 kEnd (st1 [(3,1),(4,2)]) = true := by kernel_rfl
end Sx
end
section
open PySem PySem.W PyProof.Rows
namespace Sx
set_option maxRecDepth 100000
set_option maxHeartbeats 0
theorem rc_1c0 (p : Params) : runB (P1 p) 664 kEnd (st1 [(3,1),(4,3),(60,60),(3,0)]) = true := by kernel_rfl
end Sx
end
section
open PySem PySem.W PyProof.Rows
namespace Sx
set_option maxRecDepth 100000
set_option maxHeartbeats 0
theorem rc_1c1 (p : Params) : runB (P1 p) 664 kEnd (st1 [(3,1),(4,3),(60,60),(3,1)]) = true := by kernel_rfl
end Sx
end
section
open PySem PySem.W PyProof.Rows
namespace Sx
set_option maxRecDepth 100000
set_option maxHeartbeats 0
theorem rc_1c2 (p : Params) : runB (P1 p) 664 kEnd (st1 [(3,1),(4,3),(60,60),(3,2)]) = true := by kernel_rfl
end Sx
end
section
open PySem PySem.W PyProof.Rows
namespace Sx
set_option maxRecDepth 100000
set_option maxHeartbeats 0
theorem rc_2a (p : Params) : (runB (P1 p) 664 kEnd (st1 [(3,2),(4,0)]) && runB (P1 p) 664 kEnd (st1 [(3,2),(4,1)])) = true := by kernel_rfl
end Sx
end
section
open PySem PySem.W PyProof.Rows
namespace Sx
set_option maxRecDepth 100000
set_option maxHeartbeats 0
theorem rc_2b (p : Params) : runB (P1 p) 664 kEnd (st1 [(3,2),(4,2)]) = true := by kernel_rfl
end Sx
end
section
open PySem PySem.W PyProof.Rows
namespace Sx
set_option maxRecDepth 100000
set_option maxHeartbeats 0
theorem rc_2c0 (p : Params) : runB (P1 p) 664 kEnd (st1 [(3,2),(4,3),(60,60),(3,0)]) = true := by kernel_rfl
end Sx
end
section
open PySem PySem.W PyProof.Rows
namespace Sx
set_option maxRecDepth 100000
set_option maxHeartbeats 0
theorem rc_2c1 (p : Params) : runB (P1 p) 664 kEnd (st1 [(3,2),(4,3),(60,60),(3,1)]) = true := by kernel_rfl
end Sx
end
section
open PySem PySem.W PyProof.Rows
namespace Sx
set_option maxRecDepth 100000
set_option maxHeartbeats 0
theorem rc_2c2 (p : Params) : runB (P1 p) 664 kEnd (st1 [(3,2),(4,3),(60,60),(3,2)]) = true := by kernel_rfl
end Sx
end
section
open PySem PySem.W PyProof.Rows
namespace Sx
set_option maxRecDepth 100000
set_option maxHeartbeats 0
theorem rd (p : Params) : runFrom (P1 p) 686 5 kEnd (st2 (sid "defer") []) = true := by kernel_rfl
end Sx
end
section
open PySem PySem.W PyProof.Rows
namespace Sx
set_option maxRecDepth 100000
set_option maxHeartbeats 0
theorem rg (p : Params) : runFrom (P1 p) 686 5 kEnd (st2 (sid "go") []) = true := by kernel_rfl
end Sx
end
section
open PySem PySem.W PyProof.Rows
namespace Sx
set_option maxRecDepth 100000
set_option maxHeartbeats 0
theorem rl_0 (p : Params) : runTo (P1 p) 686 5 kPre (st1 [(2,0)]) = true := by kernel_rfl
end Sx
end
section
open PySem PySem.W PyProof.Rows
namespace Sx
set_option maxRecDepth 100000
set_option maxHeartbeats 0
theorem rl_1 (p : Params) : runTo (P1 p) 686 5 kPre (st1 [(2,1)]) = true := by kernel_rfl
end Sx
end
section
open PySem PySem.W PySem.Calls PyProof.Rows
set_option maxRecDepth 100000
set_option maxHeartbeats 8000000
theorem Sx.said_row : PySem.Challenge.rw_xm0181_01.row.wellSaid = true := by
  unfold OpenRow.wellSaid OpenRow.partSaid looksOpen
  repeat' with_reducible apply look_both
  all_goals decide +kernel
theorem Sx.said : PySem.Challenge.rw_xm0181_01.wellSaid = true := by
  unfold OpenLaw.wellSaid
  repeat' with_reducible apply look_both
  exact Sx.said_row
  all_goals decide +kernel
end
section
open PySem PySem.W PySem.Calls PyProof.Rows
namespace Sx
set_option maxRecDepth 100000
theorem rch (p : Params) : runC (P1 p) 681 kEnd stC = true := by kernel_rfl
theorem rc_all (p : Params) : ∀ j1 j2, j1 < 3 → j2 < 3 → runB (P1 p) 664 kEnd (st1 [(3, j1), (4, j2)]) = true := fun j1 j2 h1 h2 =>
  match j1, j2, h1, h2 with
  | 0, 0, _, _ => (Bool.and_eq_true_iff.mp (rc_0a p)).1
  | 0, 1, _, _ => (Bool.and_eq_true_iff.mp (rc_0a p)).2
  | 0, 2, _, _ => rc_0b p
  | 1, 0, _, _ => (Bool.and_eq_true_iff.mp (rc_1a p)).1
  | 1, 1, _, _ => (Bool.and_eq_true_iff.mp (rc_1a p)).2
  | 1, 2, _, _ => rc_1b p
  | 2, 0, _, _ => (Bool.and_eq_true_iff.mp (rc_2a p)).1
  | 2, 1, _, _ => (Bool.and_eq_true_iff.mp (rc_2a p)).2
  | 2, 2, _, _ => rc_2b p
theorem rc_more (p : Params) : ∀ j1 j3, j1 < 3 → j3 < 3 → runB (P1 p) 664 kEnd (st1 [(3, j1), (4, 3), (60, 60), (3, j3)]) = true := fun j1 j3 h1 h3 =>
  match j1, j3, h1, h3 with
  | 0, 0, _, _ => rc_0c0 p
  | 0, 1, _, _ => rc_0c1 p
  | 0, 2, _, _ => rc_0c2 p
  | 1, 0, _, _ => rc_1c0 p
  | 1, 1, _, _ => rc_1c1 p
  | 1, 2, _, _ => rc_1c2 p
  | 2, 0, _, _ => rc_2c0 p
  | 2, 1, _, _ => rc_2c1 p
  | 2, 2, _, _ => rc_2c2 p
theorem pre_pick {P : Pg} {ad : Addr} (r : ∀ j, j < 2 → runTo P ad 5 kPre (st1 [(2, j)]) = true) (a b : Nat) : ∃ fd, Forced fd a b ∧ runTo P ad 5 kPre (st1 fd) = true :=
  ⟨[(2, drawOf 2 a b)], ⟨fun _ => rfl, trivial⟩, r _ (lt_draw 2 a b (by decide))⟩
theorem rl_all (p : Params) : ∀ j, j < 2 → runTo (P1 p) 686 5 kPre (st1 [(2, j)]) = true := fun j h =>
  match j, h with
  | 0, _ => rl_0 p
  | 1, _ => rl_1 p
theorem parts (p : Params) : Parts p where
  call := call_pick (rc_all p) (rc_more p)
  built := fun _ _ => ⟨[], trivial, rb p⟩
  chosen := rch p
  pre := pre_pick (rl_all p)
  post := fun w a b hw => by
    rcases hw with rfl | rfl
    · exact ⟨[], trivial, rg p⟩
    · exact ⟨[], trivial, rd p⟩
end Sx
end
open PySem PySem.W PySem.Calls PyProof.Rows
set_option maxRecDepth 100000 in
set_option maxHeartbeats 8000000 in
theorem PySem.Challenge.cw_xm0181_01_holds : PySem.Challenge.rw_xm0181_01.Holds := by
  refine PySem.W.holds_law Sx.said fun said => ?_
  refine PySem.W.holds_open (q := Sx.q1) (loose := Sx.loose1) (Xt := fun _ => true) (XP := fun _ _ => True) (Yf := Sx.yf) (Ya := Sx.ya) (YP := Sx.Seen1) (N := 4600) Sx.left1
    Sx.ya_in (fun w h h' x k => x.keeps k) (fun _ _ => trivial) (fun _ _ _ _ _ => trivial) (by rfl) (by rfl) (by rfl) (fun s _ => recFacts_nil rfl) (by rfl) (by first | assumption | decide +kernel) (by decide +kernel) ⟨rfl, rfl, rfl, rfl, rfl, by decide +kernel⟩ ?hw ?hc
  case hw => w_witness2
  intro w s₀ s₁ mg mb G Y fa o pm cd doc dV kV ho hd hcd hD hmg hg args vals as hpre hlay hrd hwl hlo
  exact Sx.law_walk Sx.parts G Y hmg hg hpre hrd hwl hlo
