import PyProof.Rows.All
import Wide.All
import OpenK.AllK
import Wide.FinOn
import PySem.Challenge.RW_pf0013_01
set_option Elab.async false
set_option autoImplicit false
set_option linter.all false
set_option genSizeOf false
set_option genSizeOfSpec false
set_option bootstrap.genMatcherCode false

section
set_option genInjectivity false
open PySem PySem.W PyProof.Rows
set_option maxRecDepth 100000
set_option maxHeartbeats 8000000
namespace Mine
theorem saidA : sreFenced PySem.Challenge.pw_pf0013_01.main = true := by kernel_rfl
theorem saidB : ((moduleNames PySem.Challenge.pw_pf0013_01.main.body).isEmpty || lookedIntoSs (moduleNames PySem.Challenge.pw_pf0013_01.main.body) PySem.Challenge.pw_pf0013_01.main.body) = true := by kernel_rfl
theorem saidC : namesResolve PySem.Challenge.pw_pf0013_01 = true := by kernel_rfl
theorem saidD : PySem.Challenge.pw_pf0013_01.boundNames.all (fun n => !worldNames.contains n) = true := by kernel_rfl
theorem saidE : noRoadLSs { strict := !(importedModules PySem.Challenge.pw_pf0013_01.main.body).all cThrough.contains, foot := none, bare := (["vars", "dir", "locals"] : List Str).filter (readsOut PySem.Challenge.pw_pf0013_01 PySem.Challenge.pw_pf0013_01.main.body) } PySem.Challenge.pw_pf0013_01.main.body = true := by kernel_rfl
theorem saidF : namesMeet PySem.Challenge.pw_pf0013_01 PySem.Challenge.pw_pf0013_01.main.body (fun _ n => attrL n) = true := by kernel_rfl
theorem saidG : looksOpen PySem.Challenge.pw_pf0013_01 = true := by
  unfold looksOpen
  exact look_both (look_both (look_both (look_both (look_both saidA saidB) saidC) saidD) saidE) saidF
theorem saidH : OpenRow.partSaid PySem.Challenge.rw_pf0013_01.row = true := by
  unfold OpenRow.partSaid
  iterate 13 (refine look_both ?_ (by kernel_rfl))
  exact saidG
theorem saidI : OpenRow.wellSaid PySem.Challenge.rw_pf0013_01.row = true := by
  unfold OpenRow.wellSaid
  exact look_both (look_both saidH (by kernel_rfl)) (by kernel_rfl)
theorem said0 : OpenLaw.wellSaid PySem.Challenge.rw_pf0013_01 = true := by
  unfold OpenLaw.wellSaid
  iterate 18 (refine look_both ?_ (by kernel_rfl))
  exact saidI
noncomputable abbrev pw : Program := PySem.Challenge.pw_pf0013_01
noncomputable abbrev sv (s : String) (n : Nat) : Value := .str (Str.ofString s) n
noncomputable abbrev de (P : Params) (x : String) (n : Nat) (v : Value) : DictEntry := { hash := PyData.keyHash P (Str.ofString x), key := .str (Str.ofString x) n, val := v }
noncomputable def initOf (i : Nat) : Arguments × List Stmt × Scope := match pw.main.body[i]? with
  | some (.ClassDef _ _ _ (.FunctionDef _ a b _ _ _ sc _ _ _ :: _) _ _ _ _ _ _ _) => (a, b, sc)
  | _ => (⟨[], [], none, [], [], none, []⟩, [], pw.main.scope)
noncomputable abbrev fnE : Arguments × List Stmt × Scope := initOf 2
noncomputable abbrev fnL : Arguments × List Stmt × Scope := initOf 45
noncomputable def k2 (P : Params) : Obj := { cls := Value.none, data := Data.dict #[de P "type.__subclasses__.Exception.0" 221 (Value.int 34 0), de P "type.__subclasses__.Exception.n" 222 (Value.int 1 0)] 2 }
noncomputable def k3 (P : Params) : Obj := { cls := Value.type "dict", data := Data.dict #[de P "__name__" 165 (sv "law_pf0013_01" 756), de P "__doc__" 166 (Value.none), de P "__package__" 167 (Value.none), de P "__loader__" 168 (Value.builtin "__main__.__loader__#opaque"), de P "__spec__" 169 (Value.none), de P "__annotations__" 170 (Value.ref 6), de P "__builtins__" 171 (Value.ref 4), de P "__file__" 173 (sv "/claim/cut.py" 172), de P "__cached__" 174 (Value.none), de P "MOST_EXPONENT" 190 (Value.int 99 189), de P "BasicError" 224 (Value.ref 34), de P "figures_of" 233 (Value.ref 44), de P "MOST_SIGNS" 237 (Value.int 255 236), de P "MOST_FIGURES_tokens" 239 (Value.int 40 238), de P "SIGNS" 241 (sv "+-*/\\^(),;:#&@" 240), de P "ORDERS" 243 (sv "<=>" 242), de P "PAIRS" 262 (Value.ref 45), de P "WORDS" 264 (sv "LET PRINT USING INPUT LINE IF THEN ELSE GOTO GOSUB ON RETURN FOR TO STEP NEXT WHILE WEND DEF FNEND READ DATA RESTORE DIM ERASE OPTION BASE SWAP ERROR RESUME STOP END REM RANDOMIZE DEFINT DEFSNG DEFSTR MAT ZER CON IDN INV TRN OPEN OUTPUT APPEND RANDOM AS CLOSE FIELD LSET RSET GET PUT WRITE CHAIN COMMON TRON TROFF AND OR XOR EQV IMP NOT MOD" 263), de P "FUNCTION_WORDS" 266 (sv "ABS ASC CHR$ CINT CSNG CVI CVS EDIT$ EOF ERL ERR FIX FRE HEX$ INSTR INT LCASE$ LEFT$ LEN LOC LOF LPOS LTRIM$ MAX MID$ MIN MKI$ MKS$ OCT$ PI POS RIGHT$ RND RTRIM$ SEG$ SGN SPACE$ SPC SQR STR$ STRING$ SWAP% TAB UCASE$ VAL XLATE$" 265), de P "functions" 272 (Value.ref 52), de P "is_word" 279 (Value.ref 59), de P "is_letter" 286 (Value.ref 66), de P "is_figure" 293 (Value.ref 73), de P "capital" 299 (Value.ref 78), de P "figures_end" 307 (Value.ref 85), de P "skipped" 315 (Value.ref 92), de P "power_end" 325 (Value.ref 99), de P "number_at" 337 (Value.ref 106), de P "name_end" 345 (Value.ref 113), de P "text_at" 354 (Value.ref 120), de P "order_at" 364 (Value.ref 127), de P "data_end" 373 (Value.ref 134), de P "remark_of" 380 (Value.ref 141), de P "word_at" 391 (Value.ref 148), de P "tokens_at" 402 (Value.ref 155), de P "tokens_of" 412 (Value.ref 162), de P "STRENGTH" 469 (Value.ref 163), de P "NOT_STRENGTH" 471 (Value.int 6 470), de P "MINUS_STRENGTH" 473 (Value.int 12 472), de P "MOST_OPEN" 475 (Value.int 60 474), de P "NO_ARGS" 482 (Value.ref 165), de P "NO_TOKEN" 485 (Value.ref 166), de P "MOST_FIGURES_exprread" 487 (Value.int 60 486), de P "MOST_POWER" 489 (Value.int 999 488), de P "token_at" 497 (Value.ref 173), de P "is_sign" 506 (Value.ref 180), de P "expect" 515 (Value.ref 187), de P "figures_at" 525 (Value.ref 194), de P "power_at" 537 (Value.ref 201), de P "told_exactly" 546 (Value.ref 208), de P "number_tree" 559 (Value.ref 215), de P "Level" 593 (Value.ref 232), de P "join_up" 603 (Value.ref 243), de P "finished" 611 (Value.ref 250), de P "opened" 620 (Value.ref 257), de P "plain_operand" 630 (Value.ref 264), de P "take_operand" 643 (Value.ref 271), de P "take_operator" 655 (Value.ref 278), de P "expression" 667 (Value.ref 285), de P "is_end" 679 (Value.ref 292), de P "plain_name" 689 (Value.ref 299), de P "plain_names" 699 (Value.ref 306), de P "numbered_channel" 709 (Value.ref 313), de P "read_close" 719 (Value.ref 320), de P "read_common" 729 (Value.ref 327), de P "read_erase" 740 (Value.ref 334), de P "letter_at" 749 (Value.ref 341), de P "read_kinds" 755 (Value.ref 346), de P "_law_next" 766 (Value.ref 353), de P "_law_pieces" 775 (Value.ref 360), de P "_law_list" 791 (Value.ref 367), de P "_law_heard" 800 (Value.ref 374), de P "law" 815 (Value.ref 381)] 73 }
noncomputable def k18 (P : Params) : Obj := { cls := Value.type "cell", data := Data.cell (some (Value.ref 34)) }
noncomputable def k23 (P : Params) : Obj := { cls := Value.type "tuple", data := Data.seq #[sv "" 203] }
noncomputable def k30 (P : Params) : Obj := { cls := Value.type "code", data := Data.fields #[sv "__init__" 204, sv "BasicError.__init__" 205, sv "/claim/cut.py" 206, Value.int 5 0, Value.int 3 0, Value.int 0 0, Value.int 0 0, Value.int 3 0, Value.ref 25, Value.bool true, Value.int 181 0, Value.ref 26, Value.none, Value.ref 27, Value.ref 28, Value.ref 29, Value.int 211 0, Value.int 5 0, sv "/claim/cut.py" 212] }
noncomputable def k31 (P : Params) : Obj := { cls := Value.type "function", data := Data.func { name := Str.ofString "__init__", qualname := Str.ofString "BasicError.__init__", params := fnE.1, body := FuncBody.stmts fnE.2.1, scope := fnE.2.2, globals := 3, closure := [(Str.ofString "__class__", 18)], defaults := Value.ref 23, kwdefaults := Value.none, pyModule := sv "basicplus.values" 187, code := Value.ref 30, closureTuple := Value.ref 24 } }
noncomputable def k33 (P : Params) : Obj := { cls := Value.type "dict", data := Data.dict #[de P "__module__" 198 (sv "basicplus.values" 187), de P "__firstlineno__" 202 (Value.int 3 201), de P "__init__" 213 (Value.ref 31), de P "__static_attributes__" 216 (Value.ref 32), de P "__weakref__" 219 (Value.ref 35), de P "__doc__" 220 (Value.none)] 4 }
noncomputable def k34 (P : Params) : Obj := { cls := Value.type "type", data := Data.cls { name := Str.ofString "BasicError", bases := [Value.type "Exception"], mro := [Value.ref 34, Value.type "Exception", Value.type "BaseException", Value.type "object"], ns := 33, qualname := Str.ofString "BasicError" }, slots := #[some (Value.ref 15), none, some (sv "BasicError" 191), some (sv "BasicError" 199), some (Value.builtin "Exception.__new__"), some (Value.bool true)] }
noncomputable def k163 (P : Params) : Obj := { cls := Value.type "dict", data := Data.dict #[de P "IMP" 415 (Value.int 1 416), de P "EQV" 418 (Value.int 2 419), de P "XOR" 421 (Value.int 3 422), de P "OR" 424 (Value.int 4 425), de P "AND" 427 (Value.int 5 428), de P "=" 430 (Value.int 7 431), de P "<>" 433 (Value.int 7 434), de P "<" 436 (Value.int 7 437), de P ">" 439 (Value.int 7 440), de P "<=" 442 (Value.int 7 443), de P ">=" 445 (Value.int 7 446), de P "+" 448 (Value.int 8 449), de P "-" 451 (Value.int 8 452), de P "MOD" 454 (Value.int 9 455), de P "\\" 457 (Value.int 10 458), de P "*" 460 (Value.int 11 461), de P "/" 463 (Value.int 11 464), de P "^" 466 (Value.int 13 467)] 18 }
noncomputable def k165 (P : Params) : Obj := { cls := Value.type "tuple", data := Data.seq #[sv "ERL" 476, sv "ERR" 477, sv "FRE" 478, sv "PI" 479, sv "POS" 480, sv "RND" 481] }
noncomputable def k166 (P : Params) : Obj := { cls := Value.type "tuple", data := Data.seq #[sv "end" 483, sv "" 484] }
noncomputable def k228 (P : Params) : Obj := { cls := Value.type "code", data := Data.fields #[sv "__init__" 572, sv "Level.__init__" 573, sv "/claim/cut.py" 574, Value.int 176 0, Value.int 3 0, Value.int 0 0, Value.int 0 0, Value.int 3 0, Value.ref 223, Value.bool true, Value.int 181 0, Value.ref 224, Value.none, Value.ref 225, Value.ref 226, Value.ref 227, Value.int 578 0, Value.int 176 0, sv "/claim/cut.py" 579] }
noncomputable def k229 (P : Params) : Obj := { cls := Value.type "function", data := Data.func { name := Str.ofString "__init__", qualname := Str.ofString "Level.__init__", params := fnL.1, body := FuncBody.stmts fnL.2.1, scope := fnL.2.2, globals := 3, closure := [], defaults := Value.none, kwdefaults := Value.none, pyModule := sv "basicplus.exprread" 413, code := Value.ref 228 } }
noncomputable def k231 (P : Params) : Obj := { cls := Value.type "dict", data := Data.dict #[de P "__module__" 567 (sv "basicplus.exprread" 413), de P "__firstlineno__" 571 (Value.int 174 570), de P "__init__" 580 (Value.ref 229), de P "__static_attributes__" 586 (Value.ref 230), de P "__dict__" 588 (Value.ref 233), de P "__weakref__" 590 (Value.ref 234), de P "__doc__" 591 (Value.none)] 4 }
noncomputable def k232 (P : Params) : Obj := { cls := Value.type "type", data := Data.cls { name := Str.ofString "Level", bases := [Value.type "object"], mro := [Value.ref 232, Value.type "object"], ns := 231, qualname := Str.ofString "Level" }, slots := #[none, none, some (sv "Level" 560), some (sv "Level" 568), some (Value.builtin "object.__new__"), some (Value.bool true)] }
noncomputable def K (P : Params) : Frag := [(2, k2 P), (3, k3 P), (18, k18 P), (23, k23 P), (30, k30 P), (31, k31 P), (33, k33 P), (34, k34 P), (163, k163 P), (165, k165 P), (166, k166 P), (228, k228 P), (229, k229 P), (231, k231 P), (232, k232 P)]
noncomputable def vw : Program := view pw [1, 2, 3, 5, 6, 7, 8, 9, 10, 11, 12, 13, 14, 15, 16, 17, 18, 19, 20, 21, 22, 23, 24, 25, 26, 27, 28, 30, 31, 32, 33, 34, 35, 36, 37, 38, 39, 40, 41, 42, 43, 44, 45, 46, 47, 48, 49, 50, 51, 52, 54, 55, 56, 58, 59, 60, 62, 63, 64, 66, 67, 68, 69, 70]
noncomputable def loose0 : List Str := [Str.ofString "BasicError", Str.ofString "PAIRS", Str.ofString "STRENGTH"]
noncomputable def hk : Hook := kHook K [2, 3, 18, 23, 30, 31, 33, 34, 163, 165, 166, 228, 229, 231, 232] (fun _ => by kernel_rfl)

theorem leftOf {p q : Program} {loose : List Str} {Xt : Shared → Bool} {α : Type} {Yf : Shared → α} {Ya : World → α} {N : Nat} {H₀ : Params → Heap} {gs₀ : Array GenState} {d₀ : Drawn} {k₀ m₀ : Nat} {ann : Option Value}
    (open_ : ∀ w : World, (fencedOpening treeTable p w N).map (fun s => (s.heap, s.gens, s.drawn, s.toks)) = some (H₀ w.params, gs₀, d₀, k₀))
    (size : ∀ w : World, ((H₀ w.params).isNs mainGlobals && gs₀.size == 0, (H₀ w.params).objs.size, (H₀ w.params).nsMap mainGlobals "__annotations__") = (true, m₀, ann))
    (h : ∀ w : World, (fun os => (topRun treeTable p w m₀ ann N ⟨H₀ w.params, gs₀, d₀, k₀, os⟩ (topStub p)).map (fun s =>
        ((staticsOk (importedModules p.main.body) (H₀ w.params) s.heap && namesBound p s.heap && gensDone s && laidKept (H₀ w.params) s.heap), openSeen q loose (importedModules p.main.body) Xt true s, Yf s))) =
      fun _ => some (true, openGood q loose, Ya w)) : LeftO p q loose Xt Yf Ya N := fun w => by
  obtain ⟨⟨h0, gs, d, k, os⟩, e, e'⟩ := Option.map_eq_some_iff.mp (open_ w)
  obtain ⟨rfl, rfl, rfl, rfl⟩ : h0 = H₀ w.params ∧ gs = gs₀ ∧ d = d₀ ∧ k = k₀ := by simpa using e'
  obtain ⟨z1, z2, z3⟩ : _ ∧ _ ∧ _ := by simpa only [Prod.mk.injEq] using size w
  obtain ⟨s1, r, l⟩ := Option.map_eq_some_iff.mp (congrFun (h w) os)
  obtain ⟨l1, l2, l3⟩ : _ ∧ _ ∧ _ := by simpa only [Prod.mk.injEq] using l
  have t : topFrom treeTable p w N ⟨H₀ w.params, gs, d, k, os⟩ = some s1 := by
    unfold topFrom
    dsimp only
    rw [z1, z2, z3, r]
    show (match staticsOk (importedModules p.main.body) (H₀ w.params) s1.heap && namesBound p s1.heap && gensDone s1 && laidKept (H₀ w.params) s1.heap with | true => _ | false => _) = _
    rw [l1]
  unfold openEnds
  rw [e]
  show (topFrom treeTable p w N _).map _ = _
  rw [t]
  exact congrArg some (Prod.ext l2 l3)

theorem opened0 : ∀ w : World, (fencedOpening treeTable pw w 5154).map (fun s => (s.heap, s.gens, s.drawn, s.toks)) = some (boot_heap w.params, Array.mk [], boot_drawn, boot_toks) :=
  boot_open (by kernel_rfl) (by decide) (fun s => by kernel_rfl)
theorem size0 : ∀ w : World, ((boot_heap w.params).isNs mainGlobals && (Array.mk ([] : List GenState)).size == 0, (boot_heap w.params).objs.size, (boot_heap w.params).nsMap mainGlobals "__annotations__") = (true, 11, some (.ref 6)) := fun w => by kernel_rfl
noncomputable def Runs (w : World) : Prop := (fun os => (@PySem.W.Fast.tw14082659384304107361 (@PySem.W.Fast.tw14364793385576792824) pw w 11 (some (.ref 6)) 5154 ⟨boot_heap w.params, Array.mk [], boot_drawn, boot_toks, os⟩ (topStub pw)).map (fun s =>
        ((staticsOk (@PySem.W.Fast.tw5923862056798008813 pw.main.body) (boot_heap w.params) s.heap && namesBound pw s.heap && gensDone s && laidKept (boot_heap w.params) s.heap),
          @PySem.W.Fast.tw4187177175401517315 vw loose0 (@PySem.W.Fast.tw5923862056798008813 pw.main.body) (fun s => xlAt vw [] s && recOk (RowW.records (OpenRow.toRowW PySem.Challenge.rw_pf0013_01.row)) s) true s, hk.obs s))) =
      fun _ => some (true, openGood vw loose0, hk.val w)
noncomputable def runW (w : World) (os : OsState) : Option Shared := (@PySem.W.Fast.tw14082659384304107361 (@PySem.W.Fast.tw14364793385576792824) pw w 11 (some (.ref 6)) 5154 ⟨boot_heap w.params, Array.mk [], boot_drawn, boot_toks, os⟩ (topStub pw))
noncomputable def lookA (w : World) (s : Shared) : Bool := (staticsOk (@PySem.W.Fast.tw5923862056798008813 pw.main.body) (boot_heap w.params) s.heap && namesBound pw s.heap && gensDone s && laidKept (boot_heap w.params) s.heap)
noncomputable def lookB (s : Shared) := @PySem.W.Fast.tw4187177175401517315 vw loose0 (@PySem.W.Fast.tw5923862056798008813 pw.main.body) (fun s => xlAt vw [] s && recOk (RowW.records (OpenRow.toRowW PySem.Challenge.rw_pf0013_01.row)) s) true s
noncomputable def Runs1 (w : World) : Prop := (fun os => (runW w os).map fun s => ((lookB s).1, lookA w s, hk.obs s, (lookB s).2.1)) = fun _ => some (expectedOf vw, true, hk.val w, bltViewBooted)
noncomputable def Runs2 (w : World) : Prop := (fun os => (runW w os).map fun s => ((lookB s).2.2.1, (lookB s).2.2.2.2.2.2.1, (lookB s).2.2.2.2.2.2.2.2)) = fun _ => some (true, plainGoodD vw loose0, clsGoodW vw loose0)
noncomputable def Runs3 (w : World) : Prop := (fun os => (runW w os).map fun s => (lookB s).2.2.2.1) = fun _ => some true
noncomputable def Runs4 (w : World) : Prop := (fun os => (runW w os).map fun s => (lookB s).2.2.2.2.2.1) = fun _ => some (plainGoodE vw (looseW vw loose0))
noncomputable def Runs5 (w : World) : Prop := (fun os => (runW w os).map fun s => ((lookB s).2.2.2.2.2.2.2.1, (lookB s).2.2.2.2.1)) = fun _ => some (wideGood vw, pinGoodD (drecsOf vw))
theorem runs1F (w : World) : Runs1 (w.withFollow "special-get-raises" false) := by
  unfold Runs1 runW lookA lookB
  kernel_rfl
theorem runs2F (w : World) : Runs2 (w.withFollow "special-get-raises" false) := by
  unfold Runs2 runW lookB
  kernel_rfl
theorem runs3F (w : World) : Runs3 (w.withFollow "special-get-raises" false) := by
  unfold Runs3 runW lookB
  kernel_rfl
theorem runs4F (w : World) : Runs4 (w.withFollow "special-get-raises" false) := by
  unfold Runs4 runW lookB
  kernel_rfl
theorem runs5F (w : World) : Runs5 (w.withFollow "special-get-raises" false) := by
  unfold Runs5 runW lookB
  kernel_rfl
theorem runs1T (w : World) : Runs1 (w.withFollow "special-get-raises" true) := by
  unfold Runs1 runW lookA lookB
  kernel_rfl
theorem runs2T (w : World) : Runs2 (w.withFollow "special-get-raises" true) := by
  unfold Runs2 runW lookB
  kernel_rfl
theorem runs3T (w : World) : Runs3 (w.withFollow "special-get-raises" true) := by
  unfold Runs3 runW lookB
  kernel_rfl
theorem runs4T (w : World) : Runs4 (w.withFollow "special-get-raises" true) := by
  unfold Runs4 runW lookB
  kernel_rfl
theorem runs5T (w : World) : Runs5 (w.withFollow "special-get-raises" true) := by
  unfold Runs5 runW lookB
  kernel_rfl
theorem runsOf (w : World) (h1 : Runs1 w) (h2 : Runs2 w) (h3 : Runs3 w) (h4 : Runs4 w) (h5 : Runs5 w) : Runs w := by
  funext os
  obtain ⟨s, e, e1⟩ := Option.map_eq_some_iff.mp (congrFun h1 os)
  have e2 := congrFun h2 os
  have e3 := congrFun h3 os
  have e4 := congrFun h4 os
  have e5 := congrFun h5 os
  rw [e] at e2 e3 e4 e5
  replace e2 := Option.some.inj e2
  replace e3 := Option.some.inj e3
  replace e4 := Option.some.inj e4
  replace e5 := Option.some.inj e5
  simp only [Prod.mk.injEq] at e1
  simp only [Prod.mk.injEq] at e2
  simp only [Prod.mk.injEq] at e5
  show (runW w os).map _ = _
  rw [e]
  show some (lookA w s, lookB s, hk.obs s) = _
  rw [e1.2.1, e1.2.2.1, show lookB s = openGood vw loose0 from Prod.ext e1.1 (Prod.ext e1.2.2.2 (Prod.ext e2.1 (Prod.ext e3 (Prod.ext e5.2 (Prod.ext e4 (Prod.ext e2.2.1 (Prod.ext e5.1 e2.2.2)))))))]
theorem runsF (w : World) : Runs (w.withFollow "special-get-raises" false) := runsOf _ (runs1F w) (runs2F w) (runs3F w) (runs4F w) (runs5F w)
theorem runsT (w : World) : Runs (w.withFollow "special-get-raises" true) := runsOf _ (runs1T w) (runs2T w) (runs3T w) (runs4T w) (runs5T w)
theorem runs0 : ∀ w : World, (fun os => (topRun treeTable pw w 11 (some (.ref 6)) 5154 ⟨boot_heap w.params, Array.mk [], boot_drawn, boot_toks, os⟩ (topStub pw)).map (fun s =>
        ((staticsOk (importedModules pw.main.body) (boot_heap w.params) s.heap && namesBound pw s.heap && gensDone s && laidKept (boot_heap w.params) s.heap),
          openSeen vw loose0 (importedModules pw.main.body) (fun s => xlAt vw [] s && recOk (RowW.records (OpenRow.toRowW PySem.Challenge.rw_pf0013_01.row)) s) true s, hk.obs s))) =
      fun _ => some (true, openGood vw loose0, hk.val w) := by
  rw [@PySem.W.Fast.te14082659384304107361, @PySem.W.Fast.te14364793385576792824, @PySem.W.Fast.te4187177175401517315, @PySem.W.Fast.te5923862056798008813]
  exact byRow2 "special-get-raises" runsF runsT
theorem left0 : LeftO pw vw loose0 (fun s => xlAt vw [] s && recOk (RowW.records (OpenRow.toRowW PySem.Challenge.rw_pf0013_01.row)) s) hk.obs hk.val 5154 := leftOf opened0 size0 runs0
end Mine

end

section
open PySem PySem.W PyProof.Rows
namespace Mine

/-- values of the small interpreter -/
inductive V where
  | none
  | bool (b : Bool)
  | int (i : Int)
  | str (s : List Nat)
  | tup (l : List V)
  | lst (l : List V)
  | ref (i : Nat)
  | lvl (kind word a o p : V)
  | tab (l : List (List Nat × Int))
  deriving Inhabited

/-- a thing that may turn: a list, or the law's jug -/
inductive Cell where
  | list (l : List V)
  | jug (cells : V) (count : Int)
  deriving Inhabited
noncomputable abbrev Mem := List Cell

/-- where the things that may turn lie, and the frames -/
structure Lay where
  mu : List Addr
  fr : List Addr
  no : List Addr

noncomputable def DictAt (h : Heap) (d : Addr) (es : List DictEntry) : Prop := ∃ n, h.get? d = some (dictOf es n)

/-- the class Level, and the world's hashes -/
structure Dd where
  lvl : Addr
  pr : Params
  prog : Program
  w : World

/-- a written dict of texts and ints -/
inductive TabAre : List DictEntry → List (List Nat × Int) → Prop
  | nil : TabAre [] []
  | cons {hs : Int} {s : List Nat} {t u : Tok} {i : Int} {es : List DictEntry} {l : List (List Nat × Int)} : TabAre es l → TabAre (⟨hs, .str ⟨s.toArray⟩ t, .int i u⟩ :: es) ((s, i) :: l)

mutual
inductive Rp (D : Dd) (h : Heap) (Y : Lay) : V → Value → Prop
  | none : Rp D h Y .none .none
  | bool (b : Bool) : Rp D h Y (.bool b) (.bool b)
  | int (i : Int) (t : Tok) : Rp D h Y (.int i) (.int i t)
  | str (s : List Nat) (t : Tok) : Rp D h Y (.str s) (.str ⟨s.toArray⟩ t)
  | tup {a : Addr} {vs : List Value} {ds : List V} (ha : h.IsTuple a vs.toArray) (hr : Rps D h Y ds vs) : Rp D h Y (.tup ds) (.ref a)
  | lst {a : Addr} {vs : List Value} {ds : List V} (ha : h.IsList a vs.toArray) (hn : a ∉ Y.mu ∧ a ∉ Y.no) (hr : Rps D h Y ds vs) : Rp D h Y (.lst ds) (.ref a)
  | ref {i : Nat} {a : Addr} (hi : Y.mu[i]? = some a) : Rp D h Y (.ref i) (.ref a)
  | tab {d : Addr} {es : List DictEntry} {l : List (List Nat × Int)} (hd : DictAt h d es) (hn : d ∉ Y.mu) (hf : d ∉ Y.fr) (ht : TabAre es l) (hk : KeysLit D.pr es) (hs : (d == sysModules) = false) : Rp D h Y (.tab l) (.ref d)
  | lvl {x d : Addr} {es : List DictEntry} {sl : Array (Option Value)} {k w a o p : V} {vk vw va vo vp : Value}
      (hx : h.get? x = some (⟨.ref D.lvl, some d, .plain, sl⟩ : Obj)) (hd : DictAt h d es) (hn : d ∉ Y.mu) (hf : d ∉ Y.fr) (hz : es.length = 5)
      (ek : getL (Str.ofString "kind") es = some (some vk)) (ew : getL (Str.ofString "word") es = some (some vw))
      (ea : getL (Str.ofString "args") es = some (some va)) (eo : getL (Str.ofString "operands") es = some (some vo)) (ep : getL (Str.ofString "operators") es = some (some vp))
      (hr : Rps D h Y [k, w, a, o, p] [vk, vw, va, vo, vp]) : Rp D h Y (.lvl k w a o p) (.ref x)
inductive Rps (D : Dd) (h : Heap) (Y : Lay) : List V → List Value → Prop
  | nil : Rps D h Y [] []
  | cons {d : V} {ds : List V} {v : Value} {vs : List Value} (hd : Rp D h Y d v) (hr : Rps D h Y ds vs) : Rps D h Y (d :: ds) (v :: vs)
end

/-- what stands goes on standing -/
structure Moves (D : Dd) (h : Heap) (Y : Lay) (h' : Heap) (Y' : Lay) : Prop where
  seq : ∀ b o, h.get? b = some o → b ∉ Y.mu → (∃ xs n, o.data = .seq xs n) → h'.get? b = some o ∧ b ∉ Y'.mu
  own : ∀ b o, h.get? b = some o → (∀ vs, o.data ≠ .fields vs) → b ∉ Y.mu → b ∉ Y.fr → h'.get? b = some o ∧ b ∉ Y'.mu ∧ b ∉ Y'.fr
  lst : ∀ b o, h.get? b = some o → b ∈ Y.mu → o.cls ≠ .type "tuple" ∧ o.cls ≠ .ref D.lvl
  frs : ∀ b o, h.get? b = some o → b ∈ Y.fr → ∃ es n, o.data = .dict es n
  pre : ∀ (i : Nat) (a : Addr), Y.mu[i]? = some a → Y'.mu[i]? = some a
  no : Y'.no = Y.no

theorem Rps.mono {D : Dd} {h h' : Heap} {Y Y' : Lay} (S : Moves D h Y h' Y') {ds : List V} {vs : List Value} (x : Rps D h Y ds vs) : Rps D h' Y' ds vs := by
  refine Rps.rec (motive_1 := fun v u _ => Rp D h' Y' v u) (motive_2 := fun vs us _ => Rps D h' Y' vs us) .none .bool .int .str ?_ ?_ (fun hi => .ref (S.pre _ _ hi)) ?_ ?_ .nil (fun _ _ => .cons) x
  · intro a vs ds ha _ ih
    obtain ⟨o, ho, hc, n, hd⟩ := ha
    exact .tup ⟨o, (S.seq _ _ ho (fun hm => (S.lst _ _ ho hm).1 hc) ⟨_, n, hd⟩).1, hc, n, hd⟩ ih
  · intro a vs ds ha hn _ ih
    obtain ⟨o, ho, hc, n, hd⟩ := ha
    exact .lst ⟨o, (S.seq _ _ ho hn.1 ⟨_, _, hd⟩).1, hc, n, hd⟩ ⟨(S.seq _ _ ho hn.1 ⟨_, _, hd⟩).2, by rw [S.no]; exact hn.2⟩ ih
  · intro d es l hd hn hf ht hk hs
    obtain ⟨n, hd⟩ := hd
    exact .tab ⟨n, (S.own _ _ hd nofun hn hf).1⟩ (S.own _ _ hd nofun hn hf).2.1 (S.own _ _ hd nofun hn hf).2.2 ht hk hs
  · intro x d es sl k w a o p vk vw va vo vp hx hd hn hf hz ek ew ea eo ep _ ih
    obtain ⟨n, hd⟩ := hd
    exact .lvl (S.own _ _ hx nofun (fun hm => (S.lst _ _ hx hm).2 rfl) (fun hm => by obtain ⟨_, _, q⟩ := S.frs _ _ hx hm; cases q)).1 ⟨n, (S.own _ _ hd nofun hn hf).1⟩ (S.own _ _ hd nofun hn hf).2.1 (S.own _ _ hd nofun hn hf).2.2 hz ek ew ea eo ep ih
theorem Rp.mono {D : Dd} {h h' : Heap} {Y Y' : Lay} (S : Moves D h Y h' Y') {d : V} {v : Value} (x : Rp D h Y d v) : Rp D h' Y' d v := by
  have y := Rps.mono S (.cons x .nil)
  cases y with
  | cons r _ => exact r

theorem Rps.length {D : Dd} {h : Heap} {Y : Lay} : ∀ {ds : List V} {vs : List Value}, Rps D h Y ds vs → vs.length = ds.length
  | _, _, .nil => rfl
  | _, _, .cons _ hr => by rw [List.length_cons, List.length_cons, hr.length]
theorem Rps.get {D : Dd} {h : Heap} {Y : Lay} : ∀ {ds : List V} {vs : List Value}, Rps D h Y ds vs → ∀ {i : Nat} {d : V}, ds[i]? = some d → ∃ v, vs[i]? = some v ∧ Rp D h Y d v
  | _, _, .nil, i, d, e => by simp at e
  | _, _, .cons hd hr, 0, d, e => by simp at e; exact ⟨_, rfl, e ▸ hd⟩
  | _, _, .cons hd hr, i + 1, d, e => by simpa using hr.get (by simpa using e)
theorem Rps.append {D : Dd} {h : Heap} {Y : Lay} {ds' : List V} {vs' : List Value} (x : Rps D h Y ds' vs') : ∀ {ds : List V} {vs : List Value}, Rps D h Y ds vs → Rps D h Y (ds ++ ds') (vs ++ vs')
  | _, _, .nil => x
  | _, _, .cons hd hr => .cons hd (Rps.append x hr)
theorem Rps.append' {D : Dd} {h : Heap} {Y : Lay} {ds : List V} {vs : List Value} {d : V} {v : Value} (x : Rps D h Y ds vs) (y : Rp D h Y d v) : Rps D h Y (ds ++ [d]) (vs ++ [v]) := Rps.append (.cons y .nil) x
theorem Rps.take {D : Dd} {h : Heap} {Y : Lay} : ∀ {ds : List V} {vs : List Value}, Rps D h Y ds vs → ∀ (k : Nat), Rps D h Y (ds.take k) (vs.take k)
  | _, _, .nil, k => by simp; exact .nil
  | _, _, .cons hd hr, 0 => .nil
  | _, _, .cons hd hr, k + 1 => .cons hd (hr.take k)
theorem Rps.dropLast {D : Dd} {h : Heap} {Y : Lay} {ds : List V} {vs : List Value} (x : Rps D h Y ds vs) : Rps D h Y ds.dropLast vs.dropLast := by
  rw [List.dropLast_eq_take, List.dropLast_eq_take, x.length]; exact x.take _

theorem Rp.isInt {D : Dd} {h : Heap} {Y : Lay} {i : Int} {u : Value} (x : Rp D h Y (.int i) u) : ∃ t, u = .int i t := by cases x; exact ⟨_, rfl⟩
theorem Rp.isStr {D : Dd} {h : Heap} {Y : Lay} {i : List Nat} {u : Value} (x : Rp D h Y (.str i) u) : ∃ t, u = .str ⟨i.toArray⟩ t := by cases x; exact ⟨_, rfl⟩
theorem Rp.isTup {D : Dd} {h : Heap} {Y : Lay} {l : List V} {u : Value} (x : Rp D h Y (.tup l) u) : ∃ a vs, u = .ref a ∧ h.IsTuple a vs.toArray ∧ Rps D h Y l vs := by cases x with | tup ha hr => exact ⟨_, _, rfl, ha, hr⟩
theorem Rp.isLst {D : Dd} {h : Heap} {Y : Lay} {l : List V} {u : Value} (x : Rp D h Y (.lst l) u) : ∃ a vs, u = .ref a ∧ h.IsList a vs.toArray ∧ Rps D h Y l vs := by cases x with | lst ha hn hr => exact ⟨_, _, rfl, ha, hr⟩
theorem Rp.isRef {D : Dd} {h : Heap} {Y : Lay} {i : Nat} {u : Value} (x : Rp D h Y (.ref i) u) : ∃ a, u = .ref a ∧ Y.mu[i]? = some a := by cases x with | ref hi => exact ⟨_, rfl, hi⟩
theorem Rp.isTab {D : Dd} {h : Heap} {Y : Lay} {l : List (List Nat × Int)} {u : Value} (x : Rp D h Y (.tab l) u) : ∃ d es, u = .ref d ∧ DictAt h d es ∧ TabAre es l ∧ KeysLit D.pr es ∧ (d == sysModules) = false := by cases x with | tab hd hn hf ht hk hs => exact ⟨_, _, rfl, hd, ht, hk, hs⟩
theorem Rp.isNon {D : Dd} {h : Heap} {Y : Lay} {v : V} {u : Value} (x : Rp D h Y v u) : (v = .none ∧ u = .none) ∨ (v ≠ .none ∧ u ≠ .none) := by
  cases x <;> first | exact .inl ⟨rfl, rfl⟩ | exact .inr ⟨nofun, nofun⟩
theorem Rps.one {D : Dd} {h : Heap} {Y : Lay} {v : V} {us : List Value} (x : Rps D h Y [v] us) : ∃ u, us = [u] ∧ Rp D h Y v u := by
  cases x with | cons h1 h2 => cases h2; exact ⟨_, rfl, h1⟩
end Mine

end

section
open PySem PySem.W PyProof.Rows
namespace Mine

noncomputable abbrev Loc := List (Option V)

/-- what the whole proof leans on: the program's run of the top, and two classes of it -/
structure Gx where
  prog : Program
  w : World
  base : Heap
  K : Frag
  p : Program
  loose : List Str
  mean : ExcName → Option Value
  mg : Str → Option Value
  mb : Str → Option Value
  lvl : Dd
  exc : Addr
  lvlInit : Addr
  excInit : Addr

/-- one running def -/
structure Fx where
  nm : Str
  sc : Scope
  L : Addr
  fa : Addr
  cd : Value
  outer : List Env
  ns : List Str

noncomputable def Fx.env (X : Fx) : Env := envOf X.nm X.sc X.L X.fa X.cd

noncomputable def sCells : Str := ⟨#[99, 101, 108, 108, 115]⟩
noncomputable def sCount : Str := ⟨#[99, 111, 117, 110, 116]⟩

noncomputable def CellAt (D : Dd) (h : Heap) (Y : Lay) (a : Addr) : Cell → Prop
  | .list l => ∃ vs n, h.get? a = some (listOf vs.toArray n) ∧ Rps D h Y l vs
  | .jug c k => ∃ vc tk, h.DictOf (strKind D.prog D.w) a [(sCells, vc), (sCount, .int k tk)] ∧ Rp D h Y c vc

structure MemAt (G : Gx) (h : Heap) (Y : Lay) (σ : Mem) : Prop where
  len : Y.mu.length = σ.length
  nodup : Y.mu.Nodup
  new : ∀ a ∈ Y.mu, G.base.get? a = none
  apart : ∀ a ∈ Y.mu, a ∉ Y.fr
  cell : ∀ (i : Nat) (a : Addr) (c : Cell), Y.mu[i]? = some a → σ[i]? = some c → CellAt G.lvl h Y a c

noncomputable def FrsAt (h : Heap) (fr : List Addr) : Prop := ∀ a ∈ fr, ∃ o es n, h.get? a = some o ∧ o.data = .dict es n

noncomputable def LocAt (G : Gx) (h : Heap) (Y : Lay) (ns : List Str) (m : Str → Option Value) (ρ : Loc) : Prop :=
  ∀ (i : Nat) (v : V), ρ[i]? = some (some v) → ∃ x u, ns[i]? = some x ∧ m x = some u ∧ Rp G.lvl h Y v u

structure Dyn (G : Gx) (X : Fx) (h : Heap) (Y : Lay) (ρ : Loc) (σ : Mem) : Prop where
  stays : G.base.StaysIn h
  funs : h.FunFrames G.base (X.env :: X.outer)
  fr : Y.fr = (X.env :: X.outer).filterMap (·.frame)
  frs : FrsAt h Y.fr
  mem : MemAt G h Y σ
  no : ∀ a ∈ Y.no, G.base.get? a = none ∧ ∃ o, h.get? a = some o
  loc : ∃ m, h.Ns X.L m ∧ LocAt G h Y X.ns m ρ

structure AOk (X : Fx) (A : Around) (n : Nat) : Prop where
  handled : A.handled = none
  frames : A.frames = some (X.env :: X.outer)
  depth : A.depth + n + 20 < recursionLimit
  units : A.units + 8 * n + 200 < cLine

structure Step (L : Addr) (h : Heap) (Y : Lay) (h' : Heap) (Y' : Lay) : Prop where
  pre : ∀ (i : Nat) (a : Addr), Y.mu[i]? = some a → Y'.mu[i]? = some a
  fr : Y'.fr = Y.fr
  no : Y'.no = Y.no
  live : ∀ b o, h.get? b = some o → ∃ o', h'.get? b = some o'
  fresh : ∀ a ∈ Y'.mu, a ∉ Y.mu → h.get? a = none
  keep : ∀ b o, h.get? b = some o → b ∉ Y.mu → b ∉ Y.fr → h'.get? b = some o
  slots : ∀ b o, h.get? b = some o → b ∈ Y.fr → b ≠ L → ∃ sl, h'.get? b = some { o with slots := sl }

theorem Step.refl (L : Addr) (h : Heap) (Y : Lay) : Step L h Y h Y :=
  ⟨fun _ _ e => e, rfl, rfl, fun _ o e => ⟨o, e⟩, fun _ a n => absurd a n, fun _ _ e _ _ => e, fun _ o e _ _ => ⟨o.slots, e⟩⟩
theorem Step.trans {L : Addr} {h h' h'' : Heap} {Y Y' Y'' : Lay} (x : Step L h Y h' Y') (y : Step L h' Y' h'' Y'') : Step L h Y h'' Y'' := by
  refine ⟨fun i a e => y.pre i a (x.pre i a e), y.fr.trans x.fr, y.no.trans x.no, fun b o e => ?_, fun a hm hn => ?_, fun b o e hm hf => ?_, fun b o e hf hL => ?_⟩
  · obtain ⟨o', e'⟩ := x.live b o e; exact y.live b o' e'
  · by_cases q : a ∈ Y'.mu
    · exact x.fresh a q hn
    · have := y.fresh a hm q
      cases z : h.get? a with
      | none => rfl
      | some o => obtain ⟨o', e'⟩ := x.live a o z; rw [this] at e'; cases e'
  · refine y.keep b o (x.keep b o e hm hf) (fun q => ?_) (by rw [x.fr]; exact hf)
    have := x.fresh b q hm; rw [e] at this; cases this
  · obtain ⟨sl, e'⟩ := x.slots b o e hf hL
    obtain ⟨sl', e''⟩ := y.slots b _ e' (by rw [x.fr]; exact hf) hL
    exact ⟨sl', e''⟩

theorem frs_ne {h : Heap} {fr : List Addr} (F : FrsAt h fr) {b : Addr} {o : Obj} (e : h.get? b = some o) (hb : b ∈ fr) : ∃ es n, o.data = .dict es n := by
  obtain ⟨o', es, n, e', hd⟩ := F b hb
  rw [e] at e'; cases e'
  exact ⟨es, n, hd⟩
theorem cell_cls {G : Gx} {h : Heap} {Y : Lay} {σ : Mem} (M : MemAt G h Y σ) {b : Addr} {o : Obj} (e : h.get? b = some o) (hb : b ∈ Y.mu) : o.cls = .type "list" ∨ o.cls = .type "dict" := by
  obtain ⟨i, hi⟩ := List.getElem?_of_mem hb
  have hl : i < σ.length := by rw [← M.len]; exact (List.getElem?_eq_some_iff.mp hi).1
  have hc := M.cell i b _ hi (List.getElem?_eq_getElem hl)
  cases q : σ[i] with
  | list l => rw [q] at hc; obtain ⟨vs, n, g, _⟩ := hc; rw [e] at g; cases g; exact .inl rfl
  | jug c k => rw [q] at hc; obtain ⟨vc, tk, ⟨o', es, ep, g, hx, _⟩, _⟩ := hc; rw [e] at g; cases g; exact .inr hx.1

theorem Step.moves {G : Gx} {X : Fx} {h h' : Heap} {Y Y' : Lay} {ρ : Loc} {σ : Mem} (x : Step X.L h Y h' Y') (d : Dyn G X h Y ρ σ) : Moves G.lvl h Y h' Y' := by
  refine ⟨fun b o e hm ⟨xs, n, hd⟩ => ?_, fun b o e _ hm hf => ?_, fun b o e hm => ?_, fun b o e hf => ?_, x.pre, x.no⟩
  · have hf : b ∉ Y.fr := fun q => by
      obtain ⟨es, n, hd'⟩ := frs_ne d.frs e q
      rw [hd] at hd'; cases hd'
    exact ⟨x.keep b o e hm hf, fun q => by have := x.fresh b q hm; rw [e] at this; cases this⟩
  · exact ⟨x.keep b o e hm hf, fun q => (by have := x.fresh b q hm; rw [e] at this; cases this), by rw [x.fr]; exact hf⟩
  · rcases cell_cls d.mem e hm with q | q <;> rw [q] <;> exact ⟨(by decide), (by intro z; cases z)⟩
  · exact frs_ne d.frs e hf

/-- a traceback hangs at it -/
noncomputable def TrAt (old h : Heap) (e : Addr) (fl : Value) (vs : Array Value) : Prop :=
  ∃ T oT ts, vs[1]? = some (.ref T) ∧ T ≠ e ∧ old.get? T = none ∧ h.get? T = some oT ∧ oT.data = .fields ts ∧ ts[3]? = some fl

/-- an exception of the program's own class -/
noncomputable def ExcIs (G : Gx) (old h : Heap) (e : Addr) (c : List Nat) (P : Array Value → Prop) : Prop := old.get? e = none ∧
  ∃ vs d mA od sl, h.get? e = some (⟨.ref G.exc, some d, .fields vs, sl⟩ : Obj) ∧ old.get? d = none ∧ h.get? d = some od ∧ ((∃ es ep, od.data = .dict es ep) ∧ ∀ h' : Heap, h'.get? d = some od → h'.Ns1 d mA) ∧
    (∃ tk, mA (Str.ofString "code") = some (.str ⟨c.toArray⟩ tk)) ∧ P vs

/-- one on its way through a frame at L -/
noncomputable def ExcAt (G : Gx) (old h : Heap) (L : Addr) (e : Addr) (c : List Nat) : Prop :=
  ExcIs G old h e c fun vs => vs[1]? = some .none ∨ ∃ fl, TrAt old h e fl vs ∧ (fl = .none ∨ fl = rawInt L)

noncomputable abbrev Out (β : Type) := Option (Except (List Nat) β × Loc × Mem)
noncomputable def bindO {β γ : Type} (r : Out β) (f : β → Loc → Mem → Out γ) : Out γ := match r with
  | none => none
  | some (.error c, ρ, σ) => some (.error c, ρ, σ)
  | some (.ok b, ρ, σ) => f b ρ σ

noncomputable abbrev PT (α : Type) := Around → (α → Shared → Prop) → (Value → Shared → Prop) → Shared → Prop
noncomputable abbrev tree {α : Type} (G : Gx) (t : Sem α) : PT α := fun A Q E s => wpAny (model G.prog G.w) A t Q E s

section
variable (G : Gx) (X : Fx) (n : Nat)

/-- what is asked behind it -/
noncomputable def KK {α β : Type} (rel : Heap → Lay → β → α → Prop) (r : Except (List Nat) β) (ρ' : Loc) (σ' : Mem) (s : Shared) (Y : Lay) (Q : α → Shared → Prop) (E : Value → Shared → Prop) : Prop :=
  ∀ (h' : Heap) (tk : Nat) (Y' : Lay), Step X.L s.heap Y h' Y' → Dyn G X h' Y' ρ' σ' →
        (∀ b, r = .ok b → ∀ a, rel h' Y' b a → Q a { s with heap := h', toks := tk }) ∧
        (∀ c, r = .error c → ∀ e, ExcAt G s.heap h' X.L e c → E (.ref e) { s with heap := h', toks := tk })
noncomputable def TrW {α β : Type} (ds : List V) (vs : List Value) (W : PT α) (rel : Heap → Lay → β → α → Prop) (ρ : Loc) (σ : Mem) : Out β → Prop
  | none => True
  | some (r, ρ', σ') => ∀ (A : Around) (s : Shared) (Y : Lay) (Q : α → Shared → Prop) (E : Value → Shared → Prop), AOk X A n → Dyn G X s.heap Y ρ σ → Rps G.lvl s.heap Y ds vs →
      KK G X rel r ρ' σ' s Y Q E → W A Q E s
noncomputable abbrev Tr {α β : Type} (ds : List V) (vs : List Value) (t : Sem α) (rel : Heap → Lay → β → α → Prop) (ρ : Loc) (σ : Mem) (o : Out β) : Prop := TrW G X n ds vs (tree G t) rel ρ σ o
end

section
variable {G : Gx} {X : Fx} {n : Nat} {α β γ δ : Type} {ds : List V} {vs : List Value} {ρ : Loc} {σ : Mem}

noncomputable def RV (G : Gx) : Heap → Lay → V → Value → Prop := fun h Y v u => Rp G.lvl h Y v u
noncomputable def RVs (G : Gx) : Heap → Lay → List V → List Value → Prop := fun h Y v u => Rps G.lvl h Y v u
noncomputable def RB {β : Type} : Heap → Lay → β → β → Prop := fun _ _ a b => a = b

theorem ExcAt.older {old old' h : Heap} {L e : Addr} {c : List Nat} (x : ExcAt G old h L e c) (k : ∀ b o, old'.get? b = some o → ∃ o', old.get? b = some o') : ExcAt G old' h L e c := by
  have f : ∀ b, old.get? b = none → old'.get? b = none := fun b hb => by
    cases q : old'.get? b with
    | none => rfl
    | some o => obtain ⟨o', e'⟩ := k b o q; rw [hb] at e'; cases e'
  obtain ⟨n, vs, d, mA, od, sl, a1, a2, a3, a4, a5, a9⟩ := x
  refine ⟨f _ n, vs, d, mA, od, sl, a1, f _ a2, a3, a4, a5, ?_⟩
  rcases a9 with a9 | ⟨fl, ⟨T, oT, ts, b1, b2, b3, b4⟩, b5⟩
  · exact .inl a9
  · exact .inr ⟨fl, ⟨T, oT, ts, b1, b2, f _ b3, b4⟩, b5⟩

theorem TrW.lift {n' : Nat} {W : PT α} {rel : Heap → Lay → β → α → Prop} {o : Out β} (x : TrW G X n ds vs W rel ρ σ o) (hn : n ≤ n') : TrW G X n' ds vs W rel ρ σ o := by
  rcases o with _ | ⟨r, ρ', σ'⟩
  · trivial
  · intro A s Y Q E hA hD hR k
    exact x A s Y Q E ⟨hA.handled, hA.frames, by have := hA.depth; lia, by have := hA.units; lia⟩ hD hR k

theorem TrW.drop {ds' : List V} {vs' : List Value} {W : PT α} {rel : Heap → Lay → β → α → Prop} {o : Out β} (x : TrW G X n ds vs W rel ρ σ o) (hd : ∀ h Y, Rps G.lvl h Y ds' vs' → Rps G.lvl h Y ds vs) : TrW G X n ds' vs' W rel ρ σ o := by
  rcases o with _ | ⟨r, ρ', σ'⟩
  · trivial
  · intro A s Y Q E hA hD hR k
    exact x A s Y Q E hA hD (hd _ _ hR) k

theorem TrW.nil {W : PT α} {rel : Heap → Lay → β → α → Prop} {o : Out β} (x : TrW G X n [] [] W rel ρ σ o) : TrW G X n ds vs W rel ρ σ o := x.drop fun _ _ _ => .nil

theorem TrW.into {W : PT α} {u : Sem α} {rel : Heap → Lay → β → α → Prop} {o : Out β} (x : TrW G X n ds vs W rel ρ σ o)
    (hb : ∀ A Q E s, A.handled = none → W A Q E s → wpAny (model G.prog G.w) A u Q E s) : Tr G X n ds vs u rel ρ σ o := by
  rcases o with _ | ⟨r, ρ', σ'⟩
  · trivial
  · intro A s Y Q E hA hD hR k
    exact hb A Q E s hA.handled (x A s Y Q E hA hD hR k)
theorem TrW.turn {W W' : PT α} {rel : Heap → Lay → β → α → Prop} {o : Out β} (x : TrW G X n ds vs W rel ρ σ o)
    (hb : ∀ A Q E s, A.handled = none → W A Q E s → W' A Q E s) : TrW G X n ds vs W' rel ρ σ o := by
  rcases o with _ | ⟨r, ρ', σ'⟩
  · trivial
  · intro A s Y Q E hA hD hR k
    exact hb A Q E s hA.handled (x A s Y Q E hA hD hR k)

/-- one behind another -/
theorem TrW.bind {W : PT α} {K : α → PT γ} {rel1 : Heap → Lay → β → α → Prop} {rel2 : Heap → Lay → δ → γ → Prop} {o : Out β} {f : β → Loc → Mem → Out δ}
    {ds1 : β → List V} {vs1 : α → List Value}
    (h1 : TrW G X n ds vs W rel1 ρ σ o)
    (hr : ∀ h Y b a, rel1 h Y b a → Rps G.lvl h Y ds vs → Rps G.lvl h Y (ds1 b) (vs1 a))
    (h2 : ∀ b ρ₁ σ₁ a, (∃ h Y, rel1 h Y b a) → TrW G X n (ds1 b) (vs1 a) (K a) rel2 ρ₁ σ₁ (f b ρ₁ σ₁)) :
    TrW G X n ds vs (fun A Q E s => W A (fun a s₁ => K a A Q E s₁) E s) rel2 ρ σ (bindO o f) := by
  rcases o with _ | ⟨r | b, ρ₁, σ₁⟩
  · trivial
  · intro A s Y Q E hA hD hR kk
    refine h1 A s Y _ E hA hD hR fun h' tk Y' st D' => ⟨fun b e => (by cases e), fun c e x hx => ?_⟩
    cases e
    exact (kk h' tk Y' st D').2 _ rfl x hx
  · show TrW G X n ds vs _ rel2 ρ σ (f b ρ₁ σ₁)
    cases q : f b ρ₁ σ₁ with
    | none => trivial
    | some o2 =>
      obtain ⟨r2, ρ₂, σ₂⟩ := o2
      intro A s Y Q E hA hD hR kk
      refine h1 A s Y _ E hA hD hR fun h' tk Y' st D' => ⟨fun b' e a ha => ?_, fun c e => (by cases e)⟩
      cases e
      have hR' : Rps G.lvl h' Y' ds vs := hR.mono (st.moves hD)
      have z := h2 b ρ₁ σ₁ a ⟨_, _, ha⟩
      rw [q] at z
      refine z A { s with heap := h', toks := tk } Y' Q E hA D' (hr _ _ _ _ ha hR') fun h'' tk' Y'' st' D'' => ?_
      have w := kk h'' tk' Y'' (st.trans st') D''
      exact ⟨fun b e a ha => w.1 b e a ha, fun c e x hx => w.2 c e x (hx.older st.live)⟩
theorem TrW.bindV {W : PT Value} {K : Value → PT γ} {rel2 : Heap → Lay → δ → γ → Prop} {o : Out V} {f : V → Loc → Mem → Out δ}
    (h1 : TrW G X n ds vs W (RV G) ρ σ o)
    (h2 : ∀ b ρ₁ σ₁ a, (∃ h Y, Rp G.lvl h Y b a) → TrW G X n (b :: ds) (a :: vs) (K a) rel2 ρ₁ σ₁ (f b ρ₁ σ₁)) :
    TrW G X n ds vs (fun A Q E s => W A (fun a s₁ => K a A Q E s₁) E s) rel2 ρ σ (bindO o f) :=
  TrW.bind (ds1 := fun b => b :: ds) (vs1 := fun a => a :: vs) h1 (fun _ _ _ _ x y => .cons x y) h2
theorem TrW.bindB {W : PT β} {K : β → PT γ} {rel2 : Heap → Lay → δ → γ → Prop} {o : Out β} {f : β → Loc → Mem → Out δ}
    (h1 : TrW G X n ds vs W RB ρ σ o)
    (h2 : ∀ b ρ₁ σ₁, TrW G X n ds vs (K b) rel2 ρ₁ σ₁ (f b ρ₁ σ₁)) :
    TrW G X n ds vs (fun A Q E s => W A (fun a s₁ => K a A Q E s₁) E s) rel2 ρ σ (bindO o f) :=
  TrW.bind (ds1 := fun _ => ds) (vs1 := fun _ => vs) h1 (fun _ _ _ _ _ y => y) fun b ρ₁ σ₁ a ⟨_, _, e⟩ => by cases e; exact h2 b ρ₁ σ₁

/-- one tree behind another -/
theorem Tr.seq {t : Sem α} {u : Sem γ} {k : α → Sem γ} {rel1 : Heap → Lay → β → α → Prop} {rel2 : Heap → Lay → δ → γ → Prop} {o : Out β} {f : β → Loc → Mem → Out δ}
    {ds1 : β → List V} {vs1 : α → List Value}
    (hb : ∀ A Q E s, A.handled = none → wpAny (model G.prog G.w) A t (fun a s₁ => wpAny (model G.prog G.w) A (k a) Q E s₁) E s → wpAny (model G.prog G.w) A u Q E s)
    (h1 : Tr G X n ds vs t rel1 ρ σ o)
    (hr : ∀ h Y b a, rel1 h Y b a → Rps G.lvl h Y ds vs → Rps G.lvl h Y (ds1 b) (vs1 a))
    (h2 : ∀ b ρ₁ σ₁ a, (∃ h Y, rel1 h Y b a) → Tr G X n (ds1 b) (vs1 a) (k a) rel2 ρ₁ σ₁ (f b ρ₁ σ₁)) : Tr G X n ds vs u rel2 ρ σ (bindO o f) :=
  (TrW.bind (K := fun a => tree G (k a)) h1 hr h2).into hb

theorem Tr.seqV {t : Sem Value} {u : Sem γ} {k : Value → Sem γ} {rel2 : Heap → Lay → δ → γ → Prop} {o : Out V} {f : V → Loc → Mem → Out δ}
    (hb : ∀ A Q E s, A.handled = none → wpAny (model G.prog G.w) A t (fun a s₁ => wpAny (model G.prog G.w) A (k a) Q E s₁) E s → wpAny (model G.prog G.w) A u Q E s)
    (h1 : Tr G X n ds vs t (RV G) ρ σ o)
    (h2 : ∀ b ρ₁ σ₁ a, (∃ h Y, Rp G.lvl h Y b a) → Tr G X n (b :: ds) (a :: vs) (k a) rel2 ρ₁ σ₁ (f b ρ₁ σ₁)) : Tr G X n ds vs u rel2 ρ σ (bindO o f) :=
  Tr.seq (ds1 := fun b => b :: ds) (vs1 := fun a => a :: vs) hb h1 (fun _ _ _ _ x y => .cons x y) h2

theorem Tr.seqB {t : Sem β} {u : Sem γ} {k : β → Sem γ} {rel2 : Heap → Lay → δ → γ → Prop} {o : Out β} {f : β → Loc → Mem → Out δ}
    (hb : ∀ A Q E s, A.handled = none → wpAny (model G.prog G.w) A t (fun a s₁ => wpAny (model G.prog G.w) A (k a) Q E s₁) E s → wpAny (model G.prog G.w) A u Q E s)
    (h1 : Tr G X n ds vs t RB ρ σ o)
    (h2 : ∀ b ρ₁ σ₁, Tr G X n ds vs (k b) rel2 ρ₁ σ₁ (f b ρ₁ σ₁)) : Tr G X n ds vs u rel2 ρ σ (bindO o f) :=
  Tr.seq (ds1 := fun _ => ds) (vs1 := fun _ => vs) hb h1 (fun _ _ _ _ _ y => y) fun b ρ₁ σ₁ a ⟨_, _, e⟩ => by cases e; exact h2 b ρ₁ σ₁

/-- a look ahead of it that changes nothing but the tokens -/
theorem TrW.pre {W W' : PT α} {rel : Heap → Lay → β → α → Prop} {o : Out β} (x : TrW G X n ds vs W rel ρ σ o)
    (h : ∀ A s Y Q E, AOk X A n → Dyn G X s.heap Y ρ σ → Rps G.lvl s.heap Y ds vs → (∀ tk, W A Q E { s with toks := tk }) → W' A Q E s) : TrW G X n ds vs W' rel ρ σ o := by
  rcases o with _ | ⟨r, ρ', σ'⟩
  · trivial
  · intro A s Y Q E hA hD hR k
    exact h A s Y Q E hA hD hR fun tk => x A { s with toks := tk } Y Q E hA hD hR k
theorem TrW.one {W : PT α} {rel : Heap → Lay → β → α → Prop} {b : β}
    (h : ∀ A s Y Q E, AOk X A n → Dyn G X s.heap Y ρ σ → Rps G.lvl s.heap Y ds vs → (∀ tk a, rel s.heap Y b a → Q a { s with toks := tk }) → W A Q E s) :
    TrW G X n ds vs W rel ρ σ (some (.ok b, ρ, σ)) := by
  intro A s Y Q E hA hD hR k
  refine h A s Y Q E hA hD hR fun tk a ha => ?_
  exact (k s.heap tk Y (.refl ..) hD).1 b rfl a ha
/-- a step that changes nothing but the tokens -/
theorem Tr.one {t : Sem α} {rel : Heap → Lay → β → α → Prop} {b : β}
    (h : ∀ A s Y Q E, AOk X A n → Dyn G X s.heap Y ρ σ → Rps G.lvl s.heap Y ds vs → (∀ tk a, rel s.heap Y b a → Q a { s with toks := tk }) → wpAny (model G.prog G.w) A t Q E s) :
    Tr G X n ds vs t rel ρ σ (some (.ok b, ρ, σ)) := by
  intro A s Y Q E hA hD hR k
  refine h A s Y Q E hA hD hR fun tk a ha => ?_
  exact (k s.heap tk Y (.refl ..) hD).1 b rfl a ha
end

end Mine

end

section
open PySem PySem.W PyProof.Rows
namespace Mine

inductive ME where
  | var (i : Nat)
  | gl (k : Nat)
  | lit (v : V)
  | not (e : ME)
  | neg (e : ME)
  | bin (o : Operator) (a b : ME)
  | cmp (o : CmpOp) (a b : ME)
  | cmp2 (o1 o2 : CmpOp) (a b c : ME)
  | andL (l : List ME)
  | orL (l : List ME)
  | ite (t a b : ME)
  | tup (l : List ME)
  | lstF (l : List ME)
  | lstM (l : List ME)
  | idx (e i : ME)
  | slc (e : ME) (lo hi : Option ME)
  | call (f : Nat) (l : List ME)
  | mk (l : List ME)
  | bi (b : Nat) (l : List ME)
  | app (e a : ME)
  | ext (e a : ME)
  | pop (e : ME)
  | meth (m : Nat) (e : ME) (l : List ME)
  | attr (e : ME) (k : Nat)
  | jug (i : Nat) (k : Nat)
  | capj (e : ME)
  | chrs (a b : ME)
  | bad
  deriving Inhabited

inductive MS where
  | asg (i : Nat) (e : ME)
  | asgT (l : List Nat) (e : ME)
  | aug (i : Nat) (o : Operator) (e : ME)
  | augJ (i : Nat) (k : Int)
  | expr (e : ME)
  | ife (t : ME) (a b : List MS)
  | whl (t : ME) (b : List MS)
  | forR (i : Nat) (e : ME) (b : List MS)
  | ret (e : ME)
  | raise (c : ME) (l : List ME)
  | tryC (b : List MS)
  | bad
  deriving Inhabited

inductive Fl where
  | next
  | ret (v : V)
  deriving Inhabited
noncomputable def Fl.val : Fl → V
  | .next => .none
  | .ret v => v

structure FD where
  name : Str
  np : Nat
  ns : List Str
  body : List MS

structure Tab where
  FT : List FD
  CT : List (Str × V)

mutual
noncomputable def noRef : V → Bool
  | .none => true
  | .bool _ => true
  | .int _ => true
  | .str _ => true
  | .tup l => noRefs l
  | .lst l => noRefs l
  | .ref _ => false
  | .lvl .. => false
  | .tab _ => false
noncomputable def noRefs : List V → Bool
  | [] => true
  | v :: r => noRef v && noRefs r
end

/-- the list, or the jug, that lies there -/
noncomputable def memL {β : Type} (σ : Mem) (r : Nat) (k : List V → Option β) : Option β := match σ[r]? with | some (.list l) => k l | _ => none
noncomputable def memJ {β : Type} (σ : Mem) (r : Nat) (k : V → Int → Option β) : Option β := match σ[r]? with | some (.jug c n) => k c n | _ => none
theorem memL_of {β : Type} {σ : Mem} {i : Nat} {k : List V → Option β} {r : β} (h : memL σ i k = some r) : ∃ l, σ[i]? = some (.list l) ∧ k l = some r := by
  unfold memL at h
  cases q : σ[i]? with
  | none => rw [q] at h; cases h
  | some c => cases c with
    | list l => rw [q] at h; exact ⟨l, rfl, h⟩
    | jug _ _ => rw [q] at h; cases h
theorem memJ_of {β : Type} {σ : Mem} {i : Nat} {k : V → Int → Option β} {r : β} (h : memJ σ i k = some r) : ∃ c n, σ[i]? = some (.jug c n) ∧ k c n = some r := by
  unfold memJ at h
  cases q : σ[i]? with
  | none => rw [q] at h; cases h
  | some c => cases c with
    | list l => rw [q] at h; cases h
    | jug c n => rw [q] at h; exact ⟨c, n, rfl, h⟩
mutual
noncomputable def fz (σ : Mem) : V → Option V
  | .none => some .none
  | .bool b => some (.bool b)
  | .int i => some (.int i)
  | .str s => some (.str s)
  | .tup l => (fzs σ l).map .tup
  | .lst l => if noRefs l then some (.lst l) else none
  | .ref i => memL σ i fun l => if noRefs l then some (.lst l) else none
  | .lvl .. => none
  | .tab _ => none
noncomputable def fzs (σ : Mem) : List V → Option (List V)
  | [] => some []
  | v :: r => match fz σ v, fzs σ r with
    | some a, some b => some (a :: b)
    | _, _ => none
end

theorem fzs_cons {σ : Mem} {v : V} {r l : List V} (h : fzs σ (v :: r) = some l) : ∃ a b, fz σ v = some a ∧ fzs σ r = some b ∧ l = a :: b := by
  replace h : (match fz σ v, fzs σ r with | some a, some b => some (a :: b) | _, _ => none) = some l := h
  cases e1 : fz σ v with
  | none => rw [e1] at h; cases h
  | some a =>
    cases e2 : fzs σ r with
    | none => rw [e1, e2] at h; cases h
    | some b => rw [e1, e2] at h; exact ⟨a, b, rfl, rfl, (Option.some.inj h).symm⟩
/-- a value looked at -/
noncomputable def vInt (v : V) : Option {i : Int // v = .int i} := match v with | .int i => some ⟨i, rfl⟩ | _ => none
noncomputable def vStr (v : V) : Option {i : List Nat // v = .str i} := match v with | .str i => some ⟨i, rfl⟩ | _ => none
noncomputable def vTup (v : V) : Option {i : List V // v = .tup i} := match v with | .tup i => some ⟨i, rfl⟩ | _ => none
noncomputable def vLst (v : V) : Option {i : List V // v = .lst i} := match v with | .lst i => some ⟨i, rfl⟩ | _ => none
noncomputable def vTab (v : V) : Option {i : List (List Nat × Int) // v = .tab i} := match v with | .tab i => some ⟨i, rfl⟩ | _ => none
noncomputable def vRef (v : V) : Option {i : Nat // v = .ref i} := match v with | .ref i => some ⟨i, rfl⟩ | _ => none
noncomputable def isNone (v : V) : Bool := match v with | .none => true | _ => false
noncomputable def oB {α β : Type} (o : Option α) (k : α → Option β) : Option β := match o with | some a => k a | none => none
noncomputable def orO {β : Type} (a b : Option β) : Option β := match a with | some x => some x | none => b
theorem oB_of {α β : Type} {o : Option α} {k : α → Option β} {r : β} (h : oB o k = some r) : ∃ a, o = some a ∧ k a = some r := by
  cases o with
  | none => cases h
  | some a => exact ⟨a, rfl, h⟩
theorem orO_of {β : Type} {a b : Option β} {r : β} (h : orO a b = some r) : a = some r ∨ b = some r := by
  cases a with
  | none => exact .inr h
  | some x => exact .inl h
noncomputable def onI {β : Type} (v : V) (k : Int → Option β) : Option β := oB (vInt v) fun z => k z.1
noncomputable def onS {β : Type} (v : V) (k : List Nat → Option β) : Option β := oB (vStr v) fun z => k z.1
noncomputable def onT {β : Type} (v : V) (k : List V → Option β) : Option β := oB (vTup v) fun z => k z.1
noncomputable def onL {β : Type} (v : V) (k : List V → Option β) : Option β := oB (vLst v) fun z => k z.1
noncomputable def onB {β : Type} (v : V) (k : List (List Nat × Int) → Option β) : Option β := oB (vTab v) fun z => k z.1
noncomputable def onR {β : Type} (v : V) (k : Nat → Option β) : Option β := oB (vRef v) fun z => k z.1
section
variable {β : Type} {v : V} {r : β}
theorem onI_of {k : Int → Option β} (h : onI v k = some r) : ∃ i, v = .int i ∧ k i = some r := by obtain ⟨z, _, h⟩ := oB_of h; exact ⟨z.1, z.2, h⟩
theorem onS_of {k : List Nat → Option β} (h : onS v k = some r) : ∃ i, v = .str i ∧ k i = some r := by obtain ⟨z, _, h⟩ := oB_of h; exact ⟨z.1, z.2, h⟩
theorem onT_of {k : List V → Option β} (h : onT v k = some r) : ∃ i, v = .tup i ∧ k i = some r := by obtain ⟨z, _, h⟩ := oB_of h; exact ⟨z.1, z.2, h⟩
theorem onL_of {k : List V → Option β} (h : onL v k = some r) : ∃ i, v = .lst i ∧ k i = some r := by obtain ⟨z, _, h⟩ := oB_of h; exact ⟨z.1, z.2, h⟩
theorem onB_of {k : List (List Nat × Int) → Option β} (h : onB v k = some r) : ∃ i, v = .tab i ∧ k i = some r := by obtain ⟨z, _, h⟩ := oB_of h; exact ⟨z.1, z.2, h⟩
theorem onR_of {k : Nat → Option β} (h : onR v k = some r) : ∃ i, v = .ref i ∧ k i = some r := by obtain ⟨z, _, h⟩ := oB_of h; exact ⟨z.1, z.2, h⟩
end
noncomputable def ii {β : Type} (u v : V) (k : Int → Int → Option β) : Option β := onI u fun a => onI v fun b => k a b
noncomputable def ss {β : Type} (u v : V) (k : List Nat → List Nat → Option β) : Option β := onS u fun a => onS v fun b => k a b
noncomputable def ll {β : Type} (u v : V) (k : List V → List V → Option β) : Option β := onL u fun a => onL v fun b => k a b
section
variable {β : Type} {u v : V} {r : β}
theorem ii_of {k : Int → Int → Option β} (h : ii u v k = some r) : ∃ a b, u = .int a ∧ v = .int b ∧ k a b = some r := by
  obtain ⟨a, e1, h1⟩ := onI_of h
  obtain ⟨b, e2, h2⟩ := onI_of h1
  exact ⟨a, b, e1, e2, h2⟩
theorem ss_of {k : List Nat → List Nat → Option β} (h : ss u v k = some r) : ∃ a b, u = .str a ∧ v = .str b ∧ k a b = some r := by
  obtain ⟨a, e1, h1⟩ := onS_of h
  obtain ⟨b, e2, h2⟩ := onS_of h1
  exact ⟨a, b, e1, e2, h2⟩
theorem ll_of {k : List V → List V → Option β} (h : ll u v k = some r) : ∃ a b, u = .lst a ∧ v = .lst b ∧ k a b = some r := by
  obtain ⟨a, e1, h1⟩ := onL_of h
  obtain ⟨b, e2, h2⟩ := onL_of h1
  exact ⟨a, b, e1, e2, h2⟩
end
theorem if_of {β : Type} {p : Prop} [Decidable p] {a : β} {r : β} (h : (if p then some a else none) = some r) : p ∧ r = a := by
  by_cases q : p
  · rw [if_pos q] at h; exact ⟨q, (Option.some.inj h).symm⟩
  · rw [if_neg q] at h; cases h

mutual
noncomputable def veq : V → V → Bool
  | .none, .none => true
  | .int i, .int j => i == j
  | .str s, .str t => s == t
  | .tup a, .tup b => veqs a b
  | .lst a, .lst b => veqs a b
  | _, _ => false
noncomputable def veqs : List V → List V → Bool
  | [], [] => true
  | x :: r, y :: t => veq x y && veqs r t
  | _, _ => false
end

mutual
noncomputable def toPy : V → PyData
  | .int i => .int i
  | .str s => .str ⟨s.toArray⟩
  | .tup l => .tuple (toPys l)
  | .lst l => .list (toPys l)
  | _ => .none
noncomputable def toPys : List V → List PyData
  | [] => []
  | v :: r => toPy v :: toPys r
end

noncomputable def okV : Nat → V → Bool
  | _, .none => true
  | _, .int _ => true
  | _, .str s => s.all fun c => decide (c < 0x110000)
  | n + 1, .tup l => l.all (okV n)
  | n + 1, .lst l => l.all (okV n)
  | _, _ => false

noncomputable def veqT (u v : V) : Option Bool := orO (ss u v fun a b => some (a == b)) (orO (ii u v fun a b => some (a == b)) (if (okV 8 u && okV 8 v) = true then some (veq u v) else none))

noncomputable def small (i : Int) : Bool := decide (-1000000 < i) && decide (i < 1000000)

noncomputable def opBin (op : Operator) (u v : V) : Option V := match op with
  | .Add => orO (ii u v fun a b => some (.int (a + b))) (orO (ss u v fun s t => if s.length + t.length ≤ 100000 then some (.str (s ++ t)) else none) (ll u v fun s t => if s.length + t.length ≤ 100000 then some (.lst (s ++ t)) else none))
  | .Sub => ii u v fun a b => some (.int (a - b))
  | .Mult => ii u v fun a b => if (small a && small b) = true then some (.int (a * b)) else none
  | .FloorDiv => ii u v fun a b => if (small a && small b && b != 0) = true then some (.int (a.fdiv b)) else none
  | .Mod => ii u v fun a b => if b ≠ 0 then some (.int (a.fmod b)) else none
  | _ => none

noncomputable def deref (σ : Mem) : V → V
  | .ref r => match σ[r]? with
    | some (.list l) => .lst l
    | _ => .ref r
  | v => v

noncomputable def isStrs : List V → Option (List (List Nat))
  | [] => some []
  | v :: r => onS v fun s => (isStrs r).map (s :: ·)
theorem isStrs_cons {v : V} {r : List V} {ss : List (List Nat)} (h : isStrs (v :: r) = some ss) : ∃ s, v = .str s ∧ (isStrs r).map (s :: ·) = some ss := onS_of h

noncomputable def ng (n b : Bool) : Bool := match n with | true => !b | false => b
noncomputable def opIn (neg : Bool) (u v : V) : Option Bool := onS u fun a => orO (onS v fun b => some (ng neg (!(Builtin.Str.occurrences ⟨b.toArray⟩ ⟨a.toArray⟩ 0 b.length 1).isEmpty))) (onT v fun l => (isStrs l).map fun ss => ng neg (ss.contains a))
noncomputable def opIn2 (u v : V) : Option Bool := onS u fun a => orO (onL v fun l => (isStrs l).map fun ss => ss.contains a) (onB v fun l => some (l.any fun p => p.1 == a))
noncomputable def opCmp (op : CmpOp) (u v : V) : Option Bool := match op with
  | .Lt => orO (ii u v fun a b => some (decide (a < b))) (ss u v fun a b => some (decide (a < b)))
  | .LtE => orO (ii u v fun a b => some (decide (a ≤ b))) (ss u v fun a b => some (!decide (b < a)))
  | .Gt => ii u v fun a b => some (decide (b < a))
  | .GtE => ii u v fun a b => some (decide (b ≤ a))
  | .Eq => veqT u v
  | .NotEq => (veqT u v).map (!·)
  | .IsNot => if isNone v = true then some (!isNone u) else none
  | .In => orO (opIn false u v) (opIn2 u v)
  | .NotIn => opIn true u v
  | _ => none

noncomputable def truthyV : V → Option Bool
  | .bool b => some b
  | .int i => some (i != 0)
  | .none => some false
  | _ => none

noncomputable def atList (l : List V) (i : Int) : Option V := if 0 ≤ i then (if i < 1000000 then l[i.toNat]? else none) else if i = -1 then l.getLast? else none

noncomputable def slice (s : List Nat) (lo hi : Option Int) : List Nat := (PySem.Txt.slice ⟨s.toArray⟩ lo hi).cps.toList

noncomputable def attrOf (k : Nat) : V → Option V
  | .lvl a b c d e => [a, b, c, d, e][k]?
  | _ => none

noncomputable def retO {β : Type} (ρ : Loc) (σ : Mem) (x : Option β) : Out β := x.map fun b => (.ok b, ρ, σ)

open PySem.Builtin.Str in
noncomputable def findV (s p : List Nat) (i j : Int) : Option Int :=
  if 0 ≤ i ∧ 0 ≤ j ∧ i < 1000000 ∧ j < 1000000 then some (match occurrences ⟨s.toArray⟩ ⟨p.toArray⟩ i.toNat (min j.toNat s.length) 1 with | k :: _ => (k : Int) | [] => -1) else none

open PySem.Builtin.Str in
noncomputable def splitV (s p : List Nat) : Option (List V) :=
  let x : Str := ⟨s.toArray⟩
  let y : Str := ⟨p.toArray⟩
  let ps := partsBetween x (occurrences x y 0 x.length (x.length + 1)) y.length
  if (!(decide (x.length < y.length) || decide (strKind x < strKind y))) && !(y.length == 0) && !(occurrences x y 0 x.length (x.length + 1)).isEmpty && decide (x.length ≤ 100000) && decide (ps.length ≤ 100000)
  then some (.lst (ps.map fun p => V.str p.cps.toList)) |>.map fun v => [v] else none

noncomputable def l1 {α β : Type} (l : List α) (k : α → Option β) : Option β := match l with | [a] => k a | _ => none
theorem l1_of {α β : Type} {l : List α} {k : α → Option β} {r : β} (h : l1 l k = some r) : ∃ a, l = [a] ∧ k a = some r := by
  cases l with
  | nil => cases h
  | cons a l => cases l with
    | nil => exact ⟨a, rfl, h⟩
    | cons _ _ => cases h
noncomputable def l3 {α β : Type} (l : List α) (k : α → α → α → Option β) : Option β := match l with | [a, b, c] => k a b c | _ => none
theorem l3_of {α β : Type} {l : List α} {k : α → α → α → Option β} {r : β} (h : l3 l k = some r) : ∃ a b c, l = [a, b, c] ∧ k a b c = some r := by
  cases l with
  | nil => cases h
  | cons a l => cases l with
    | nil => cases h
    | cons b l => cases l with
      | nil => cases h
      | cons c l => cases l with
        | nil => exact ⟨a, b, c, rfl, h⟩
        | cons _ _ => cases h
noncomputable def methV (m : Nat) (v : V) (l : List V) : Option V := onS v fun s => match m with
  | 0 => l3 l fun p i j => onS p fun p => onI i fun i => onI j fun j => (findV s p i j).map .int
  | 1 => l1 l fun p => onS p fun p => (splitV s p).bind List.head?
  | _ => none

noncomputable def biV (b : Nat) (l : List V) : Option V := l1 l fun v => match b with
  | 0 => (match v with
    | .str s => if s.length ≤ 100000 then some (.int s.length) else none
    | .lst s => if s.length ≤ 100000 then some (.int s.length) else none
    | _ => none)
  | 1 => onS v fun s => l1 s fun c => some (.int c)
  | 2 => onI v fun i => if 0 ≤ i ∧ i < 1000 then some (.str [i.toNat]) else none
  | 3 => onI v fun i => some (.int (if i < 0 then -i else i))
  | _ => none

noncomputable def capC (c : Nat) : Nat := if 97 ≤ c ∧ c ≤ 122 then c - 32 else c

/-- the functions of the interpreter, one level deep -/
structure Rec where
  E : ME → Loc → Mem → Out V
  Es : List ME → Loc → Mem → Out (List V)
  T : ME → Loc → Mem → Out Bool
  S : MS → Loc → Mem → Out Fl
  Ss : List MS → Loc → Mem → Out Fl
  C : Nat → List V → Mem → Option (Except (List Nat) V × Mem)

noncomputable def Rec.none : Rec := ⟨fun _ _ _ => .none, fun _ _ _ => .none, fun _ _ _ => .none, fun _ _ _ => .none, fun _ _ _ => .none, fun _ _ _ => .none⟩

noncomputable def idxV (v i : V) (σ : Mem) : Option V := match v with
  | .str s => onI i fun k => if 0 ≤ k ∧ k < 1000000 then (s[k.toNat]?).map fun c => .str [c] else none
  | .tup l => onI i fun k => atList l k
  | .lst l => onI i fun k => atList l k
  | .tab l => onS i fun s => (l.lookup s).map .int
  | .ref r => (match i with
    | .int k => memL σ r fun l => atList l k
    | .str s => memJ σ r fun c n => if s = [99, 101, 108, 108, 115] then some c else if s = [99, 111, 117, 110, 116] then some (.int n) else none
    | _ => none)
  | _ => none

noncomputable def lenV (v : V) (σ : Mem) : Option V := onR v fun r => memL σ r fun l => if l.length ≤ 100000 then some (.int l.length) else none

noncomputable def biAll (b : Nat) (vs : List V) (σ : Mem) : Option V := orO (biV b vs) (match b with | 0 => l1 vs fun v => lenV v σ | _ => none)

noncomputable def isListRef (u : V) (σ : Mem) : Option Nat := match u with
  | .ref r => match σ[r]? with
    | some (.list _) => some r
    | _ => none
  | _ => none
noncomputable def isStr : V → Bool
  | .str _ => true
  | _ => false

noncomputable def optO (e : Option ME) (E : ME → Loc → Mem → Out V) (ρ : Loc) (σ : Mem) : Out (Option Int) := match e with
  | none => some (.ok none, ρ, σ)
  | some e => bindO (E e ρ σ) fun v ρ σ => match v with
    | .int i => if small i then some (.ok (some i), ρ, σ) else none
    | _ => none

noncomputable def jugO (i k : Nat) (ρ : Loc) (σ : Mem) : Out V := match ρ[i]? with
  | some (some (.lst l)) => if l.length ≤ 100000 then some (.ok (.ref σ.length), ρ, σ ++ [.jug (.lst (l.take k)) 0]) else none
  | _ => none

noncomputable def chrsO (u v : V) : Option V := match u, v with
  | .int x, .int y => if 0 ≤ x ∧ x ≤ 200 ∧ 0 ≤ y ∧ y ≤ 201 then some (.lst ((List.range (y - x).toNat).map fun i => V.str [x.toNat + i])) else none
  | _, _ => none

noncomputable def mkO (vs : List V) (ρ : Loc) (σ : Mem) : Out V := match vs with
  | [.str k, .str w] => some (.ok (.lvl (.str k) (.str w) (.ref σ.length) (.ref (σ.length + 1)) (.ref (σ.length + 2))), ρ, σ ++ [.list [], .list [], .list []])
  | _ => none

noncomputable def stepE (I : Rec) : ME → Loc → Mem → Out V
  | .var i, ρ, σ => match ρ[i]? with
    | some (some v) => some (.ok v, ρ, σ)
    | _ => none
  | .gl _, _, _ => none
  | .bad, _, _ => none
  | .lit v, ρ, σ => some (.ok v, ρ, σ)
  | .not e, ρ, σ => bindO (I.T e ρ σ) fun b ρ σ => some (.ok (.bool !b), ρ, σ)
  | .neg e, ρ, σ => bindO (I.E e ρ σ) fun v ρ σ => match v with
    | .int i => some (.ok (.int (-i)), ρ, σ)
    | _ => none
  | .bin o a b, ρ, σ => bindO (I.E a ρ σ) fun u ρ σ => bindO (I.E b ρ σ) fun v ρ σ => retO ρ σ (opBin o (deref σ u) (deref σ v))
  | .cmp o a b, ρ, σ => bindO (I.E a ρ σ) fun u ρ σ => bindO (I.E b ρ σ) fun v ρ σ => retO ρ σ ((opCmp o u v).map .bool)
  | .cmp2 o1 o2 a b c, ρ, σ => bindO (I.E a ρ σ) fun u ρ σ => bindO (I.E b ρ σ) fun v ρ σ => match opCmp o1 u v with
    | some true => bindO (I.E c ρ σ) fun x ρ σ => retO ρ σ ((opCmp o2 v x).map .bool)
    | some false => some (.ok (.bool false), ρ, σ)
    | none => none
  | .andL l, ρ, σ => match l with
    | [] => none
    | [e] => I.E e ρ σ
    | e :: r => bindO (I.E e ρ σ) fun v ρ σ => match truthyV v with
      | some true => I.E (.andL r) ρ σ
      | some false => some (.ok v, ρ, σ)
      | none => none
  | .orL l, ρ, σ => match l with
    | [] => none
    | [e] => I.E e ρ σ
    | e :: r => bindO (I.E e ρ σ) fun v ρ σ => match truthyV v with
      | some false => I.E (.orL r) ρ σ
      | some true => some (.ok v, ρ, σ)
      | none => none
  | .ite t a b, ρ, σ => bindO (I.T t ρ σ) fun x ρ σ => if x then I.E a ρ σ else I.E b ρ σ
  | .tup l, ρ, σ => bindO (I.Es l ρ σ) fun vs ρ σ => if vs.length ≤ 1000 then some (.ok (.tup vs), ρ, σ) else none
  | .lstF l, ρ, σ => bindO (I.Es l ρ σ) fun vs ρ σ => if vs.length ≤ 1000 then some (.ok (.lst vs), ρ, σ) else none
  | .lstM l, ρ, σ => bindO (I.Es l ρ σ) fun vs ρ σ => if vs.length ≤ 1000 then some (.ok (.ref σ.length), ρ, σ ++ [.list vs]) else none
  | .idx e i, ρ, σ => bindO (I.E e ρ σ) fun u ρ σ => bindO (I.E i ρ σ) fun v ρ σ => retO ρ σ (idxV u v σ)
  | .slc e lo hi, ρ, σ => bindO (I.E e ρ σ) fun u ρ σ => bindO (optO lo I.E ρ σ) fun l ρ σ => bindO (optO hi I.E ρ σ) fun h ρ σ => match u with
    | .str s => if s.length ≤ 100000 then some (.ok (.str (slice s l h)), ρ, σ) else none
    | .lst s => match l, h with
      | none, some k => if 0 ≤ k ∧ s.length ≤ 100000 then some (.ok (.lst (s.take k.toNat)), ρ, σ) else none
      | _, _ => none
    | _ => none
  | .call f l, ρ, σ => bindO (I.Es l ρ σ) fun vs ρ σ => (I.C f vs σ).map fun x => (x.1, ρ, x.2)
  | .mk l, ρ, σ => bindO (I.Es l ρ σ) fun vs ρ σ => mkO vs ρ σ
  | .bi b l, ρ, σ => bindO (I.Es l ρ σ) fun vs ρ σ => retO ρ σ (biAll b vs σ)
  | .app e a, ρ, σ => bindO (I.E e ρ σ) fun u ρ σ => match isListRef u σ with
    | some r => bindO (I.E a ρ σ) fun v ρ σ => match σ[r]? with
      | some (.list l) => if l.length ≤ 100000 then some (.ok .none, ρ, σ.set r (.list (l ++ [v]))) else none
      | _ => none
    | none => none
  | .ext e a, ρ, σ => bindO (I.E e ρ σ) fun u ρ σ => match isListRef u σ with
    | some r => bindO (I.E a ρ σ) fun v ρ σ => match v with
      | .lst x => match σ[r]? with
        | some (.list l) => if l.length + x.length ≤ 100000 then some (.ok .none, ρ, σ.set r (.list (l ++ x))) else none
        | _ => none
      | _ => none
    | none => none
  | .pop e, ρ, σ => bindO (I.E e ρ σ) fun u ρ σ => match u with
    | .ref r => match σ[r]? with
      | some (.list l) => match l.getLast? with
        | some v => if l.length ≤ 100000 then some (.ok v, ρ, σ.set r (.list l.dropLast)) else none
        | none => none
      | _ => none
    | _ => none
  | .meth m e l, ρ, σ => bindO (I.E e ρ σ) fun u ρ σ => if isStr u then bindO (I.Es l ρ σ) fun vs ρ σ => retO ρ σ (methV m u vs) else none
  | .attr e k, ρ, σ => bindO (I.E e ρ σ) fun u ρ σ => retO ρ σ (attrOf k u)
  | .jug i k, ρ, σ => jugO i k ρ σ
  | .capj e, ρ, σ => bindO (I.E e ρ σ) fun u ρ σ => match u with
    | .str s => if s.length ≤ 1000 then some (.ok (.str (s.map capC)), ρ, σ) else none
    | _ => none
  | .chrs a b, ρ, σ => bindO (I.E a ρ σ) fun u ρ σ => bindO (I.E b ρ σ) fun v ρ σ => retO ρ σ (chrsO u v)

noncomputable def stepEs (I : Rec) : List ME → Loc → Mem → Out (List V)
  | [], ρ, σ => some (.ok [], ρ, σ)
  | e :: r, ρ, σ => bindO (I.E e ρ σ) fun v ρ σ => bindO (I.Es r ρ σ) fun vs ρ σ => some (.ok (v :: vs), ρ, σ)

noncomputable def stepT (I : Rec) : ME → Loc → Mem → Out Bool
  | .not e, ρ, σ => bindO (I.T e ρ σ) fun b ρ σ => some (.ok !b, ρ, σ)
  | .andL l, ρ, σ => match l with
    | [] => some (.ok true, ρ, σ)
    | e :: r => bindO (I.T e ρ σ) fun b ρ σ => if b then I.T (.andL r) ρ σ else some (.ok false, ρ, σ)
  | .orL l, ρ, σ => match l with
    | [] => some (.ok false, ρ, σ)
    | e :: r => bindO (I.T e ρ σ) fun b ρ σ => if b then some (.ok true, ρ, σ) else I.T (.orL r) ρ σ
  | .ite t a b, ρ, σ => bindO (I.T t ρ σ) fun x ρ σ => if x then I.T a ρ σ else I.T b ρ σ
  | .cmp o a b, ρ, σ => bindO (I.E a ρ σ) fun u ρ σ => bindO (I.E b ρ σ) fun v ρ σ => retO ρ σ (opCmp o u v)
  | .cmp2 o1 o2 a b c, ρ, σ => bindO (I.E a ρ σ) fun u ρ σ => bindO (I.E b ρ σ) fun v ρ σ => match opCmp o1 u v with
    | some true => bindO (I.E c ρ σ) fun x ρ σ => retO ρ σ (opCmp o2 v x)
    | some false => some (.ok false, ρ, σ)
    | none => none
  | e, ρ, σ => bindO (I.E e ρ σ) fun v ρ σ => retO ρ σ (truthyV v)

noncomputable def setAll : List Nat → List V → Loc → Loc
  | i :: r, v :: t, ρ => setAll r t (ρ.set i (some v))
  | _, _, ρ => ρ

noncomputable def forO (g : Loc → Mem → Out Fl) (i : Nat) : List Int → Loc → Mem → Out Fl
  | [], ρ, σ => some (.ok .next, ρ, σ)
  | k :: r, ρ, σ => bindO (g (ρ.set i (some (.int k))) σ) fun f ρ σ => match f with
    | .next => forO g i r ρ σ
    | .ret v => some (.ok (.ret v), ρ, σ)

noncomputable def asgTO (l : List Nat) (v : V) (ρ : Loc) (σ : Mem) : Out Fl := match v with
  | .tup vs => if vs.length = l.length then some (.ok .next, setAll l vs ρ, σ) else none
  | _ => none

noncomputable def augO (o : Operator) (i : Nat) (u v : V) (ρ : Loc) (σ : Mem) : Out Fl := match o, u, v with
  | .Add, .int a, .int b => some (.ok .next, ρ.set i (some (.int (a + b))), σ)
  | _, _, _ => none

noncomputable def augJO (i : Nat) (k : Int) (ρ : Loc) (σ : Mem) : Out Fl := match ρ[i]? with
  | some (some (.ref r)) => match σ[r]? with
    | some (.jug c n) => some (.ok .next, ρ, σ.set r (.jug c (n + k)))
    | _ => none
  | _ => none

noncomputable def raiseO (vs : List V) (ρ : Loc) (σ : Mem) : Out Fl := match vs with
  | [.str c, _] => some (.error c, ρ, σ)
  | _ => none

noncomputable def tryO (o : Out Fl) : Out Fl := match o with
  | some (.error c, _, σ) => some (.ok (.ret (.str c)), [], σ)
  | o => o

noncomputable def stepS (I : Rec) : MS → Loc → Mem → Out Fl
  | .asg i e, ρ, σ => bindO (I.E e ρ σ) fun v ρ σ => some (.ok .next, ρ.set i (some v), σ)
  | .asgT l e, ρ, σ => bindO (I.E e ρ σ) fun v ρ σ => asgTO l v ρ σ
  | .aug i o e, ρ, σ => match ρ[i]? with
    | some (some u) => bindO (I.E e ρ σ) fun v ρ σ => augO o i u v ρ σ
    | _ => none
  | .augJ i k, ρ, σ => augJO i k ρ σ
  | .expr e, ρ, σ => bindO (I.E e ρ σ) fun _ ρ σ => some (.ok .next, ρ, σ)
  | .ife t a b, ρ, σ => bindO (I.T t ρ σ) fun x ρ σ => if x then I.Ss a ρ σ else I.Ss b ρ σ
  | .whl t b, ρ, σ => bindO (I.T t ρ σ) fun x ρ σ => if x then bindO (I.Ss b ρ σ) fun f ρ σ => match f with
      | .next => I.S (.whl t b) ρ σ
      | .ret v => some (.ok (.ret v), ρ, σ)
    else some (.ok .next, ρ, σ)
  | .forR i e b, ρ, σ => bindO (I.E e ρ σ) fun v ρ σ => match v with
    | .int k => if 0 ≤ k ∧ k ≤ 1000 then forO (I.Ss b) i ((List.range' 0 k.toNat).map Int.ofNat) ρ σ else none
    | _ => none
  | .ret e, ρ, σ => bindO (I.E e ρ σ) fun v ρ σ => some (.ok (.ret v), ρ, σ)
  | .raise c l, ρ, σ => bindO (I.Es (c :: l) ρ σ) fun vs ρ σ => raiseO vs ρ σ
  | .tryC b, ρ, σ => tryO (I.Ss b ρ σ)
  | .bad, _, _ => none

noncomputable def stepSs (I : Rec) : List MS → Loc → Mem → Out Fl
  | [], ρ, σ => some (.ok .next, ρ, σ)
  | s :: r, ρ, σ => bindO (I.S s ρ σ) fun f ρ σ => match f with
    | .next => I.Ss r ρ σ
    | .ret v => some (.ok (.ret v), ρ, σ)

noncomputable def locO (fd : FD) (vs : List V) : Loc := vs.map some ++ List.replicate (fd.ns.length - fd.np) none

noncomputable def callO (fd : FD) (g : Loc → Mem → Out Fl) (vs : List V) (σ : Mem) : Option (Except (List Nat) V × Mem) :=
  if vs.length = fd.np then
      if noRefs vs then match g (locO fd vs) [] with
        | some (.error c, _, _) => some (.error c, σ)
        | some (.ok r, _, σ') => (fz σ' r.val).map fun v => (.ok v, σ)
        | none => none
      else match g (locO fd vs) σ with
        | some (.error c, _, σ') => some (.error c, σ')
        | some (.ok r, _, σ') => some (.ok r.val, σ')
        | none => none
    else none

noncomputable def stepC (T : Tab) (I : Rec) (f : Nat) (vs : List V) (σ : Mem) : Option (Except (List Nat) V × Mem) := match T.FT[f]? with
  | none => none
  | some fd => callO fd (I.Ss fd.body) vs σ

noncomputable def stepR (T : Tab) (I : Rec) : Rec where
  E e ρ σ := match e with
    | .gl k => match T.CT[k]? with
      | some (_, v) => some (.ok v, ρ, σ)
      | none => none
    | e => stepE I e ρ σ
  Es := stepEs I
  T := stepT I
  S := stepS I
  Ss := stepSs I
  C := stepC T I

noncomputable def run (T : Tab) : Nat → Rec
  | 0 => Rec.none
  | n + 1 => stepR T (run T n)
end Mine

end

section
open PySem PySem.W PyProof.Rows
namespace Mine
noncomputable def b_is_letter : List MS := [.ret (.orL [(.cmp2 .LtE .LtE (.lit (.str [65])) (.var 0) (.lit (.str [90]))), (.cmp2 .LtE .LtE (.lit (.str [97])) (.var 0) (.lit (.str [122])))])]
noncomputable def b_is_figure : List MS := [.ret (.cmp2 .LtE .LtE (.lit (.str [48])) (.var 0) (.lit (.str [57])))]
noncomputable def b_functions : List MS := [.ret (.meth 1 (.gl 5) [(.lit (.str [32]))])]
noncomputable def b_is_word : List MS := [.ret (.orL [(.cmp .In (.var 0) (.meth 1 (.gl 4) [(.lit (.str [32]))])), (.cmp .In (.var 0) (.call 2 []))])]
noncomputable def b_capital : List MS := [.ret (.capj (.var 0))]
noncomputable def b_figures_end : List MS := [.whl (.andL [(.cmp .Lt (.var 1) (.bi 0 [(.var 0)])), (.call 1 [(.idx (.var 0) (.var 1))])]) [.aug 1 .Add (.lit (.int 1))], .ret (.var 1)]
noncomputable def b_skipped : List MS := [.whl (.andL [(.cmp .Lt (.var 1) (.bi 0 [(.var 0)])), (.cmp .In (.idx (.var 0) (.var 1)) (.lit (.str [32, 9])))]) [.aug 1 .Add (.lit (.int 1))], .ret (.var 1)]
noncomputable def b_power_end : List MS := [.ife (.cmp .NotIn (.slc (.var 0) (some (.var 1)) (some (.bin .Add (.var 1) (.lit (.int 1))))) (.tup [(.lit (.str [69])), (.lit (.str [101]))])) [.ret (.var 1)] [], .asg 2 (.ite (.cmp .In (.slc (.var 0) (some (.bin .Add (.var 1) (.lit (.int 1)))) (some (.bin .Add (.var 1) (.lit (.int 2))))) (.tup [(.lit (.str [43])), (.lit (.str [45]))])) (.bin .Add (.var 1) (.lit (.int 2))) (.bin .Add (.var 1) (.lit (.int 1)))), .asg 3 (.call 5 [(.var 0), (.var 2)]), .ife (.cmp .Gt (.bin .Sub (.var 3) (.var 2)) (.lit (.int 3))) [.raise (.lit (.str [79, 86])) [(.var 1)]] [], .ret (.ite (.cmp .Gt (.var 3) (.var 2)) (.var 3) (.var 1))]
noncomputable def b_number_at : List MS := [.asg 2 (.call 5 [(.var 0), (.var 1)]), .ife (.cmp .Eq (.slc (.var 0) (some (.var 2)) (some (.bin .Add (.var 2) (.lit (.int 1))))) (.lit (.str [46]))) [.asg 2 (.call 5 [(.var 0), (.bin .Add (.var 2) (.lit (.int 1)))])] [], .ife (.cmp .Gt (.bin .Sub (.var 2) (.var 1)) (.gl 1)) [.raise (.lit (.str [79, 86])) [(.var 1)]] [], .asg 3 (.cmp .Lt (.meth 0 (.var 0) [(.lit (.str [46])), (.var 1), (.var 2)]) (.lit (.int 0))), .asg 4 (.call 7 [(.var 0), (.var 2)]), .asg 5 (.slc (.var 0) (some (.var 4)) (some (.bin .Add (.var 4) (.lit (.int 1))))), .ife (.orL [(.cmp .Eq (.var 5) (.lit (.str [33]))), (.andL [(.cmp .Eq (.var 5) (.lit (.str [37]))), (.var 3), (.cmp .Eq (.var 4) (.var 2))])]) [.aug 4 .Add (.lit (.int 1))] [], .ret (.tup [(.tup [(.lit (.str [110, 117, 109, 98, 101, 114])), (.call 4 [(.slc (.var 0) (some (.var 1)) (some (.var 4)))])]), (.var 4)])]
noncomputable def b_name_end : List MS := [.whl (.andL [(.cmp .Lt (.var 1) (.bi 0 [(.var 0)])), (.orL [(.call 0 [(.idx (.var 0) (.var 1))]), (.call 1 [(.idx (.var 0) (.var 1))]), (.cmp .Eq (.idx (.var 0) (.var 1)) (.lit (.str [46])))])]) [.aug 1 .Add (.lit (.int 1))], .ret (.ite (.andL [(.cmp .In (.slc (.var 0) (some (.var 1)) (some (.bin .Add (.var 1) (.lit (.int 1))))) (.tup [(.lit (.str [37])), (.lit (.str [36])), (.lit (.str [33]))])), (.cmp .NotEq (.slc (.var 0) (some (.var 1)) (some (.bin .Add (.var 1) (.lit (.int 1))))) (.lit (.str [])))]) (.bin .Add (.var 1) (.lit (.int 1))) (.var 1))]
noncomputable def b_remark_of : List MS := [.ret (.ite (.cmp .Eq (.slc (.var 0) none (some (.lit (.int 1)))) (.lit (.str [32]))) (.slc (.var 0) (some (.lit (.int 1))) none) (.var 0))]
noncomputable def b_word_at : List MS := [.asg 2 (.call 9 [(.var 0), (.var 1)]), .asg 3 (.call 4 [(.slc (.var 0) (some (.var 1)) (some (.var 2)))]), .ife (.cmp .Eq (.var 3) (.lit (.str [82, 69, 77]))) [.ret (.tup [(.lstF [(.tup [(.lit (.str [114, 101, 109])), (.call 10 [(.slc (.var 0) (some (.var 2)) none)])])]), (.bi 0 [(.var 0)])])] [], .ife (.cmp .Eq (.var 3) (.lit (.str [68, 65, 84, 65]))) [.asg 4 .bad, .ret (.tup [(.lstF [(.tup [(.lit (.str [119, 111, 114, 100])), (.var 3)]), (.tup [(.lit (.str [114, 97, 119])), .bad])]), (.var 4)])] [], .ret (.tup [(.lstF [(.tup [(.ite (.call 3 [(.var 3)]) (.lit (.str [119, 111, 114, 100])) (.lit (.str [110, 97, 109, 101]))), (.var 3)])]), (.var 2)])]
noncomputable def b_tokens_at : List MS := [.asg 2 (.idx (.var 0) (.var 1)), .ife (.orL [(.call 1 [(.var 2)]), (.andL [(.cmp .Eq (.var 2) (.lit (.str [46]))), (.call 1 [(.slc (.var 0) (some (.bin .Add (.var 1) (.lit (.int 1)))) (some (.bin .Add (.var 1) (.lit (.int 2)))))])])]) [.asgT [3, 4] (.call 8 [(.var 0), (.var 1)]), .ret (.tup [(.lstF [(.var 3)]), (.var 4)])] [], .ife (.call 0 [(.var 2)]) [.ret (.call 11 [(.var 0), (.var 1)])] [], .ife (.cmp .Eq (.var 2) (.lit (.str [34]))) [.asgT [3, 4] .bad, .ret (.tup [(.lstF [(.var 3)]), (.var 4)])] [], .ife (.cmp .In (.var 2) (.gl 3)) [.asgT [3, 4] .bad, .ret (.tup [(.lstF [(.var 3)]), (.var 4)])] [], .ife (.cmp .Eq (.var 2) (.lit (.str [63]))) [.ret (.tup [(.lstF [(.tup [(.lit (.str [119, 111, 114, 100])), (.lit (.str [80, 82, 73, 78, 84]))])]), (.bin .Add (.var 1) (.lit (.int 1)))])] [], .ife (.cmp .Eq (.var 2) (.lit (.str [39]))) [.ret (.tup [(.lstF [(.tup [(.lit (.str [114, 101, 109])), (.call 10 [(.slc (.var 0) (some (.bin .Add (.var 1) (.lit (.int 1)))) none)])])]), (.bi 0 [(.var 0)])])] [], .ife (.cmp .In (.var 2) (.gl 2)) [.ret (.tup [(.lstF [(.tup [(.lit (.str [115, 105, 103, 110])), (.var 2)])]), (.bin .Add (.var 1) (.lit (.int 1)))])] [], .raise (.lit (.str [83, 78])) [(.var 1)]]
noncomputable def b_tokens_of : List MS := [.ife (.cmp .Gt (.bi 0 [(.var 0)]) (.gl 0)) [.raise (.lit (.str [83, 78])) [(.gl 0)]] [], .asgT [1, 2] (.tup [(.lstM []), (.call 6 [(.var 0), (.lit (.int 0))])]), .whl (.cmp .Lt (.var 2) (.bi 0 [(.var 0)])) [.asgT [3, 2] (.call 12 [(.var 0), (.var 2)]), .expr (.ext (.var 1) (.var 3)), .asg 2 (.call 6 [(.var 0), (.var 2)])], .ret (.var 1)]
noncomputable def b_token_at : List MS := [.ret (.ite (.cmp .Lt (.var 1) (.bi 0 [(.var 0)])) (.idx (.var 0) (.var 1)) (.gl 11))]
noncomputable def b_is_sign : List MS := [.ret (.cmp .Eq (.call 14 [(.var 0), (.var 1)]) (.tup [(.lit (.str [115, 105, 103, 110])), (.var 2)]))]
noncomputable def b_expect : List MS := [.ife (.not (.call 15 [(.var 0), (.var 1), (.var 2)])) [.raise (.lit (.str [83, 78])) [(.var 1)]] [], .ret (.bin .Add (.var 1) (.lit (.int 1)))]
noncomputable def b_figures_at : List MS := [.asgT [2, 3] (.tup [(.lit (.int 0)), (.var 1)]), .whl (.andL [(.cmp .Lt (.var 1) (.bi 0 [(.var 0)])), (.cmp2 .LtE .LtE (.lit (.str [48])) (.idx (.var 0) (.var 1)) (.lit (.str [57])))]) [.asg 2 (.bin .Sub (.bin .Add (.bin .Mult (.var 2) (.lit (.int 10))) (.bi 1 [(.idx (.var 0) (.var 1))])) (.lit (.int 48))), .aug 1 .Add (.lit (.int 1)), .ife (.cmp .Gt (.bin .Sub (.var 1) (.var 3)) (.gl 12)) [.raise (.lit (.str [79, 86])) []] []], .ret (.tup [(.var 2), (.bin .Sub (.var 1) (.var 3)), (.var 1)])]
noncomputable def b_power_at : List MS := [.ife (.cmp .NotIn (.slc (.var 0) (some (.var 1)) (some (.bin .Add (.var 1) (.lit (.int 1))))) (.tup [(.lit (.str [69])), (.lit (.str [68]))])) [.ret (.tup [(.lit (.int 0)), (.var 1)])] [], .asg 2 (.slc (.var 0) (some (.bin .Add (.var 1) (.lit (.int 1)))) (some (.bin .Add (.var 1) (.lit (.int 2))))), .asgT [3, 4, 5] (.call 17 [(.var 0), (.ite (.cmp .In (.var 2) (.tup [(.lit (.str [43])), (.lit (.str [45]))])) (.bin .Add (.var 1) (.lit (.int 2))) (.bin .Add (.var 1) (.lit (.int 1))))]), .ife (.cmp .Gt (.var 3) .bad) [.raise (.lit (.str [79, 86])) []] [], .ret (.tup [(.ite (.cmp .Eq (.var 2) (.lit (.str [45]))) (.neg (.var 3)) (.var 3)), (.var 5)])]
noncomputable def b_number_tree : List MS := [.asgT [1, 2, 3] (.call 17 [(.var 0), (.lit (.int 0))]), .ife (.cmp .In (.slc (.var 0) (some (.var 3)) none) (.tup [(.lit (.str [])), (.lit (.str [37]))])) [.ret (.tup [(.lit (.str [119, 104, 111, 108, 101])), (.var 1)])] [], .asgT [4, 5] (.tup [(.lit (.int 0)), (.lit (.int 0))]), .ife (.cmp .Eq (.slc (.var 0) (some (.var 3)) (some (.bin .Add (.var 3) (.lit (.int 1))))) (.lit (.str [46]))) [.asgT [4, 5, 3] (.call 17 [(.var 0), (.bin .Add (.var 3) (.lit (.int 1)))])] [], .asgT [6, 3] (.call 18 [(.var 0), (.var 3)]), .ret (.tup [(.lit (.str [100, 101, 99, 105, 109, 97, 108])), .bad])]
noncomputable def b_join_up : List MS := [.whl (.andL [(.cmp .Gt (.bi 0 [(.attr (.var 0) 4)]) (.lit (.int 0))), (.cmp .GtE (.idx (.idx (.attr (.var 0) 4) (.neg (.lit (.int 1)))) (.lit (.int 1))) (.var 1))]) [.asg 2 (.idx (.pop (.attr (.var 0) 4)) (.lit (.int 0))), .asg 3 (.pop (.attr (.var 0) 3)), .ife (.orL [(.cmp .Eq (.var 2) (.lit (.str [110, 101, 103]))), (.cmp .Eq (.var 2) (.lit (.str [110, 111, 116])))]) [.expr (.app (.attr (.var 0) 3) (.tup [(.var 2), (.var 3)]))] [.expr (.app (.attr (.var 0) 3) (.tup [(.lit (.str [116, 119, 111])), (.var 2), (.pop (.attr (.var 0) 3)), (.var 3)]))]]]
noncomputable def b_finished : List MS := [.expr (.call 20 [(.var 0), (.lit (.int 0))]), .asg 1 (.pop (.attr (.var 0) 3)), .ife (.cmp .In (.attr (.var 0) 0) (.tup [(.lit (.str [116, 111, 112])), (.lit (.str [103, 114, 111, 117, 112]))])) [.ret (.var 1)] [], .ret (.tup [(.attr (.var 0) 0), (.attr (.var 0) 1), (.bin .Add (.attr (.var 0) 2) (.lstF [(.var 1)]))])]
noncomputable def b_opened : List MS := [.ife (.cmp .Gt (.bi 0 [(.var 0)]) (.gl 9)) [.raise (.lit (.str [83, 84])) [(.lit (.str [112, 97, 114, 101, 110, 116, 104, 101, 115, 101, 115]))]] [], .expr (.app (.var 0) (.mk [(.var 1), (.var 2)]))]
noncomputable def b_plain_operand : List MS := [.asgT [2, 3] (.call 14 [(.var 0), (.var 1)]), .ife (.cmp .Eq (.var 2) (.lit (.str [110, 117, 109, 98, 101, 114]))) [.ret (.call 19 [(.var 3)])] [], .ife (.cmp .Eq (.var 2) (.lit (.str [116, 101, 120, 116]))) [.ret (.tup [(.var 2), (.var 3)])] [], .ife (.call 15 [(.var 0), (.bin .Add (.var 1) (.lit (.int 1))), (.lit (.str [40]))]) [.ret (.lit .none)] [], .ife (.cmp .Eq (.var 2) (.lit (.str [110, 97, 109, 101]))) [.ret (.ite (.cmp .Eq (.slc (.var 3) none (some (.lit (.int 2)))) (.lit (.str [70, 78]))) (.tup [(.lit (.str [102, 110])), (.var 3), (.lstF [])]) (.tup [(.lit (.str [110, 97, 109, 101])), (.var 3)]))] [], .ret (.ite (.andL [(.cmp .Eq (.var 2) (.lit (.str [119, 111, 114, 100]))), (.cmp .In (.var 3) (.gl 10))]) (.tup [(.lit (.str [99, 97, 108, 108])), (.var 3), (.lstF [])]) (.lit .none))]
noncomputable def b_take_operand : List MS := [.asgT [5, 6] (.call 14 [(.var 1), (.var 2)]), .asg 4 (.call 23 [(.var 1), (.var 2)]), .ife (.cmp .IsNot (.var 4) (.lit .none)) [.expr (.app (.attr (.idx (.var 0) (.neg (.lit (.int 1)))) 3) (.var 4)), .ret (.tup [(.bin .Add (.var 2) (.lit (.int 1))), (.lit (.bool true))])] [], .ife (.andL [(.cmp .Eq (.var 5) (.lit (.str [115, 105, 103, 110]))), (.cmp .Eq (.var 6) (.lit (.str [45])))]) [.expr (.app (.attr (.idx (.var 0) (.neg (.lit (.int 1)))) 4) (.tup [(.lit (.str [110, 101, 103])), (.gl 8)]))] [.ife (.andL [(.cmp .Eq (.var 5) (.lit (.str [119, 111, 114, 100]))), (.cmp .Eq (.var 6) (.lit (.str [78, 79, 84])))]) [.expr (.app (.attr (.idx (.var 0) (.neg (.lit (.int 1)))) 4) (.tup [(.lit (.str [110, 111, 116])), (.gl 7)]))] [.ife (.andL [(.cmp .Eq (.var 5) (.lit (.str [115, 105, 103, 110]))), (.cmp .Eq (.var 6) (.lit (.str [40])))]) [.expr (.call 22 [(.var 0), (.lit (.str [103, 114, 111, 117, 112])), (.lit (.str []))])] [.ife (.orL [(.cmp .Eq (.var 5) (.lit (.str [110, 97, 109, 101]))), (.andL [(.cmp .Eq (.var 5) (.lit (.str [119, 111, 114, 100]))), (.cmp .In (.var 6) (.var 3))])]) [.asg 2 (.bin .Sub (.call 16 [(.var 1), (.bin .Add (.var 2) (.lit (.int 1))), (.lit (.str [40]))]) (.lit (.int 1))), .expr (.call 22 [(.var 0), (.ite (.cmp .Eq (.var 5) (.lit (.str [119, 111, 114, 100]))) (.lit (.str [99, 97, 108, 108])) (.ite (.cmp .Eq (.slc (.var 6) none (some (.lit (.int 2)))) (.lit (.str [70, 78]))) (.lit (.str [102, 110])) (.lit (.str [105, 116, 101, 109])))), (.var 6)])] [.ife (.orL [(.cmp .NotEq (.var 5) (.lit (.str [115, 105, 103, 110]))), (.cmp .NotEq (.var 6) (.lit (.str [43])))]) [.raise (.lit (.str [83, 78])) [(.var 2)]] []]]]], .ret (.tup [(.bin .Add (.var 2) (.lit (.int 1))), (.lit (.bool false))])]
noncomputable def b_take_operator : List MS := [.asgT [4, 5] (.call 14 [(.var 1), (.var 2)]), .asg 3 (.idx (.var 0) (.neg (.lit (.int 1)))), .ife (.andL [(.cmp .In (.var 4) (.tup [(.lit (.str [115, 105, 103, 110])), (.lit (.str [119, 111, 114, 100]))])), (.cmp .In (.var 5) (.gl 6))]) [.expr (.call 20 [(.var 3), (.idx (.gl 6) (.var 5))]), .expr (.app (.attr (.var 3) 4) (.tup [(.var 5), (.idx (.gl 6) (.var 5))])), .ret (.tup [(.bin .Add (.var 2) (.lit (.int 1))), (.lit (.str [111, 112, 101, 114, 97, 110, 100]))])] [], .ife (.cmp .Eq (.attr (.var 3) 0) (.lit (.str [116, 111, 112]))) [.ret (.tup [(.var 2), (.lit (.str [101, 110, 100]))])] [], .ife (.andL [(.cmp .Eq (.var 4) (.lit (.str [115, 105, 103, 110]))), (.cmp .Eq (.var 5) (.lit (.str [44]))), (.cmp .NotEq (.attr (.var 3) 0) (.lit (.str [103, 114, 111, 117, 112])))]) [.expr (.call 20 [(.var 3), (.lit (.int 0))]), .expr (.app (.attr (.var 3) 2) (.pop (.attr (.var 3) 3))), .ret (.tup [(.bin .Add (.var 2) (.lit (.int 1))), (.lit (.str [111, 112, 101, 114, 97, 110, 100]))])] [], .asg 2 (.call 16 [(.var 1), (.var 2), (.lit (.str [41]))]), .expr (.pop (.var 0)), .expr (.app (.attr (.idx (.var 0) (.neg (.lit (.int 1)))) 3) (.call 21 [(.var 3)])), .ret (.tup [(.var 2), (.lit (.str [111, 112, 101, 114, 97, 116, 111, 114]))])]
noncomputable def b_expression : List MS := [.asgT [2, 3, 4] (.tup [(.lstM [(.mk [(.lit (.str [116, 111, 112])), (.lit (.str []))])]), (.lit (.str [111, 112, 101, 114, 97, 110, 100])), (.call 2 [])]), .whl (.cmp .NotEq (.var 3) (.lit (.str [101, 110, 100]))) [.ife (.cmp .Eq (.var 3) (.lit (.str [111, 112, 101, 114, 97, 110, 100]))) [.asgT [1, 5] (.call 24 [(.var 2), (.var 0), (.var 1), (.var 4)]), .asg 3 (.ite (.var 5) (.lit (.str [111, 112, 101, 114, 97, 116, 111, 114])) (.lit (.str [111, 112, 101, 114, 97, 110, 100])))] [.asgT [1, 3] (.call 25 [(.var 2), (.var 0), (.var 1)])]], .ret (.tup [(.call 21 [(.idx (.var 2) (.lit (.int 0)))]), (.var 1)])]
noncomputable def b_is_end : List MS := [.asgT [2, 3] (.call 14 [(.var 0), (.var 1)]), .ret (.orL [(.cmp .In (.var 2) (.tup [(.lit (.str [101, 110, 100])), (.lit (.str [114, 101, 109]))])), (.andL [(.cmp .Eq (.var 2) (.lit (.str [115, 105, 103, 110]))), (.cmp .Eq (.var 3) (.lit (.str [58])))]), (.andL [(.cmp .Eq (.var 2) (.lit (.str [119, 111, 114, 100]))), (.cmp .Eq (.var 3) (.lit (.str [69, 76, 83, 69])))])])]
noncomputable def b_plain_name : List MS := [.asgT [2, 3] (.call 14 [(.var 0), (.var 1)]), .ife (.orL [(.cmp .NotEq (.var 2) (.lit (.str [110, 97, 109, 101]))), (.cmp .Eq (.slc (.var 3) none (some (.lit (.int 2)))) (.lit (.str [70, 78])))]) [.raise (.lit (.str [83, 78])) [(.var 1)]] [], .ret (.tup [(.var 3), (.bin .Add (.var 1) (.lit (.int 1)))])]
noncomputable def b_plain_names : List MS := [.asgT [3, 1] (.call 28 [(.var 0), (.var 1)]), .asg 2 (.lstM [(.var 3)]), .whl (.call 15 [(.var 0), (.var 1), (.lit (.str [44]))]) [.asgT [3, 1] (.call 28 [(.var 0), (.bin .Add (.var 1) (.lit (.int 1)))]), .expr (.app (.var 2) (.var 3))], .ret (.tup [(.var 2), (.var 1)])]
noncomputable def b_numbered_channel : List MS := [.ret (.call 26 [(.var 0), (.ite (.call 15 [(.var 0), (.var 1), (.lit (.str [35]))]) (.bin .Add (.var 1) (.lit (.int 1))) (.var 1))])]
noncomputable def b_read_close : List MS := [.ife (.call 27 [(.var 0), (.var 1)]) [.ret (.tup [(.tup [(.lit (.str [67, 76, 79, 83, 69])), (.lstF [])]), (.var 1)])] [], .asgT [3, 1] (.call 30 [(.var 0), (.var 1)]), .asg 2 (.lstM [(.var 3)]), .whl (.call 15 [(.var 0), (.var 1), (.lit (.str [44]))]) [.asgT [3, 1] (.call 30 [(.var 0), (.bin .Add (.var 1) (.lit (.int 1)))]), .expr (.app (.var 2) (.var 3))], .ret (.tup [(.tup [(.lit (.str [67, 76, 79, 83, 69])), (.var 2)]), (.var 1)])]
noncomputable def b_read_common : List MS := [.asg 2 (.lstM []), .whl (.lit (.bool true)) [.asgT [3, 1] (.call 28 [(.var 0), (.var 1)]), .ife (.call 15 [(.var 0), (.var 1), (.lit (.str [40]))]) [.asgT [3, 1] (.tup [(.bin .Add (.var 3) (.lit (.str [40, 41]))), (.call 16 [(.var 0), (.bin .Add (.var 1) (.lit (.int 1))), (.lit (.str [41]))])])] [], .expr (.app (.var 2) (.var 3)), .ife (.not (.call 15 [(.var 0), (.var 1), (.lit (.str [44]))])) [.ret (.tup [(.tup [(.lit (.str [67, 79, 77, 77, 79, 78])), (.var 2)]), (.var 1)])] [], .aug 1 .Add (.lit (.int 1))]]
noncomputable def b_read_erase : List MS := [.asgT [2, 1] (.call 29 [(.var 0), (.var 1)]), .ret (.tup [(.tup [(.lit (.str [69, 82, 65, 83, 69])), (.var 2)]), (.var 1)])]
noncomputable def b_letter_at : List MS := [.asgT [2, 1] (.call 28 [(.var 0), (.var 1)]), .ife (.cmp .NotEq (.bi 0 [(.var 2)]) (.lit (.int 1))) [.raise (.lit (.str [83, 78])) [(.bin .Sub (.var 1) (.lit (.int 1)))]] [], .ret (.tup [(.var 2), (.var 1)])]
noncomputable def b_read_kinds : List MS := [.asg 3 (.lstM []), .whl (.lit (.bool true)) [.asgT [5, 1] (.call 34 [(.var 0), (.var 1)]), .asg 4 (.var 5), .ife (.call 15 [(.var 0), (.var 1), (.lit (.str [45]))]) [.asgT [4, 1] (.call 34 [(.var 0), (.bin .Add (.var 1) (.lit (.int 1)))])] [], .ife (.cmp .Lt (.var 4) (.var 5)) [.raise (.lit (.str [83, 78])) [(.bin .Sub (.var 1) (.lit (.int 1)))]] [], .expr (.ext (.var 3) (.chrs (.bi 1 [(.var 5)]) (.bin .Add (.bi 1 [(.var 4)]) (.lit (.int 1))))), .ife (.not (.call 15 [(.var 0), (.var 1), (.lit (.str [44]))])) [.ret (.tup [(.tup [(.lit (.str [68, 69, 70, 75, 73, 78, 68])), (.var 2), (.var 3)]), (.var 1)])] [], .aug 1 .Add (.lit (.int 1))]]
noncomputable def b_law_next : List MS := [.augJ 0 (1), .asg 2 (.idx (.var 0) (.lit (.str [99, 111, 117, 110, 116]))), .ife (.cmp .LtE (.var 2) (.bi 0 [(.idx (.var 0) (.lit (.str [99, 101, 108, 108, 115])))])) [.ret (.bin .Mod (.bi 3 [(.idx (.idx (.var 0) (.lit (.str [99, 101, 108, 108, 115]))) (.bin .Sub (.var 2) (.lit (.int 1))))]) (.var 1))] [], .ret (.bin .Mod (.bin .Add (.bin .Add (.bin .Mult (.lit (.int 3)) (.var 2)) (.bin .FloorDiv (.var 2) (.lit (.int 4)))) (.lit (.int 2))) (.var 1))]
noncomputable def b_law_pieces : List MS := [.ife (.cmp .Eq (.var 0) (.lit (.int 0))) [.asg 2 (.tup [(.lit (.str [116, 119, 111])), (.lit (.str [43])), (.tup [(.lit (.str [110, 97, 109, 101])), (.lit (.str [65]))]), (.tup [(.lit (.str [119, 104, 111, 108, 101])), (.lit (.int 1))])]), .ret (.lstF [(.tup [(.lit (.str [49])), (.lstF [(.tup [(.lit (.str [119, 104, 111, 108, 101])), (.lit (.int 1))])])]), (.tup [(.lit (.str [35, 50])), (.lstF [(.tup [(.lit (.str [119, 104, 111, 108, 101])), (.lit (.int 2))])])]), (.tup [(.lit (.str [65])), (.lstF [(.tup [(.lit (.str [110, 97, 109, 101])), (.lit (.str [65]))])])]), (.tup [(.lit (.str [35, 32, 66, 37])), (.lstF [(.tup [(.lit (.str [110, 97, 109, 101])), (.lit (.str [66, 37]))])])]), (.tup [(.lit (.str [65, 43, 49])), (.lstF [(.var 2)])]), (.tup [(.lit (.str [35, 40, 67, 41])), (.lstF [(.tup [(.lit (.str [110, 97, 109, 101])), (.lit (.str [67]))])])]), (.tup [(.lit (.str [35])), (.lit .none)]), (.tup [(.lit (.str [68, 40, 51, 41])), (.lstF [(.tup [(.lit (.str [105, 116, 101, 109])), (.lit (.str [68])), (.lstF [(.tup [(.lit (.str [119, 104, 111, 108, 101])), (.lit (.int 3))])])])])])])] [], .ife (.cmp .Eq (.var 0) (.lit (.int 1))) [.ret (.lstF [(.tup [(.lit (.str [65])), (.lstF [(.lit (.str [65]))])]), (.tup [(.lit (.str [67, 45, 69])), (.lstF [(.lit (.str [67])), (.lit (.str [68])), (.lit (.str [69]))])]), (.tup [(.lit (.str [90, 45, 90])), (.lstF [(.lit (.str [90]))])]), (.tup [(.lit (.str [88, 45, 87])), (.lit .none)]), (.tup [(.lit (.str [65, 66])), (.lit .none)]), (.tup [(.lit (.str [109, 45, 110])), (.lstF [(.lit (.str [77])), (.lit (.str [78]))])]), (.tup [(.lit (.str [65, 37])), (.lit .none)]), (.tup [(.lit (.str [81])), (.lstF [(.lit (.str [81]))])])])] [], .asg 1 (.lstF [(.tup [(.lit (.str [65])), (.lstF [(.lit (.str [65]))])]), (.tup [(.lit (.str [66, 36])), (.lstF [(.lit (.str [66, 36]))])]), (.tup [(.lit (.str [67, 50, 37])), (.lstF [(.lit (.str [67, 50, 37]))])]), (.tup [(.lit (.str [70, 78, 65])), (.lit .none)]), (.tup [(.lit (.str [100])), (.lstF [(.lit (.str [68]))])]), (.tup [(.lit (.str [55])), (.lit .none)]), (.tup [(.lit (.str [88, 33])), (.lstF [(.lit (.str [88, 33]))])])]), .ret (.bin .Add (.var 1) (.lstF [(.ite (.cmp .Eq (.var 0) (.lit (.int 2))) (.tup [(.lit (.str [69, 36, 40, 41])), (.lstF [(.lit (.str [69, 36, 40, 41]))])]) (.tup [(.lit (.str [80, 82, 73, 78, 84])), (.lit .none)]))]))]
noncomputable def b_law_list : List MS := [.asgT [3, 4, 5] (.tup [(.lit (.str [])), (.lstF []), (.lit (.bool true))]), .asgT [6, 7] (.tup [(.call 36 [(.var 0), (.lit (.int 5))]), (.call 36 [(.var 0), (.lit (.int 6))])]), .forR 2 (.var 6) [.asgT [8, 9] (.idx (.call 37 [(.var 1)]) (.call 36 [(.var 0), (.lit (.int 8))])), .asg 3 (.bin .Add (.bin .Add (.var 3) (.ite (.cmp .Eq (.var 2) (.lit (.int 0))) (.lit (.str [])) (.ite (.cmp .Eq (.var 7) (.lit (.int 2))) (.lit (.str [44, 44, 32])) (.lit (.str [32, 44]))))) (.var 8)), .asg 5 (.andL [(.var 5), (.cmp .IsNot (.var 9) (.lit .none)), (.orL [(.cmp .NotEq (.var 7) (.lit (.int 2))), (.cmp .Eq (.var 2) (.lit (.int 0)))])]), .asg 4 (.bin .Add (.var 4) (.ite (.cmp .IsNot (.var 9) (.lit .none)) (.var 9) (.lstF [])))], .ife (.cmp .Eq (.var 7) (.lit (.int 1))) [.asgT [3, 5] (.tup [(.bin .Add (.var 3) (.lit (.str [44]))), (.lit (.bool false))])] [], .ret (.tup [(.var 3), (.ite (.andL [(.var 5), (.orL [(.cmp .Gt (.var 6) (.lit (.int 0))), (.cmp .Eq (.var 1) (.lit (.int 0)))])]) (.var 4) (.lit .none))])]
noncomputable def b_law_heard : List MS := [.tryC [.ife (.cmp .Eq (.var 0) (.lit (.int 0))) [.ret (.call 31 [(.var 1), (.lit (.int 0))])] [], .ife (.cmp .Eq (.var 0) (.lit (.int 1))) [.ret (.call 35 [(.var 1), (.lit (.int 0)), (.lit (.str [119, 104, 111, 108, 101]))])] [], .ret (.ite (.cmp .Eq (.var 0) (.lit (.int 2))) (.call 32 [(.var 1), (.lit (.int 0))]) (.call 33 [(.var 1), (.lit (.int 0))]))]]
noncomputable def b_law : List MS := [.asg 1 (.jug 0 40), .forR 2 (.bin .Add (.lit (.int 1)) (.call 36 [(.var 1), (.lit (.int 4))])) [.asg 3 (.call 36 [(.var 1), (.lit (.int 4))]), .asgT [6, 7] (.call 38 [(.var 1), (.var 3)]), .asg 4 (.idx (.lstF [(.lit (.str [])), (.lit (.str [58, 80, 82, 73, 78, 84])), (.lit (.str [32, 69, 76, 83, 69, 32, 55])), (.lit (.str [32, 82, 69, 77, 32, 120])), (.lit (.str [32, 39, 121]))]) (.call 36 [(.var 1), (.lit (.int 5))])), .asg 5 (.lit (.str [83, 78])), .ife (.cmp .IsNot (.var 7) (.lit .none)) [.asg 8 (.idx (.lstF [(.lit (.str [67, 76, 79, 83, 69])), (.lit (.str [68, 69, 70, 75, 73, 78, 68])), (.lit (.str [67, 79, 77, 77, 79, 78])), (.lit (.str [69, 82, 65, 83, 69]))]) (.var 3)), .asg 5 (.tup [(.ite (.cmp .Eq (.var 3) (.lit (.int 1))) (.tup [(.lit (.str [68, 69, 70, 75, 73, 78, 68])), (.lit (.str [119, 104, 111, 108, 101])), (.var 7)]) (.tup [(.var 8), (.var 7)])), (.bi 0 [(.call 13 [(.var 6)])])])] [], .ife (.cmp .NotEq (.call 39 [(.var 3), (.call 13 [(.bin .Add (.var 6) (.var 4))])]) (.var 5)) [.ret (.lit (.bool false))] []], .ret (.lit (.bool true))]
noncomputable def fnTab : List FD := [
  ⟨Str.ofString "is_letter", 1, [Str.ofString "sign"], b_is_letter⟩,
  ⟨Str.ofString "is_figure", 1, [Str.ofString "sign"], b_is_figure⟩,
  ⟨Str.ofString "functions", 0, [], b_functions⟩,
  ⟨Str.ofString "is_word", 1, [Str.ofString "told"], b_is_word⟩,
  ⟨Str.ofString "capital", 1, [Str.ofString "text"], b_capital⟩,
  ⟨Str.ofString "figures_end", 2, [Str.ofString "row", Str.ofString "at"], b_figures_end⟩,
  ⟨Str.ofString "skipped", 2, [Str.ofString "row", Str.ofString "at"], b_skipped⟩,
  ⟨Str.ofString "power_end", 2, [Str.ofString "row", Str.ofString "at", Str.ofString "begin", Str.ofString "end"], b_power_end⟩,
  ⟨Str.ofString "number_at", 2, [Str.ofString "row", Str.ofString "at", Str.ofString "end", Str.ofString "is_plain", Str.ofString "behind", Str.ofString "last"], b_number_at⟩,
  ⟨Str.ofString "name_end", 2, [Str.ofString "row", Str.ofString "at"], b_name_end⟩,
  ⟨Str.ofString "remark_of", 1, [Str.ofString "text"], b_remark_of⟩,
  ⟨Str.ofString "word_at", 2, [Str.ofString "row", Str.ofString "at", Str.ofString "end", Str.ofString "told", Str.ofString "last"], b_word_at⟩,
  ⟨Str.ofString "tokens_at", 2, [Str.ofString "row", Str.ofString "at", Str.ofString "sign", Str.ofString "told", Str.ofString "end"], b_tokens_at⟩,
  ⟨Str.ofString "tokens_of", 1, [Str.ofString "row", Str.ofString "found", Str.ofString "at", Str.ofString "told"], b_tokens_of⟩,
  ⟨Str.ofString "token_at", 2, [Str.ofString "tokens", Str.ofString "at"], b_token_at⟩,
  ⟨Str.ofString "is_sign", 3, [Str.ofString "tokens", Str.ofString "at", Str.ofString "sign"], b_is_sign⟩,
  ⟨Str.ofString "expect", 3, [Str.ofString "tokens", Str.ofString "at", Str.ofString "sign"], b_expect⟩,
  ⟨Str.ofString "figures_at", 2, [Str.ofString "text", Str.ofString "at", Str.ofString "found", Str.ofString "begin"], b_figures_at⟩,
  ⟨Str.ofString "power_at", 2, [Str.ofString "text", Str.ofString "at", Str.ofString "sign", Str.ofString "found", Str.ofString "many", Str.ofString "end"], b_power_at⟩,
  ⟨Str.ofString "number_tree", 1, [Str.ofString "text", Str.ofString "front", Str.ofString "many", Str.ofString "at", Str.ofString "behind", Str.ofString "places", Str.ofString "power"], b_number_tree⟩,
  ⟨Str.ofString "join_up", 2, [Str.ofString "level", Str.ofString "strength", Str.ofString "op", Str.ofString "last"], b_join_up⟩,
  ⟨Str.ofString "finished", 1, [Str.ofString "level", Str.ofString "last"], b_finished⟩,
  ⟨Str.ofString "opened", 3, [Str.ofString "levels", Str.ofString "kind", Str.ofString "word"], b_opened⟩,
  ⟨Str.ofString "plain_operand", 2, [Str.ofString "tokens", Str.ofString "at", Str.ofString "kind", Str.ofString "told"], b_plain_operand⟩,
  ⟨Str.ofString "take_operand", 4, [Str.ofString "levels", Str.ofString "tokens", Str.ofString "at", Str.ofString "known", Str.ofString "found", Str.ofString "kind", Str.ofString "told"], b_take_operand⟩,
  ⟨Str.ofString "take_operator", 3, [Str.ofString "levels", Str.ofString "tokens", Str.ofString "at", Str.ofString "here", Str.ofString "kind", Str.ofString "told"], b_take_operator⟩,
  ⟨Str.ofString "expression", 2, [Str.ofString "tokens", Str.ofString "at", Str.ofString "levels", Str.ofString "due", Str.ofString "known", Str.ofString "is_whole"], b_expression⟩,
  ⟨Str.ofString "is_end", 2, [Str.ofString "tokens", Str.ofString "at", Str.ofString "kind", Str.ofString "told"], b_is_end⟩,
  ⟨Str.ofString "plain_name", 2, [Str.ofString "tokens", Str.ofString "at", Str.ofString "kind", Str.ofString "told"], b_plain_name⟩,
  ⟨Str.ofString "plain_names", 2, [Str.ofString "tokens", Str.ofString "at", Str.ofString "some", Str.ofString "found"], b_plain_names⟩,
  ⟨Str.ofString "numbered_channel", 2, [Str.ofString "tokens", Str.ofString "at"], b_numbered_channel⟩,
  ⟨Str.ofString "read_close", 2, [Str.ofString "tokens", Str.ofString "at", Str.ofString "some", Str.ofString "found"], b_read_close⟩,
  ⟨Str.ofString "read_common", 2, [Str.ofString "tokens", Str.ofString "at", Str.ofString "some", Str.ofString "name"], b_read_common⟩,
  ⟨Str.ofString "read_erase", 2, [Str.ofString "tokens", Str.ofString "at", Str.ofString "names"], b_read_erase⟩,
  ⟨Str.ofString "letter_at", 2, [Str.ofString "tokens", Str.ofString "at", Str.ofString "name"], b_letter_at⟩,
  ⟨Str.ofString "read_kinds", 3, [Str.ofString "tokens", Str.ofString "at", Str.ofString "kind", Str.ofString "letters", Str.ofString "last", Str.ofString "first"], b_read_kinds⟩,
  ⟨Str.ofString "_law_next", 2, [Str.ofString "jug", Str.ofString "many", Str.ofString "turn"], b_law_next⟩,
  ⟨Str.ofString "_law_pieces", 1, [Str.ofString "form", Str.ofString "names", Str.ofString "total"], b_law_pieces⟩,
  ⟨Str.ofString "_law_list", 2, [Str.ofString "jug", Str.ofString "form", Str.ofString "spot", Str.ofString "text", Str.ofString "found", Str.ofString "is_right", Str.ofString "many", Str.ofString "odd", Str.ofString "told", Str.ofString "gives"], b_law_list⟩,
  ⟨Str.ofString "_law_heard", 2, [Str.ofString "form", Str.ofString "tokens"], b_law_heard⟩,
  ⟨Str.ofString "law", 1, [Str.ofString "script", Str.ofString "jug", Str.ofString "turn", Str.ofString "form", Str.ofString "tail", Str.ofString "due", Str.ofString "text", Str.ofString "found", Str.ofString "word"], b_law⟩]
noncomputable def ctTab : List (Str × V) := [
  (Str.ofString "MOST_SIGNS", (.int 255)),
  (Str.ofString "MOST_FIGURES_tokens", (.int 40)),
  (Str.ofString "SIGNS", (.str [43, 45, 42, 47, 92, 94, 40, 41, 44, 59, 58, 35, 38, 64])),
  (Str.ofString "ORDERS", (.str [60, 61, 62])),
  (Str.ofString "WORDS", (.str [76, 69, 84, 32, 80, 82, 73, 78, 84, 32, 85, 83, 73, 78, 71, 32, 73, 78, 80, 85, 84, 32, 76, 73, 78, 69, 32, 73, 70, 32, 84, 72, 69, 78, 32, 69, 76, 83, 69, 32, 71, 79, 84, 79, 32, 71, 79, 83, 85, 66, 32, 79, 78, 32, 82, 69, 84, 85, 82, 78, 32, 70, 79, 82, 32, 84, 79, 32, 83, 84, 69, 80, 32, 78, 69, 88, 84, 32, 87, 72, 73, 76, 69, 32, 87, 69, 78, 68, 32, 68, 69, 70, 32, 70, 78, 69, 78, 68, 32, 82, 69, 65, 68, 32, 68, 65, 84, 65, 32, 82, 69, 83, 84, 79, 82, 69, 32, 68, 73, 77, 32, 69, 82, 65, 83, 69, 32, 79, 80, 84, 73, 79, 78, 32, 66, 65, 83, 69, 32, 83, 87, 65, 80, 32, 69, 82, 82, 79, 82, 32, 82, 69, 83, 85, 77, 69, 32, 83, 84, 79, 80, 32, 69, 78, 68, 32, 82, 69, 77, 32, 82, 65, 78, 68, 79, 77, 73, 90, 69, 32, 68, 69, 70, 73, 78, 84, 32, 68, 69, 70, 83, 78, 71, 32, 68, 69, 70, 83, 84, 82, 32, 77, 65, 84, 32, 90, 69, 82, 32, 67, 79, 78, 32, 73, 68, 78, 32, 73, 78, 86, 32, 84, 82, 78, 32, 79, 80, 69, 78, 32, 79, 85, 84, 80, 85, 84, 32, 65, 80, 80, 69, 78, 68, 32, 82, 65, 78, 68, 79, 77, 32, 65, 83, 32, 67, 76, 79, 83, 69, 32, 70, 73, 69, 76, 68, 32, 76, 83, 69, 84, 32, 82, 83, 69, 84, 32, 71, 69, 84, 32, 80, 85, 84, 32, 87, 82, 73, 84, 69, 32, 67, 72, 65, 73, 78, 32, 67, 79, 77, 77, 79, 78, 32, 84, 82, 79, 78, 32, 84, 82, 79, 70, 70, 32, 65, 78, 68, 32, 79, 82, 32, 88, 79, 82, 32, 69, 81, 86, 32, 73, 77, 80, 32, 78, 79, 84, 32, 77, 79, 68])),
  (Str.ofString "FUNCTION_WORDS", (.str [65, 66, 83, 32, 65, 83, 67, 32, 67, 72, 82, 36, 32, 67, 73, 78, 84, 32, 67, 83, 78, 71, 32, 67, 86, 73, 32, 67, 86, 83, 32, 69, 68, 73, 84, 36, 32, 69, 79, 70, 32, 69, 82, 76, 32, 69, 82, 82, 32, 70, 73, 88, 32, 70, 82, 69, 32, 72, 69, 88, 36, 32, 73, 78, 83, 84, 82, 32, 73, 78, 84, 32, 76, 67, 65, 83, 69, 36, 32, 76, 69, 70, 84, 36, 32, 76, 69, 78, 32, 76, 79, 67, 32, 76, 79, 70, 32, 76, 80, 79, 83, 32, 76, 84, 82, 73, 77, 36, 32, 77, 65, 88, 32, 77, 73, 68, 36, 32, 77, 73, 78, 32, 77, 75, 73, 36, 32, 77, 75, 83, 36, 32, 79, 67, 84, 36, 32, 80, 73, 32, 80, 79, 83, 32, 82, 73, 71, 72, 84, 36, 32, 82, 78, 68, 32, 82, 84, 82, 73, 77, 36, 32, 83, 69, 71, 36, 32, 83, 71, 78, 32, 83, 80, 65, 67, 69, 36, 32, 83, 80, 67, 32, 83, 81, 82, 32, 83, 84, 82, 36, 32, 83, 84, 82, 73, 78, 71, 36, 32, 83, 87, 65, 80, 37, 32, 84, 65, 66, 32, 85, 67, 65, 83, 69, 36, 32, 86, 65, 76, 32, 88, 76, 65, 84, 69, 36])),
  (Str.ofString "STRENGTH", (.tab [([73, 77, 80], 1), ([69, 81, 86], 2), ([88, 79, 82], 3), ([79, 82], 4), ([65, 78, 68], 5), ([61], 7), ([60, 62], 7), ([60], 7), ([62], 7), ([60, 61], 7), ([62, 61], 7), ([43], 8), ([45], 8), ([77, 79, 68], 9), ([92], 10), ([42], 11), ([47], 11), ([94], 13)])),
  (Str.ofString "NOT_STRENGTH", (.int 6)),
  (Str.ofString "MINUS_STRENGTH", (.int 12)),
  (Str.ofString "MOST_OPEN", (.int 60)),
  (Str.ofString "NO_ARGS", (.tup [(.str [69, 82, 76]), (.str [69, 82, 82]), (.str [70, 82, 69]), (.str [80, 73]), (.str [80, 79, 83]), (.str [82, 78, 68])])),
  (Str.ofString "NO_TOKEN", (.tup [(.str [101, 110, 100]), (.str [])])),
  (Str.ofString "MOST_FIGURES_exprread", (.int 60))]
noncomputable def theTab : Tab := ⟨fnTab, ctTab⟩
noncomputable def lawRun (n : Nat) (ns : List Int) : Option (Except (List Nat) V × Mem) := (run theTab n).C 40 [.lst (ns.map .int)] []
end Mine

end

section
open PySem PySem.W PyProof.Rows
namespace Mine

/-- abstract values: the same value, a position, the row itself, its length, a tuple -/
inductive AV where
  | o (v : V)
  | p (i : Int)
  | k
  | n
  | t (l : List AV)

/-- what is known of the row -/
inductive Win where
  | str (w : List Nat) (fin : Bool)
  | lst (w : List V) (fin : Bool)

structure Re where
  d : Nat
  m : Nat
  kv : V

inductive WR : Win → Re → Prop
  | str {w pre r : List Nat} {fin : Bool} (hl : (pre ++ (w ++ r)).length ≤ 5000) (hf : fin = true → r = []) : WR (.str w fin) ⟨pre.length, (pre ++ (w ++ r)).length, .str (pre ++ (w ++ r))⟩
  | lst {w pre r : List V} {fin : Bool} (hl : (pre ++ (w ++ r)).length ≤ 5000) (hf : fin = true → r = []) (hn : noRefs (pre ++ (w ++ r)) = true) : WR (.lst w fin) ⟨pre.length, (pre ++ (w ++ r)).length, .lst (pre ++ (w ++ r))⟩

mutual
noncomputable def cc (R : Re) : AV → V
  | .o v => v
  | .p i => .int (i + R.d)
  | .k => R.kv
  | .n => .int R.m
  | .t l => .tup (ccs R l)
noncomputable def ccs (R : Re) : List AV → List V
  | [] => []
  | a :: r => cc R a :: ccs R r
end

noncomputable abbrev LocA := List (Option AV)
noncomputable abbrev OutA (β : Type) := Option (Except (List Nat) β × LocA × Mem)
noncomputable def bindA {β γ : Type} (r : OutA β) (f : β → LocA → Mem → OutA γ) : OutA γ := match r with
  | none => none
  | some (.error c, ρ, σ) => some (.error c, ρ, σ)
  | some (.ok b, ρ, σ) => f b ρ σ
noncomputable def retA {β : Type} (ρ : LocA) (σ : Mem) (x : Option β) : OutA β := x.map fun b => (.ok b, ρ, σ)
noncomputable def gl (R : Re) (ρ : LocA) : Loc := ρ.map (Option.map (cc R))
noncomputable def go {β δ : Type} (R : Re) (c : β → δ) (x : Except (List Nat) β × LocA × Mem) : Except (List Nat) δ × Loc × Mem := (x.1.map c, gl R x.2.1, x.2.2)
noncomputable def Le {β δ : Type} (R : Re) (c : β → δ) (a : OutA β) (b : Out δ) : Prop := ∀ x, a = some x → b = some (go R c x)

theorem Le.none {β δ : Type} {R : Re} {c : β → δ} {b : Out δ} : Le R c .none b := fun _ q => nomatch q
theorem Le.ok {β δ : Type} {R : Re} {c : β → δ} {v : β} {ρ : LocA} {σ : Mem} : Le R c (some (.ok v, ρ, σ)) (some (.ok (c v), gl R ρ, σ)) := fun _ q => by cases q; rfl
theorem Le.ret {β δ : Type} {R : Re} {c : β → δ} {x : Option β} {y : Option δ} {ρ : LocA} {σ : Mem} (h : ∀ v, x = some v → y = some (c v)) : Le R c (retA ρ σ x) (retO (gl R ρ) σ y) := by
  intro z e
  cases hx : x with
  | none => rw [hx] at e; cases e
  | some v => rw [hx] at e; cases e; rw [h v hx]; rfl
theorem Le.bind {β δ β' δ' : Type} {R : Re} {c : β → δ} {c' : β' → δ'} {a : OutA β} {b : Out δ} {f : β → LocA → Mem → OutA β'} {g : δ → Loc → Mem → Out δ'}
    (h : Le R c a b) (hf : ∀ v ρ σ, Le R c' (f v ρ σ) (g (c v) (gl R ρ) σ)) : Le R c' (bindA a f) (bindO b g) := by
  intro z e
  match a, h, e with
  | some (.error q, ρ, σ), h, e => rw [h _ rfl]; cases e; rfl
  | some (.ok v, ρ, σ), h, e => rw [h _ rfl]; exact hf v ρ σ z e

noncomputable def unO : AV → Option V
  | .o v => some v
  | _ => none
noncomputable def unOs : List AV → Option (List V)
  | [] => some []
  | a :: r => match unO a, unOs r with
    | some v, some vs => some (v :: vs)
    | _, _ => none
noncomputable def mkT (l : List AV) : AV := match unOs l with
  | some vs => .o (.tup vs)
  | none => .t l
noncomputable def lenW : Win → Nat
  | .str w _ => w.length
  | .lst w _ => w.length
noncomputable def finW : Win → Bool
  | .str _ f => f
  | .lst _ f => f

noncomputable def binA (o : Operator) (σ : Mem) (a b : AV) : Option AV := match a with
  | .o a => (match b with
    | .o b => (opBin o (deref σ a) (deref σ b)).map .o
    | _ => none)
  | .p i => (match b with
    | .o v => onI v fun c => (match o with
      | .Add => some (.p (i + c))
      | .Sub => some (.p (i - c))
      | _ => none)
    | .p j => (match o with
      | .Sub => some (.o (.int (i - j)))
      | _ => none)
    | _ => none)
  | _ => none

noncomputable def sing (u v : V) : Option (Nat × List Nat) := onS u fun s => l1 s fun c => onS v fun b => some (c, b)
noncomputable def opCmpK (o : CmpOp) (u v : V) : Option Bool := match o with
  | .In => match sing u v with
    | some (c, b) => some (b.contains c)
    | none => opCmp .In u v
  | o => opCmp o u v

noncomputable def cmpA (W : Win) (o : CmpOp) (a b : AV) : Option Bool := match a with
  | .o u => (match b with
    | .o v => opCmpK o u v
    | _ => none)
  | .p i => (match b with
    | .p j => (match o with
      | .Lt => some (decide (i < j))
      | .Gt => some (decide (j < i))
      | .Eq => some (i == j)
      | _ => none)
    | .n => (match o with
      | .Lt => if i < lenW W then some true else none
      | _ => none)
    | .o v => onI v fun c => (match o with
      | .Lt => if c ≤ 0 ∧ 0 ≤ i then some false else none
      | _ => none)
    | _ => none)
  | _ => none

noncomputable def truA : AV → Option Bool
  | .o v => truthyV v
  | _ => none

noncomputable def idxK (W : Win) (i : Int) : Option AV := match W with
  | .str w _ => (w[i.toNat]?).map fun c => .o (.str [c])
  | .lst w _ => (w[i.toNat]?).map .o
noncomputable def idxA (W : Win) (a b : AV) (σ : Mem) : Option AV := match a with
  | .o u => (match b with
    | .o v => (idxV u v σ).map .o
    | _ => none)
  | .k => (match b with
    | .p i => if 0 ≤ i then idxK W i else none
    | _ => none)
  | _ => none

noncomputable def bdO : Option AV → Option (Option Int)
  | none => some none
  | some (.o (.int i)) => some (some i)
  | _ => none

noncomputable def slcK (w : List Nat) (fin : Bool) (i : Int) (h : Option AV) : Option AV := match h with
  | some b => (match b with
    | .p j => if 0 ≤ i ∧ i < 50000 ∧ 0 ≤ j ∧ j < 50000 ∧ (j ≤ w.length ∨ fin = true) then some (.o (.str ((w.drop i.toNat).take (j.toNat - i.toNat)))) else none
    | _ => none)
  | none => if 0 ≤ i ∧ i < 50000 ∧ fin = true then some (.o (.str (w.drop i.toNat))) else none
noncomputable def slcA (W : Win) (u : AV) (l h : Option AV) : Option AV := match u with
  | .o v => onS v fun s => oB (bdO l) fun l => oB (bdO h) fun h => if s.length ≤ 100000 then some (.o (.str (slice s l h))) else none
  | .k => (match W with
    | .str w fin => oB l fun a => (match a with
      | .p i => slcK w fin i h
      | _ => none)
    | .lst _ _ => none)
  | _ => none

noncomputable def findK (c : Nat) : List Nat → Nat → Nat → Option Nat
  | [], _, _ => none
  | x :: r, i, j => if j = 0 then none else if i = 0 ∧ x = c then some 0 else (findK c r (i - 1) (j - 1)).map (· + 1)

noncomputable def methK (W : Win) (c : Nat) (i j : Int) : Option AV := match W with
  | .str w _ => if 0 ≤ i ∧ i < 50000 ∧ 0 ≤ j ∧ j ≤ w.length then some (match findK c w i.toNat j.toNat with | some x => .p x | none => .o (.int (-1))) else none
  | _ => none
noncomputable def methA (W : Win) (m : Nat) (u : AV) (l : List AV) : Option AV := match m with
  | 0 => (match u with
    | .k => l3 l fun a b c => (match a with
      | .o s => onS s fun s => l1 s fun ch => (match b with
        | .p i => (match c with
          | .p j => methK W ch i j
          | _ => none)
        | _ => none)
      | _ => none)
    | _ => none)
  | _ => none

noncomputable def isKs : Win → AV → Bool
  | .str _ _, .k => true
  | _, _ => false
noncomputable def isK0 (b : Nat) (l : List AV) : Bool := match b with
  | 0 => (match l with
    | a :: r => (match a with
      | .k => r.isEmpty
      | _ => false)
    | [] => false)
  | _ => false
noncomputable def biA (W : Win) (b : Nat) (l : List AV) (σ : Mem) : Option AV :=
  if isK0 b l = true then some (if finW W then .p (lenW W) else .n) else (unOs l).bind fun vs => (biAll b vs σ).map .o

mutual
noncomputable def aNoRef : AV → Bool
  | .o v => noRef v
  | .p _ => true
  | .k => true
  | .n => true
  | .t l => aNoRefs l
noncomputable def aNoRefs : List AV → Bool
  | [] => true
  | a :: r => aNoRef a && aNoRefs r
end
mutual
noncomputable def fzA (σ : Mem) : AV → Option AV
  | .o v => (fz σ v).map .o
  | .p i => some (.p i)
  | .k => none
  | .n => some .n
  | .t l => (fzsA σ l).map .t
noncomputable def fzsA (σ : Mem) : List AV → Option (List AV)
  | [] => some []
  | a :: r => match fzA σ a, fzsA σ r with
    | some x, some y => some (x :: y)
    | _, _ => none
end

inductive FlA where
  | next
  | ret (v : AV)
noncomputable def FlA.val : FlA → AV
  | .next => .o .none
  | .ret v => v
noncomputable def cf (R : Re) : FlA → Fl
  | .next => .next
  | .ret v => .ret (cc R v)

structure RecA where
  E : ME → LocA → Mem → OutA AV
  Es : List ME → LocA → Mem → OutA (List AV)
  T : ME → LocA → Mem → OutA Bool
  S : MS → LocA → Mem → OutA FlA
  Ss : List MS → LocA → Mem → OutA FlA
  C : Nat → List AV → Mem → Option (Except (List Nat) AV × Mem)
noncomputable def RecA.none : RecA := ⟨fun _ _ _ => .none, fun _ _ _ => .none, fun _ _ _ => .none, fun _ _ _ => .none, fun _ _ _ => .none, fun _ _ _ => .none⟩

noncomputable def optA (e : Option ME) (E : ME → LocA → Mem → OutA AV) (ρ : LocA) (σ : Mem) : OutA (Option AV) := match e with
  | none => some (.ok none, ρ, σ)
  | some e => bindA (E e ρ σ) fun v ρ σ => match v with
    | .o (.int i) => if small i then some (.ok (some (.o (.int i))), ρ, σ) else none
    | .p i => if 0 ≤ i ∧ i < 50000 then some (.ok (some (.p i)), ρ, σ) else none
    | _ => none

noncomputable def mkA (vs : List AV) (ρ : LocA) (σ : Mem) : OutA AV := match unOs vs with
  | some [.str k, .str w] => some (.ok (.o (.lvl (.str k) (.str w) (.ref σ.length) (.ref (σ.length + 1)) (.ref (σ.length + 2)))), ρ, σ ++ [.list [], .list [], .list []])
  | _ => none

noncomputable def stepAE (T : Tab) (W : Win) (I : RecA) : ME → LocA → Mem → OutA AV
  | .var i, ρ, σ => match ρ[i]? with
    | some (some v) => some (.ok v, ρ, σ)
    | _ => none
  | .gl k, ρ, σ => match T.CT[k]? with
    | some (_, v) => some (.ok (.o v), ρ, σ)
    | none => none
  | .lit v, ρ, σ => some (.ok (.o v), ρ, σ)
  | .not e, ρ, σ => bindA (I.T e ρ σ) fun b ρ σ => some (.ok (.o (.bool !b)), ρ, σ)
  | .neg e, ρ, σ => bindA (I.E e ρ σ) fun v ρ σ => match v with
    | .o (.int i) => some (.ok (.o (.int (-i))), ρ, σ)
    | _ => none
  | .bin o a b, ρ, σ => bindA (I.E a ρ σ) fun u ρ σ => bindA (I.E b ρ σ) fun v ρ σ => retA ρ σ (binA o σ u v)
  | .cmp o a b, ρ, σ => bindA (I.E a ρ σ) fun u ρ σ => bindA (I.E b ρ σ) fun v ρ σ => retA ρ σ ((cmpA W o u v).map fun b => .o (.bool b))
  | .cmp2 o1 o2 a b c, ρ, σ => bindA (I.E a ρ σ) fun u ρ σ => bindA (I.E b ρ σ) fun v ρ σ => match cmpA W o1 u v with
    | some true => bindA (I.E c ρ σ) fun x ρ σ => retA ρ σ ((cmpA W o2 v x).map fun b => .o (.bool b))
    | some false => some (.ok (.o (.bool false)), ρ, σ)
    | none => none
  | .andL l, ρ, σ => match l with
    | [] => none
    | [e] => I.E e ρ σ
    | e :: r => bindA (I.E e ρ σ) fun v ρ σ => match truA v with
      | some true => I.E (.andL r) ρ σ
      | some false => some (.ok v, ρ, σ)
      | none => none
  | .orL l, ρ, σ => match l with
    | [] => none
    | [e] => I.E e ρ σ
    | e :: r => bindA (I.E e ρ σ) fun v ρ σ => match truA v with
      | some false => I.E (.orL r) ρ σ
      | some true => some (.ok v, ρ, σ)
      | none => none
  | .ite t a b, ρ, σ => bindA (I.T t ρ σ) fun x ρ σ => if x then I.E a ρ σ else I.E b ρ σ
  | .tup l, ρ, σ => bindA (I.Es l ρ σ) fun vs ρ σ => if vs.length ≤ 1000 then some (.ok (mkT vs), ρ, σ) else none
  | .lstF l, ρ, σ => bindA (I.Es l ρ σ) fun vs ρ σ => match unOs vs with
    | some us => if us.length ≤ 1000 then some (.ok (.o (.lst us)), ρ, σ) else none
    | none => none
  | .lstM l, ρ, σ => bindA (I.Es l ρ σ) fun vs ρ σ => match unOs vs with
    | some us => if us.length ≤ 1000 then some (.ok (.o (.ref σ.length)), ρ, σ ++ [.list us]) else none
    | none => none
  | .idx e i, ρ, σ => bindA (I.E e ρ σ) fun u ρ σ => bindA (I.E i ρ σ) fun v ρ σ => retA ρ σ (idxA W u v σ)
  | .slc e lo hi, ρ, σ => bindA (I.E e ρ σ) fun u ρ σ => bindA (optA lo I.E ρ σ) fun l ρ σ => bindA (optA hi I.E ρ σ) fun h ρ σ => retA ρ σ (slcA W u l h)
  | .call f l, ρ, σ => bindA (I.Es l ρ σ) fun vs ρ σ => (I.C f vs σ).map fun x => (x.1, ρ, x.2)
  | .mk l, ρ, σ => bindA (I.Es l ρ σ) fun vs ρ σ => mkA vs ρ σ
  | .bi b l, ρ, σ => bindA (I.Es l ρ σ) fun vs ρ σ => retA ρ σ (biA W b vs σ)
  | .app e a, ρ, σ => bindA (I.E e ρ σ) fun u ρ σ => match unO u with
    | some u => match isListRef u σ with
      | some r => bindA (I.E a ρ σ) fun v ρ σ => match unO v with
        | some v => match σ[r]? with
          | some (.list l) => if l.length ≤ 100000 then some (.ok (.o .none), ρ, σ.set r (.list (l ++ [v]))) else none
          | _ => none
        | none => none
      | none => none
    | none => none
  | .pop e, ρ, σ => bindA (I.E e ρ σ) fun u ρ σ => match u with
    | .o (.ref r) => match σ[r]? with
      | some (.list l) => match l.getLast? with
        | some v => if l.length ≤ 100000 then some (.ok (.o v), ρ, σ.set r (.list l.dropLast)) else none
        | none => none
      | _ => none
    | _ => none
  | .meth m e l, ρ, σ => bindA (I.E e ρ σ) fun u ρ σ => if isKs W u then bindA (I.Es l ρ σ) fun vs ρ σ => retA ρ σ (methA W m u vs) else none
  | .attr e k, ρ, σ => bindA (I.E e ρ σ) fun u ρ σ => retA ρ σ ((unO u).bind fun u => (attrOf k u).map .o)
  | .capj e, ρ, σ => bindA (I.E e ρ σ) fun u ρ σ => match u with
    | .o (.str s) => if s.length ≤ 1000 then some (.ok (.o (.str (s.map capC))), ρ, σ) else none
    | _ => none
  | _, _, _ => none

noncomputable def stepAEs (I : RecA) : List ME → LocA → Mem → OutA (List AV)
  | [], ρ, σ => some (.ok [], ρ, σ)
  | e :: r, ρ, σ => bindA (I.E e ρ σ) fun v ρ σ => bindA (I.Es r ρ σ) fun vs ρ σ => some (.ok (v :: vs), ρ, σ)

noncomputable def stepAT (W : Win) (I : RecA) : ME → LocA → Mem → OutA Bool
  | .not e, ρ, σ => bindA (I.T e ρ σ) fun b ρ σ => some (.ok !b, ρ, σ)
  | .andL l, ρ, σ => match l with
    | [] => some (.ok true, ρ, σ)
    | e :: r => bindA (I.T e ρ σ) fun b ρ σ => if b then I.T (.andL r) ρ σ else some (.ok false, ρ, σ)
  | .orL l, ρ, σ => match l with
    | [] => some (.ok false, ρ, σ)
    | e :: r => bindA (I.T e ρ σ) fun b ρ σ => if b then some (.ok true, ρ, σ) else I.T (.orL r) ρ σ
  | .ite t a b, ρ, σ => bindA (I.T t ρ σ) fun x ρ σ => if x then I.T a ρ σ else I.T b ρ σ
  | .cmp o a b, ρ, σ => bindA (I.E a ρ σ) fun u ρ σ => bindA (I.E b ρ σ) fun v ρ σ => retA ρ σ (cmpA W o u v)
  | .cmp2 o1 o2 a b c, ρ, σ => bindA (I.E a ρ σ) fun u ρ σ => bindA (I.E b ρ σ) fun v ρ σ => match cmpA W o1 u v with
    | some true => bindA (I.E c ρ σ) fun x ρ σ => retA ρ σ (cmpA W o2 v x)
    | some false => some (.ok false, ρ, σ)
    | none => none
  | e, ρ, σ => bindA (I.E e ρ σ) fun v ρ σ => retA ρ σ (truA v)

noncomputable def setAllA : List Nat → List AV → LocA → LocA
  | i :: r, v :: t, ρ => setAllA r t (ρ.set i (some v))
  | _, _, ρ => ρ
noncomputable def asgTA (l : List Nat) (v : AV) (ρ : LocA) (σ : Mem) : OutA FlA := match v with
  | .o (.tup vs) => if vs.length = l.length then some (.ok .next, setAllA l (vs.map .o) ρ, σ) else none
  | .t vs => if vs.length = l.length then some (.ok .next, setAllA l vs ρ, σ) else none
  | _ => none
noncomputable def augA (o : Operator) (i : Nat) (u v : AV) (ρ : LocA) (σ : Mem) : OutA FlA := match o, u, v with
  | .Add, .o (.int a), .o (.int b) => some (.ok .next, ρ.set i (some (.o (.int (a + b)))), σ)
  | .Add, .p a, .o (.int b) => some (.ok .next, ρ.set i (some (.p (a + b))), σ)
  | _, _, _ => none
noncomputable def raiseA (vs : List AV) (ρ : LocA) (σ : Mem) : OutA FlA := match vs with
  | [.o (.str c), _] => some (.error c, ρ, σ)
  | _ => none

noncomputable def stepAS (I : RecA) : MS → LocA → Mem → OutA FlA
  | .asg i e, ρ, σ => bindA (I.E e ρ σ) fun v ρ σ => some (.ok .next, ρ.set i (some v), σ)
  | .asgT l e, ρ, σ => bindA (I.E e ρ σ) fun v ρ σ => asgTA l v ρ σ
  | .aug i o e, ρ, σ => match ρ[i]? with
    | some (some u) => bindA (I.E e ρ σ) fun v ρ σ => augA o i u v ρ σ
    | _ => none
  | .expr e, ρ, σ => bindA (I.E e ρ σ) fun _ ρ σ => some (.ok .next, ρ, σ)
  | .ife t a b, ρ, σ => bindA (I.T t ρ σ) fun x ρ σ => if x then I.Ss a ρ σ else I.Ss b ρ σ
  | .whl t b, ρ, σ => bindA (I.T t ρ σ) fun x ρ σ => if x then bindA (I.Ss b ρ σ) fun f ρ σ => match f with
      | .next => I.S (.whl t b) ρ σ
      | .ret v => some (.ok (.ret v), ρ, σ)
    else some (.ok .next, ρ, σ)
  | .ret e, ρ, σ => bindA (I.E e ρ σ) fun v ρ σ => some (.ok (.ret v), ρ, σ)
  | .raise c l, ρ, σ => bindA (I.Es (c :: l) ρ σ) fun vs ρ σ => raiseA vs ρ σ
  | _, _, _ => none

noncomputable def stepASs (I : RecA) : List MS → LocA → Mem → OutA FlA
  | [], ρ, σ => some (.ok .next, ρ, σ)
  | s :: r, ρ, σ => bindA (I.S s ρ σ) fun f ρ σ => match f with
    | .next => I.Ss r ρ σ
    | .ret v => some (.ok (.ret v), ρ, σ)

noncomputable def locA (fd : FD) (vs : List AV) : LocA := vs.map some ++ List.replicate (fd.ns.length - fd.np) none
noncomputable def callA (fd : FD) (g : LocA → Mem → OutA FlA) (vs : List AV) (σ : Mem) : Option (Except (List Nat) AV × Mem) :=
  if vs.length = fd.np then
      if aNoRefs vs then match g (locA fd vs) [] with
        | some (.error c, _, _) => some (.error c, σ)
        | some (.ok r, _, σ') => (fzA σ' r.val).map fun v => (.ok v, σ)
        | none => none
      else match g (locA fd vs) σ with
        | some (.error c, _, σ') => some (.error c, σ')
        | some (.ok r, _, σ') => some (.ok r.val, σ')
        | none => none
    else none

/-- defs whose answer is known beforehand -/
structure Known where
  get : Nat → List V → Option V
  need : Nat

noncomputable def stepAC (T : Tab) (N : Known) (n : Nat) (I : RecA) (f : Nat) (vs : List AV) (σ : Mem) : Option (Except (List Nat) AV × Mem) :=
  match (unOs vs).bind (N.get f) with
  | some v => if N.need ≤ n then some (.ok (.o v), σ) else none
  | none => match T.FT[f]? with
    | none => none
    | some fd => callA fd (I.Ss fd.body) vs σ

noncomputable def stepAR (T : Tab) (N : Known) (W : Win) (n : Nat) (I : RecA) : RecA where
  E := stepAE T W I
  Es := stepAEs I
  T := stepAT W I
  S := stepAS I
  Ss := stepASs I
  C := stepAC T N n I

noncomputable def runA (T : Tab) (N : Known) (W : Win) : Nat → RecA
  | 0 => RecA.none
  | n + 1 => stepAR T N W n (runA T N W n)
end Mine

end

section
open PySem PySem.W PyProof.Rows PySem.Builtin PySem.Builtin.Str
namespace Mine

theorem idx_nn (a b n : Nat) : strSliceIndices (some (a : Int)) (some (b : Int)) 1 n = List.range' (min a n) (min b n - min a n) := by
  have e1 : max (0 : Int) (min (a : Int) n) = ((min a n : Nat) : Int) := by lia
  have e2 : max (0 : Int) (min (b : Int) n) = ((min b n : Nat) : Int) := by lia
  have n1 : ¬ ((a : Int) < 0) := by lia
  have n2 : ¬ ((b : Int) < 0) := by lia
  unfold strSliceIndices sliceRange
  simp only [show (1 : Int) > 0 by decide, if_true, if_neg n1, if_neg n2, e1, e2]
  generalize min a n = x
  generalize min b n = y
  have e3 : (if (x : Int) < (y : Int) then ((y : Int) - x + 1 - 1) / 1 else 0).toNat = y - x := by
    split
    · rw [Int.ediv_one]; lia
    · lia
  rw [e3, List.range'_eq_map_range]
  apply List.map_congr_left
  intro k hk
  lia
theorem idx_n0 (a n : Nat) : strSliceIndices (some (a : Int)) none 1 n = List.range' (min a n) (n - min a n) := by
  have h := idx_nn a n n
  rw [Nat.min_self] at h
  rw [← h]
  have e2 : max (0 : Int) (min (n : Int) n) = (n : Int) := by lia
  have n2 : ¬ ((n : Int) < 0) := by lia
  unfold strSliceIndices
  simp only [show (1 : Int) > 0 by decide, if_true, if_neg n2, e2]

theorem pick_range {α : Type} (s : List α) : ∀ (k c : Nat), c + k ≤ s.length → (List.range' c k).filterMap (s[·]?) = (s.drop c).take k
  | 0, c, _ => by simp
  | k + 1, c, h => by
    have hc : c < s.length := by lia
    rw [List.range'_succ, List.filterMap_cons, List.getElem?_eq_getElem hc, List.drop_eq_getElem_cons hc, List.take_succ_cons]
    show s[c] :: _ = _
    rw [pick_range s k (c + 1) (by lia)]

theorem slice_nn (s : List Nat) (a b : Nat) : slice s (some (a : Int)) (some (b : Int)) = (s.drop a).take (b - a) := by
  have hp : (List.range' (min a s.length) (min b s.length - min a s.length)).filterMap (s[·]?) = (s.drop a).take (b - a) := by
    by_cases hab : min a s.length ≤ min b s.length
    · rw [pick_range s _ _ (by lia)]
      by_cases ha : a ≤ s.length
      · rw [Nat.min_eq_left ha]
        by_cases hb : b ≤ s.length
        · rw [Nat.min_eq_left hb]
        · rw [Nat.min_eq_right (by lia), List.take_of_length_le (by simp), List.take_of_length_le (by simp; lia)]
      · rw [List.drop_of_length_le (by lia), List.drop_of_length_le (by lia)]; simp
    · have : min b s.length - min a s.length = 0 := by lia
      have : b - a = 0 := by lia
      simp [*]
  have hm : List.filterMap (fun x => (⟨s.toArray⟩ : Str).cps[x]?) (strSliceIndices (some (a : Int)) (some (b : Int)) 1 (⟨s.toArray⟩ : Str).length) = (s.drop a).take (b - a) := by
    have hz : (⟨s.toArray⟩ : Str).length = s.length := by simp [Str.length]
    rw [hz, idx_nn, ← hp]
    congr 1
    funext x
    simp
  unfold slice Txt.slice
  split
  · rename_i h
    have hz : (⟨s.toArray⟩ : Str).length = s.length := by simp [Str.length]
    simp only [hz, idx_nn, List.length_range', Bool.and_eq_true, beq_iff_eq] at h
    have : min b s.length - min a s.length = s.length := by simpa using h
    show s = _
    rw [← hp, this]
    by_cases h0 : s.length = 0
    · rw [h0, List.length_eq_zero_iff.mp h0]; rfl
    · have k0 : ∀ x y n : Nat, x ≤ n → x - y = n → n ≠ 0 → y = 0 := by omega
      rw [k0 _ _ _ (Nat.min_le_right ..) this h0, pick_range s _ _ (Nat.le_of_eq (Nat.zero_add _))]; simp
  · show (List.filterMap _ _) = _
    exact hm
theorem slice_n0 (s : List Nat) (a : Nat) : slice s (some (a : Int)) none = s.drop a := by
  have h := slice_nn s a s.length
  rw [List.take_of_length_le (by simp)] at h
  rw [← h]
  unfold slice Txt.slice
  have hz : (⟨s.toArray⟩ : Str).length = s.length := by simp [Str.length]
  rw [hz, idx_n0, idx_nn, Nat.min_self]

theorem slice_shift (pre s : List Nat) (i j : Nat) : slice (pre ++ s) (some ((i : Int) + (pre.length : Int))) (some ((j : Int) + (pre.length : Int))) = (s.drop i).take (j - i) := by
  rw [show ((i : Int) + (pre.length : Int)) = ((pre.length + i : Nat) : Int) by lia, show ((j : Int) + (pre.length : Int)) = ((pre.length + j : Nat) : Int) by lia, slice_nn, List.drop_append, List.drop_of_length_le (by lia)]
  simp [show pre.length + i - pre.length = i by lia, show pre.length + j - (pre.length + i) = j - i by lia]
theorem slice_shift0 (pre s : List Nat) (i : Nat) : slice (pre ++ s) (some ((i : Int) + (pre.length : Int))) none = s.drop i := by
  rw [show ((i : Int) + (pre.length : Int)) = ((pre.length + i : Nat) : Int) by lia, slice_n0, List.drop_append, List.drop_of_length_le (by lia)]
  simp [show pre.length + i - pre.length = i by lia]

/-- one sign in a text -/
theorem subAt_one (s : List Nat) (c i : Nat) (h : i + 1 ≤ s.length) : subAt ⟨s.toArray⟩ ⟨#[c]⟩ i = true ↔ s[i]? = some c := by
  unfold subAt
  rw [beq_iff_eq]
  have hi : i < s.length := by lia
  rw [List.getElem?_eq_getElem hi]
  constructor
  · intro e
    have := congrArg (fun a : Array Nat => a[0]?) e
    simpa [Str.length, hi] using this
  · intro e
    have e : s[i] = c := by simpa using e
    apply Array.ext
    · simp [Str.length]; lia
    · intro k h1 h2
      have : k = 0 := by simp at h2; exact h2
      subst this
      simp [e]
end Mine

end

section
open PySem PySem.W PyProof.Rows PySem.Builtin PySem.Builtin.Str
namespace Mine

noncomputable def pOne (s : List Nat) (c hi i : Nat) : Bool := decide (i + 1 ≤ hi) && (s[i]? == some c)

theorem occ_full (s : Str) (c hi : Nat) (x : Nat) : ∀ (l : List Nat) (f : Nat), (forIn (m := Id) l ((#[x] : Array Nat), f) (StrLaws.occBody s ⟨#[c]⟩ hi 1)).run.fst = #[x]
  | [], _ => rfl
  | i :: l, f => by
    rw [List.forIn_cons]
    have hn : ¬ ((((#[x] : Array Nat).size < 1 ∧ f ≤ i) ∧ i + (⟨#[c]⟩ : Str).length ≤ hi) ∧ subAt s ⟨#[c]⟩ i = true) := fun q => by simp at q
    simp only [StrLaws.occBody, if_neg hn]
    exact occ_full s c hi x l f

theorem occ_one (s : List Nat) (c hi : Nat) (hh : hi ≤ s.length) : ∀ (l : List Nat) (f : Nat), (∀ i ∈ l, f ≤ i) →
    (forIn (m := Id) l ((#[] : Array Nat), f) (StrLaws.occBody ⟨s.toArray⟩ ⟨#[c]⟩ hi 1)).run.fst.toList = (l.find? (pOne s c hi)).toList
  | [], _, _ => rfl
  | i :: l, f, hf => by
    rw [List.forIn_cons, List.find?_cons]
    have hi0 : f ≤ i := hf i (List.mem_cons_self ..)
    have hlen : (⟨#[c]⟩ : Str).length = 1 := rfl
    by_cases hc : pOne s c hi i = true
    · have hc' := hc
      simp only [pOne, Bool.and_eq_true, decide_eq_true_eq, beq_iff_eq] at hc'
      have hp : ((((#[] : Array Nat).size < 1 ∧ f ≤ i) ∧ i + (⟨#[c]⟩ : Str).length ≤ hi) ∧ subAt ⟨s.toArray⟩ ⟨#[c]⟩ i = true) :=
        ⟨⟨⟨by simp, hi0⟩, by rw [hlen]; exact hc'.1⟩, (subAt_one s c i (by lia)).mpr hc'.2⟩
      simp only [StrLaws.occBody, if_pos hp, hc]
      exact congrArg Array.toList (occ_full ⟨s.toArray⟩ c hi i l _)
    · have hn : ¬ ((((#[] : Array Nat).size < 1 ∧ f ≤ i) ∧ i + (⟨#[c]⟩ : Str).length ≤ hi) ∧ subAt ⟨s.toArray⟩ ⟨#[c]⟩ i = true) := fun q => hc (by
        rw [hlen] at q
        simp only [pOne, Bool.and_eq_true, decide_eq_true_eq, beq_iff_eq]
        exact ⟨q.1.2, (subAt_one s c i (by lia)).mp q.2⟩)
      simp only [StrLaws.occBody, if_neg hn, hc]
      exact occ_one s c hi hh l f fun j hj => hf j (List.mem_cons_of_mem _ hj)

theorem occ_one' (s : List Nat) (c lo hi : Nat) (hh : hi ≤ s.length) : occurrences ⟨s.toArray⟩ ⟨#[c]⟩ lo hi 1 = ((List.range' lo (hi + 1 - lo)).find? (pOne s c hi)).toList := by
  rw [StrLaws.occ_eq]
  exact occ_one s c hi hh _ lo fun i q => (List.mem_range'_1.mp q).1

theorem occ_in (b : List Nat) (c : Nat) : (!(occurrences ⟨b.toArray⟩ ⟨#[c]⟩ 0 b.length 1).isEmpty) = b.contains c := by
  rw [occ_one' b c 0 b.length (Nat.le_refl _)]
  cases hx : (List.range' 0 (b.length + 1 - 0)).find? (pOne b c b.length) with
  | some i =>
    have h := List.find?_some hx
    simp only [pOne, Bool.and_eq_true, decide_eq_true_eq, beq_iff_eq] at h
    have : c ∈ b := List.mem_of_getElem? h.2
    simp [this]
  | none =>
    have : c ∉ b := fun q => by
      obtain ⟨i, hi, e⟩ := List.getElem_of_mem q
      have := List.find?_eq_none.mp hx i (List.mem_range'_1.mpr ⟨Nat.zero_le _, by lia⟩)
      apply this
      simp only [pOne, Bool.and_eq_true, decide_eq_true_eq, beq_iff_eq]
      exact ⟨by lia, by rw [List.getElem?_eq_getElem hi, e]⟩
    simp [this]

theorem pOne_out (s : List Nat) (c d i : Nat) : (List.range' (i + d) (d + 1 - (i + d))).find? (pOne s c d) = none := by
  rw [List.find?_eq_none]
  intro k hk
  have := (List.mem_range'_1.mp hk).1
  simp only [pOne, Bool.and_eq_true, decide_eq_true_eq, not_and]
  intro; lia

theorem find_shift (c : Nat) : ∀ (w pre r : List Nat) (i j : Nat), j ≤ w.length →
    (List.range' (i + pre.length) (j + pre.length + 1 - (i + pre.length))).find? (pOne (pre ++ (w ++ r)) c (j + pre.length)) = (findK c w i j).map (· + pre.length)
  | [], pre, r, i, j, h => by
    have : j = 0 := by simpa using h
    subst this
    rw [Nat.zero_add, pOne_out]; rfl
  | x :: w, pre, r, i, 0, _ => by
    rw [Nat.zero_add, pOne_out]; rfl
  | x :: w, pre, r, 0, j + 1, h => by
    have e1 : j + 1 + pre.length + 1 - (0 + pre.length) = (j + 1) + 1 := by lia
    rw [e1, List.range'_succ, List.find?_cons]
    have hx : (pre ++ (x :: w ++ r))[0 + pre.length]? = some x := by simp
    by_cases hc : x = c
    · have : pOne (pre ++ (x :: w ++ r)) c (j + 1 + pre.length) (0 + pre.length) = true := by
        simp only [pOne, Bool.and_eq_true, decide_eq_true_eq, beq_iff_eq]; exact ⟨by lia, by rw [hx, hc]⟩
      rw [this]
      simp [findK, hc]
    · have : pOne (pre ++ (x :: w ++ r)) c (j + 1 + pre.length) (0 + pre.length) = false := by
        simp only [pOne, hx, Bool.and_eq_false_iff]; right; simp [hc]
      rw [this]
      have ih := find_shift c w (pre ++ [x]) r 0 j (by simpa using h)
      simp only [List.length_append, List.length_singleton, List.append_assoc, List.singleton_append] at ih
      have e2 : j + (pre.length + 1) + 1 - (0 + (pre.length + 1)) = j + 1 := by lia
      rw [e2] at ih
      simp only [findK, hc, and_false, if_false, Nat.add_sub_cancel]
      have e3 : j + (pre.length + 1) = j + 1 + pre.length := by lia
      have e4 : 0 + pre.length + 1 = 0 + (pre.length + 1) := by lia
      rw [e4]
      rw [e3] at ih
      show List.find? (pOne (pre ++ x :: (w ++ r)) c (j + 1 + pre.length)) _ = _
      rw [ih]
      rw [if_neg (Nat.succ_ne_zero j), Option.map_map]; congr 1; funext y; show y + (pre.length + 1) = y + 1 + pre.length; lia
  | x :: w, pre, r, i + 1, j + 1, h => by
    have ih := find_shift c w (pre ++ [x]) r i j (by simpa using h)
    simp only [List.length_append, List.length_singleton, List.append_assoc, List.singleton_append] at ih
    have e3 : j + (pre.length + 1) = j + 1 + pre.length := by lia
    have e4 : i + (pre.length + 1) = i + 1 + pre.length := by lia
    rw [e3, e4] at ih
    have : ¬ (i + 1 = 0 ∧ x = c) := by lia
    simp only [findK, if_neg this, Nat.add_sub_cancel]
    show List.find? (pOne (pre ++ x :: (w ++ r)) c (j + 1 + pre.length)) _ = _
    rw [ih]
    rw [if_neg (Nat.succ_ne_zero j), Option.map_map]; congr 1; funext y; show y + (pre.length + 1) = y + 1 + pre.length; lia

theorem findV_shift (pre w r : List Nat) (c i j : Nat) (hj : j ≤ w.length) (hl : (pre ++ (w ++ r)).length ≤ 5000) (hi : i < 50000) :
    findV (pre ++ (w ++ r)) [c] ((i : Int) + (pre.length : Int)) ((j : Int) + (pre.length : Int)) = some (match findK c w i j with | some x => (x : Int) + (pre.length : Int) | none => -1) := by
  have hb : j + pre.length ≤ (pre ++ (w ++ r)).length := by simp; lia
  have h1 : ((i : Int) + (pre.length : Int)).toNat = i + pre.length := by lia
  have h2 : ((j : Int) + (pre.length : Int)).toNat = j + pre.length := by lia
  unfold findV
  rw [if_pos ⟨by lia, by lia, by lia, by lia⟩, h1, h2, Nat.min_eq_left hb]
  have := occ_one' (pre ++ (w ++ r)) c (i + pre.length) (j + pre.length) hb
  show some (match occurrences ⟨(pre ++ (w ++ r)).toArray⟩ ⟨#[c]⟩ (i + pre.length) (j + pre.length) 1 with | k :: _ => (k : Int) | [] => -1) = _
  rw [this, find_shift c w pre r i j hj]
  cases findK c w i j with
  | none => rfl
  | some x => simp
end Mine

end

section
open PySem PySem.W PyProof.Rows PySem.Builtin PySem.Builtin.Str
namespace Mine
variable {R : Re} {W : Win}

theorem ccs_map : ∀ (l : List AV), ccs R l = l.map (cc R)
  | [] => rfl
  | a :: r => by rw [ccs, ccs_map r]; rfl
theorem unO_eq {a : AV} {v : V} (h : unO a = some v) : a = .o v := by
  cases a <;> cases h
  rfl
theorem unOs_eq : ∀ {l : List AV} {vs : List V}, unOs l = some vs → l = vs.map .o
  | [], vs, h => by cases h; rfl
  | a :: r, vs, h => by
    unfold unOs at h
    split at h
    · rename_i v us ha hr
      cases h
      rw [unO_eq ha, unOs_eq hr]; rfl
    · cases h
theorem ccs_o : ∀ (vs : List V), ccs R (vs.map .o) = vs
  | [] => rfl
  | v :: r => by show cc R (.o v) :: ccs R (r.map .o) = _; rw [ccs_o r]; rfl
theorem unOs_ccs {l : List AV} {vs : List V} (h : unOs l = some vs) : ccs R l = vs := by rw [unOs_eq h, ccs_o]
theorem cc_mkT (l : List AV) : cc R (mkT l) = .tup (ccs R l) := by
  unfold mkT
  split
  · rename_i vs h; rw [unOs_ccs h]; rfl
  · rfl
theorem ccs_len (l : List AV) : (ccs R l).length = l.length := by rw [ccs_map, List.length_map]

theorem binA_ok {o : Operator} {σ : Mem} {a b c : AV} (h : binA o σ a b = some c) : opBin o (deref σ (cc R a)) (deref σ (cc R b)) = some (cc R c) := by
  cases a with
  | o u => cases b with
    | o v =>
      obtain ⟨z, hz, e⟩ := Option.map_eq_some_iff.mp (show (opBin o (deref σ u) (deref σ v)).map AV.o = some c from h)
      rw [← e]; exact hz
    | _ => cases h
  | p i => cases b with
    | o v =>
      dsimp only [binA] at h
      obtain ⟨k, e, h⟩ := onI_of h
      rw [e]
      cases o with
      | Add => cases h; exact congrArg (fun z => some (V.int z)) (by lia)
      | Sub => cases h; exact congrArg (fun z => some (V.int z)) (by lia)
      | _ => cases h
    | p j => cases o with
      | Sub => cases h; exact congrArg (fun z => some (V.int z)) (by lia)
      | _ => cases h
    | _ => cases h
  | _ => cases h

theorem sing_of {u v : V} {c : Nat} {b : List Nat} (h : sing u v = some (c, b)) : u = .str [c] ∧ v = .str b := by
  obtain ⟨s, e1, h⟩ := onS_of h
  obtain ⟨c', e2, h⟩ := l1_of h
  obtain ⟨b', e3, h⟩ := onS_of h
  cases h
  exact ⟨e2 ▸ e1, e3⟩
theorem opCmpK_eq (o : CmpOp) (u v : V) : opCmpK o u v = opCmp o u v := by
  cases o with
  | In =>
    show (match sing u v with | some (c, b) => some (b.contains c) | none => opCmp .In u v) = _
    cases h : sing u v with
    | none => rfl
    | some x =>
      obtain ⟨c, b⟩ := x
      obtain ⟨e1, e2⟩ := sing_of h
      rw [e1, e2]
      show some (b.contains c) = some (!(occurrences ⟨b.toArray⟩ ⟨#[c]⟩ 0 b.length 1).isEmpty)
      rw [occ_in]
  | _ => rfl

theorem WR.len (h : WR W R) : R.d + lenW W ≤ R.m ∧ (finW W = true → R.m = R.d + lenW W) ∧ R.m ≤ 5000 ∧ (R.kv = .str [] ∨ True) := by
  cases h with
  | str hl hf =>
    refine ⟨by simp [lenW], fun q => ?_, hl, .inr trivial⟩
    rw [hf q]; simp [lenW]
  | lst hl hf hn =>
    refine ⟨by simp [lenW], fun q => ?_, hl, .inr trivial⟩
    rw [hf q]; simp [lenW]

theorem cmpA_ok (hW : WR W R) {o : CmpOp} {a b : AV} {c : Bool} (h : cmpA W o a b = some c) : opCmp o (cc R a) (cc R b) = some c := by
  cases a with
  | o u => cases b with
    | o v => exact (opCmpK_eq o u v).symm.trans h
    | _ => cases h
  | p i => cases b with
    | p j => cases o with
      | Lt => cases h; exact congrArg some (decide_eq_decide.mpr (by lia))
      | Gt => cases h; exact congrArg some (decide_eq_decide.mpr (by lia))
      | Eq =>
        cases h
        refine congrArg some ?_
        rw [Bool.eq_iff_iff, beq_iff_eq, beq_iff_eq]; lia
      | _ => cases h
    | n => cases o with
      | Lt =>
        obtain ⟨q, e⟩ := if_of (show (if i < lenW W then some true else none) = some c from h)
        have hl := hW.len.1
        rw [e]
        exact congrArg some (decide_eq_true (by lia))
      | _ => cases h
    | o v =>
      dsimp only [cmpA] at h
      obtain ⟨k, e, h⟩ := onI_of h
      rw [e]
      cases o with
      | Lt =>
        obtain ⟨q, e⟩ := if_of (show (if k ≤ 0 ∧ 0 ≤ i then some false else none) = some c from h)
        rw [e]
        exact congrArg some (decide_eq_false (by lia))
      | _ => cases h
    | _ => cases h
  | _ => cases h

theorem truA_ok {a : AV} {c : Bool} (h : truA a = some c) : truthyV (cc R a) = some c := by
  cases a with
  | o v => exact h
  | _ => cases h

theorem get_mid {α : Type} {pre w r : List α} {i : Int} {z : α} (h0 : 0 ≤ i) (hx : w[i.toNat]? = some z) : (pre ++ (w ++ r))[(i + (pre.length : Int)).toNat]? = some z ∧ i.toNat < w.length := by
  have hlt := (List.getElem?_eq_some_iff.mp hx).1
  have h1 : (i + (pre.length : Int)).toNat = pre.length + i.toNat := by lia
  rw [h1, List.getElem?_append_right (Nat.le_add_right _ _), Nat.add_sub_cancel_left, List.getElem?_append_left hlt]
  exact ⟨hx, hlt⟩
theorem idxK_ok (hW : WR W R) {i : Int} {c : AV} {σ : Mem} (hi : 0 ≤ i) (h : idxK W i = some c) : idxV R.kv (.int (i + R.d)) σ = some (cc R c) := by
  cases hW with
  | str hl hf =>
    rename_i w pre r fin
    obtain ⟨z, hx, e⟩ := Option.map_eq_some_iff.mp h
    obtain ⟨h2, hlt⟩ := get_mid (pre := pre) (r := r) hi hx
    rw [← e]
    simp only [List.length_append] at hl
    show (if 0 ≤ i + (pre.length : Int) ∧ i + (pre.length : Int) < 1000000 then ((pre ++ (w ++ r))[(i + (pre.length : Int)).toNat]?).map fun c => V.str [c] else none) = _
    rw [if_pos ⟨by lia, by lia⟩, h2]; rfl
  | lst hl hf hn =>
    rename_i w pre r fin
    obtain ⟨z, hx, e⟩ := Option.map_eq_some_iff.mp h
    obtain ⟨h2, hlt⟩ := get_mid (pre := pre) (r := r) hi hx
    rw [← e]
    simp only [List.length_append] at hl
    show atList (pre ++ (w ++ r)) (i + (pre.length : Int)) = _
    unfold atList
    rw [if_pos (by lia), if_pos (by lia), h2]; rfl
theorem idxA_ok (hW : WR W R) {a b c : AV} {σ : Mem} (h : idxA W a b σ = some c) : idxV (cc R a) (cc R b) σ = some (cc R c) := by
  cases a with
  | o u => cases b with
    | o v =>
      obtain ⟨z, hz, e⟩ := Option.map_eq_some_iff.mp (show (idxV u v σ).map AV.o = some c from h)
      rw [← e]; exact hz
    | _ => cases h
  | k => cases b with
    | p i =>
      rcases Decidable.em (0 ≤ i) with q | q
      · exact idxK_ok hW q ((if_pos q).symm.trans h)
      · exact nomatch (if_neg q).symm.trans h
    | _ => cases h
  | _ => cases h

/-- the bound of a slice -/
noncomputable def bdI (R : Re) : Option AV → Option Int
  | none => none
  | some a => match cc R a with
    | .int i => some i
    | _ => none
theorem bdO_ok {l : Option AV} {x : Option Int} (h : bdO l = some x) : bdI R l = x := by
  unfold bdO at h
  split at h <;> cases h <;> rfl

noncomputable def slcV (u : V) (l h : Option Int) : Option V := match u with
  | .str s => if s.length ≤ 100000 then some (.str (slice s l h)) else none
  | .lst s => match l, h with
    | none, some k => if 0 ≤ k ∧ s.length ≤ 100000 then some (.lst (s.take k.toNat)) else none
    | _, _ => none
  | _ => none

theorem slcK_ok {pre w r : List Nat} {fin : Bool} {kv : V} {m : Nat} {i : Int} {h : Option AV} {c : AV} (hl : (pre ++ (w ++ r)).length ≤ 5000) (hf : fin = true → r = []) (e : slcK w fin i h = some c) :
    slcV (.str (pre ++ (w ++ r))) (some (i + (pre.length : Int))) (bdI ⟨pre.length, m, kv⟩ h) = some (cc ⟨pre.length, m, kv⟩ c) := by
  have hs : (pre ++ (w ++ r)).length ≤ 100000 := Nat.le_trans hl (by decide)
  cases h with
  | none =>
    obtain ⟨hc, e⟩ := if_of (show (if 0 ≤ i ∧ i < 50000 ∧ fin = true then some (AV.o (.str (w.drop i.toNat))) else none) = some c from e)
    rw [e]
    show (if (pre ++ (w ++ r)).length ≤ 100000 then some (V.str (slice (pre ++ (w ++ r)) (some (i + (pre.length : Int))) none)) else none) = _
    rw [if_pos hs, show i = ((i.toNat : Nat) : Int) by lia, slice_shift0]
    rw [hf hc.2.2, List.append_nil]; rfl
  | some b => cases b with
    | p j =>
      obtain ⟨hc, e⟩ := if_of (show (if 0 ≤ i ∧ i < 50000 ∧ 0 ≤ j ∧ j < 50000 ∧ (j ≤ w.length ∨ fin = true) then some (AV.o (.str ((w.drop i.toNat).take (j.toNat - i.toNat)))) else none) = some c from e)
      rw [e]
      show (if (pre ++ (w ++ r)).length ≤ 100000 then some (V.str (slice (pre ++ (w ++ r)) (some (i + (pre.length : Int))) (some (j + (pre.length : Int))))) else none) = _
      rw [if_pos hs, show i = ((i.toNat : Nat) : Int) by lia, show j = ((j.toNat : Nat) : Int) by lia, slice_shift]
      refine congrArg (fun z => some (V.str z)) ?_
      simp only [Int.toNat_natCast]
      rcases hc.2.2.2.2 with q | q
      · by_cases hij : i.toNat ≤ w.length
        · rw [List.drop_append_of_le_length hij, List.take_append_of_le_length (by simp; lia)]
        · rw [show j.toNat - i.toNat = 0 by lia]; rfl
      · rw [hf q, List.append_nil]
    | _ => cases e
theorem slcA_ok (hW : WR W R) {u c : AV} {l h : Option AV} (e : slcA W u l h = some c) : slcV (cc R u) (bdI R l) (bdI R h) = some (cc R c) := by
  cases u with
  | o v =>
    dsimp only [slcA] at e
    obtain ⟨s, e1, e⟩ := onS_of e
    obtain ⟨l', h1, e⟩ := oB_of e
    obtain ⟨h', h2, e⟩ := oB_of e
    obtain ⟨hs, e⟩ := if_of e
    rw [bdO_ok h1, bdO_ok h2, e1, e]
    exact if_pos hs
  | k => cases hW with
    | str hl hf =>
      obtain ⟨a, e1, e⟩ := oB_of e
      rw [e1]
      cases a with
      | p i => exact slcK_ok hl hf e
      | _ => cases e
    | lst hl hf hn => cases e
  | _ => cases e

theorem methK_ok (hW : WR W R) {ch : Nat} {i j : Int} {c : AV} (e : methK W ch i j = some c) : isStr R.kv = true ∧ methV 0 R.kv [.str [ch], .int (i + R.d), .int (j + R.d)] = some (cc R c) := by
  cases hW with
  | str hl hf =>
    rename_i w pre r fin
    obtain ⟨hc, e⟩ := if_of (show (if 0 ≤ i ∧ i < 50000 ∧ 0 ≤ j ∧ j ≤ w.length then some (match findK ch w i.toNat j.toNat with | some x => AV.p x | none => .o (.int (-1))) else none) = some c from e)
    refine ⟨rfl, ?_⟩
    show (findV (pre ++ (w ++ r)) [ch] (i + (pre.length : Int)) (j + (pre.length : Int))).map V.int = _
    rw [show i = ((i.toNat : Nat) : Int) by lia, show j = ((j.toNat : Nat) : Int) by lia, findV_shift pre w r ch _ _ (by lia) hl (by lia), e]
    cases findK ch w i.toNat j.toNat with
    | none => rfl
    | some x => rfl
  | lst hl hf hn => cases e
theorem methA_ok (hW : WR W R) {m : Nat} {u c : AV} {l : List AV} (e : methA W m u l = some c) : isStr (cc R u) = true ∧ methV m (cc R u) (ccs R l) = some (cc R c) := by
  cases m with
  | zero => cases u with
    | k =>
      obtain ⟨a, b, d, e1, e⟩ := l3_of e
      rw [e1]
      cases a with
      | o s =>
        obtain ⟨s', e2, e⟩ := onS_of e
        obtain ⟨ch, e3, e⟩ := l1_of e
        rw [e2, e3]
        cases b with
        | p i => cases d with
          | p j => exact methK_ok hW e
          | _ => cases e
        | _ => cases e
      | _ => cases e
    | _ => cases e
  | succ _ => cases e

theorem isK0_of {b : Nat} {l : List AV} (h : isK0 b l = true) : b = 0 ∧ l = [.k] := by
  cases b with
  | zero => cases l with
    | nil => cases h
    | cons a r => cases a with
      | k => cases r with
        | nil => exact ⟨rfl, rfl⟩
        | cons _ _ => cases h
      | _ => cases h
  | succ _ => cases h
theorem biLen (hW : WR W R) {σ : Mem} : biAll 0 [R.kv] σ = some (.int R.m) := by
  cases hW with
  | str hl' hf =>
    rename_i w pre r fin
    show orO (if (pre ++ (w ++ r)).length ≤ 100000 then some (V.int (pre ++ (w ++ r)).length) else none) _ = _
    rw [if_pos (Nat.le_trans hl' (by decide))]; rfl
  | lst hl' hf hn =>
    rename_i w pre r fin
    show orO (if (pre ++ (w ++ r)).length ≤ 100000 then some (V.int (pre ++ (w ++ r)).length) else none) _ = _
    rw [if_pos (Nat.le_trans hl' (by decide))]; rfl
theorem biA_ok (hW : WR W R) {b : Nat} {l : List AV} {σ : Mem} {c : AV} (e : biA W b l σ = some c) : biAll b (ccs R l) σ = some (cc R c) := by
  rcases Decidable.em (isK0 b l = true) with q | q
  · obtain ⟨e1, e2⟩ := isK0_of q
    have hl := hW.len
    rw [← Option.some.inj ((if_pos q).symm.trans e), e1, e2]
    refine (biLen hW).trans (congrArg some ?_)
    cases hq : finW W with
    | true => exact congrArg V.int (by rw [hl.2.1 hq]; lia)
    | false => rfl
  · obtain ⟨vs, h1, h2⟩ := Option.bind_eq_some_iff.mp ((if_neg q).symm.trans e)
    obtain ⟨z, h3, h4⟩ := Option.map_eq_some_iff.mp h2
    rw [unOs_ccs h1, ← h4]
    exact h3

mutual
theorem aNoRef_ok (hW : noRef R.kv = true) : ∀ (a : AV), noRef (cc R a) = aNoRef a
  | .o _ => rfl
  | .p _ => rfl
  | .k => hW
  | .n => rfl
  | .t l => aNoRefs_ok hW l
theorem aNoRefs_ok (hW : noRef R.kv = true) : ∀ (l : List AV), noRefs (ccs R l) = aNoRefs l
  | [] => rfl
  | a :: r => by rw [ccs, noRefs, aNoRefs, aNoRef_ok hW a, aNoRefs_ok hW r]
end
theorem WR.noRef (h : WR W R) : noRef R.kv = true := by
  cases h with
  | str _ _ => rfl
  | lst _ _ hn => exact hn
mutual
theorem fzA_ok {σ : Mem} : ∀ (a : AV) (b : AV), fzA σ a = some b → fz σ (cc R a) = some (cc R b)
  | .o v, b, h => by
    unfold fzA at h
    cases hx : fz σ v with
    | none => rw [hx] at h; cases h
    | some z => rw [hx] at h; cases h; exact hx
  | .p _, b, h => by cases h; rfl
  | .k, b, h => by cases h
  | .n, b, h => by cases h; rfl
  | .t l, b, h => by
    unfold fzA at h
    cases hx : fzsA σ l with
    | none => rw [hx] at h; cases h
    | some z =>
      rw [hx] at h; cases h
      show (fzs σ (ccs R l)).map V.tup = _
      rw [fzsA_ok l z hx]; rfl
theorem fzsA_ok {σ : Mem} : ∀ (a : List AV) (b : List AV), fzsA σ a = some b → fzs σ (ccs R a) = some (ccs R b)
  | [], b, h => by cases h; rfl
  | a :: r, b, h => by
    unfold fzsA at h
    split at h
    · rename_i x y hx hy
      cases h
      rw [ccs, fzs, fzA_ok a x hx, fzsA_ok r y hy]; rfl
    · cases h
end
end Mine

end

section
open PySem PySem.W PyProof.Rows PySem.Builtin PySem.Builtin.Str
namespace Mine
variable {R : Re} {W : Win}

theorem gl_get {ρ : LocA} {i : Nat} {v : AV} (h : ρ[i]? = some (some v)) : (gl R ρ)[i]? = some (some (cc R v)) := by
  unfold gl; rw [List.getElem?_map, h]; rfl
theorem gl_set {ρ : LocA} {i : Nat} {v : AV} : gl R (ρ.set i (some v)) = (gl R ρ).set i (some (cc R v)) := by
  unfold gl; rw [List.map_set]; rfl
theorem gl_setAll : ∀ {l : List Nat} {vs : List AV} {ρ : LocA}, gl R (setAllA l vs ρ) = setAll l (ccs R vs) (gl R ρ)
  | [], vs, ρ => by unfold setAllA setAll; rfl
  | i :: r, [], ρ => by unfold setAllA setAll ccs; rfl
  | i :: r, v :: t, ρ => by
    show gl R (setAllA r t (ρ.set i (some v))) = setAll r (ccs R t) ((gl R ρ).set i (some (cc R v)))
    rw [gl_setAll, gl_set]
theorem gl_loc (fd : FD) (vs : List AV) : gl R (locA fd vs) = locO fd (ccs R vs) := by
  unfold gl locA locO
  rw [List.map_append, ccs_map, List.map_map, List.map_map, List.map_replicate]; rfl

structure KOk (T : Tab) (N : Known) : Prop where
  ok : ∀ f vs v, N.get f vs = some v → ∀ n, N.need ≤ n → ∀ σ, (run T (n + 1)).C f vs σ = some (.ok v, σ)

structure LeR (R : Re) (A : RecA) (B : Rec) : Prop where
  E : ∀ e ρ σ, Le R (cc R) (A.E e ρ σ) (B.E e (gl R ρ) σ)
  Es : ∀ e ρ σ, Le R (ccs R) (A.Es e ρ σ) (B.Es e (gl R ρ) σ)
  T : ∀ e ρ σ, Le R (_root_.id) (A.T e ρ σ) (B.T e (gl R ρ) σ)
  S : ∀ e ρ σ, Le R (cf R) (A.S e ρ σ) (B.S e (gl R ρ) σ)
  Ss : ∀ e ρ σ, Le R (cf R) (A.Ss e ρ σ) (B.Ss e (gl R ρ) σ)
  C : ∀ f vs σ x, A.C f vs σ = some x → B.C f (ccs R vs) σ = some (x.1.map (cc R), x.2)

variable {A : RecA} {B : Rec} {T : Tab}

theorem Le.optI {β : Type} {c : β → V} {x : OutA β} {y : Out V} (h : Le R c x y) : Le R c x y := h

theorem le_opt (L : LeR R A B) (hd : R.d ≤ 5000) (e : Option ME) (ρ : LocA) (σ : Mem) : Le R (bdI R) (optA e A.E ρ σ) (optO e B.E (gl R ρ) σ) := by
  cases e with
  | none => exact Le.ok
  | some e =>
    refine Le.bind (L.E e ρ σ) fun v ρ σ => ?_
    split
    · rename_i i
      split
      · rename_i hs
        show Le R (bdI R) _ (if small i then some (.ok (some i), gl R ρ, σ) else none)
        rw [if_pos hs]; exact Le.ok
      · exact Le.none
    · rename_i i
      split
      · rename_i hs
        show Le R (bdI R) _ (if small (i + (R.d : Int)) then some (.ok (some (i + (R.d : Int))), gl R ρ, σ) else none)
        rw [if_pos (by unfold small; simp only [Bool.and_eq_true, decide_eq_true_eq]; lia)]; exact Le.ok
      · exact Le.none
    · exact Le.none

theorem le_cmpV (hW : WR W R) {o : CmpOp} {u v : AV} {ρ : LocA} {σ : Mem} : Le R (cc R) (retA ρ σ ((cmpA W o u v).map fun b => AV.o (.bool b))) (retO (gl R ρ) σ ((opCmp o (cc R u) (cc R v)).map .bool)) := by
  refine Le.ret fun x h => ?_
  cases hx : cmpA W o u v with
  | none => rw [hx] at h; cases h
  | some b => rw [hx] at h; cases h; rw [cmpA_ok hW hx]; rfl

theorem le_var {i : Nat} {v : AV} {ρ : LocA} {σ : Mem} (h : ρ[i]? = some (some v)) : Le R (cc R) (some (.ok v, ρ, σ)) ((stepR T B).E (.var i) (gl R ρ) σ) := by
  show Le R (cc R) _ (match (gl R ρ)[i]? with | some (some v) => some (.ok v, gl R ρ, σ) | _ => none)
  rw [gl_get h]; exact Le.ok
theorem le_gl {k : Nat} {nm : Str} {v : V} {ρ : LocA} {σ : Mem} (h : T.CT[k]? = some (nm, v)) : Le R (cc R) (some (.ok (.o v), ρ, σ)) ((stepR T B).E (.gl k) (gl R ρ) σ) := by
  show Le R (cc R) _ (match T.CT[k]? with | some (_, v) => some (.ok v, gl R ρ, σ) | none => none)
  rw [h]; exact Le.ok
theorem isKs_ok (hW : WR W R) {u : AV} (h : isKs W u = true) : isStr (cc R u) = true := by
  unfold isKs at h
  split at h
  · cases hW; rfl
  · cases h
theorem slc_eq {u : V} {l h : Option Int} {ρ : Loc} {σ : Mem} : (match u with
    | .str s => if s.length ≤ 100000 then some (.ok (.str (slice s l h)), ρ, σ) else none
    | .lst s => match l, h with
      | none, some k => if 0 ≤ k ∧ s.length ≤ 100000 then some (.ok (.lst (s.take k.toNat)), ρ, σ) else none
      | _, _ => none
    | _ => none : Out V) = retO ρ σ (slcV u l h) := by
  unfold slcV retO
  cases u <;> try rfl
  · dsimp only; split <;> rfl
  · cases l <;> cases h <;> dsimp only <;> (try split) <;> rfl

theorem le_E (hW : WR W R) (L : LeR R A B) (e : ME) (ρ : LocA) (σ : Mem) : Le R (cc R) (stepAE T W A e ρ σ) ((stepR T B).E e (gl R ρ) σ) := by
  have hd : R.d ≤ 5000 := by have := hW.len; lia
  cases e with
  | var i =>
    dsimp only [stepAE]
    split
    · rename_i h; exact le_var h
    · exact Le.none
  | gl k =>
    dsimp only [stepAE]
    split
    · rename_i h; exact le_gl h
    · exact Le.none
  | lit v =>
    exact Le.ok
  | not e =>
    exact Le.bind (L.T _ _ _) fun v ρ σ => Le.ok
  | neg e =>
    refine Le.bind (L.E _ _ _) fun v ρ σ => ?_
    split
    · exact Le.ok
    · exact Le.none
  | bin o a b =>
    exact Le.bind (L.E _ _ _) fun u ρ σ => Le.bind (L.E _ _ _) fun v ρ σ => Le.ret fun x h => binA_ok h
  | cmp o a b =>
    exact Le.bind (L.E _ _ _) fun u ρ σ => Le.bind (L.E _ _ _) fun v ρ σ => le_cmpV hW
  | cmp2 o1 o2 a b c =>
    refine Le.bind (L.E _ _ _) fun u ρ σ => Le.bind (L.E _ _ _) fun v ρ σ => ?_
    split
    · rename_i h; rw [cmpA_ok hW h]; exact Le.bind (L.E _ _ _) fun x ρ σ => le_cmpV hW
    · rename_i h; rw [cmpA_ok hW h]; exact Le.ok
    · exact Le.none
  | andL l =>
    dsimp only [stepAE]
    split
    · exact Le.none
    · exact L.E _ _ _
    · rename_i r hne
      cases r with
      | nil => exact absurd rfl hne
      | cons x y =>
        refine Le.bind (L.E _ _ _) fun v ρ σ => ?_
        split
        · rename_i h; rw [truA_ok h]; exact L.E _ _ _
        · rename_i h; rw [truA_ok h]; exact Le.ok
        · exact Le.none
  | orL l =>
    dsimp only [stepAE]
    split
    · exact Le.none
    · exact L.E _ _ _
    · rename_i r hne
      cases r with
      | nil => exact absurd rfl hne
      | cons x y =>
        refine Le.bind (L.E _ _ _) fun v ρ σ => ?_
        split
        · rename_i h; rw [truA_ok h]; exact L.E _ _ _
        · rename_i h; rw [truA_ok h]; exact Le.ok
        · exact Le.none
  | ite t a b =>
    refine Le.bind (L.T _ _ _) fun x ρ σ => ?_
    show Le R (cc R) (if x then _ else _) (if x then _ else _)
    split
    · exact L.E _ _ _
    · exact L.E _ _ _
  | tup l =>
    refine Le.bind (L.Es _ _ _) fun vs ρ σ => ?_
    split
    · rename_i h
      rw [if_pos (by rw [ccs_len]; exact h), ← cc_mkT]; exact Le.ok
    · exact Le.none
  | lstF l =>
    refine Le.bind (L.Es _ _ _) fun vs ρ σ => ?_
    split
    · rename_i us hu
      split
      · rename_i h; rw [unOs_ccs hu, if_pos h]; exact Le.ok
      · exact Le.none
    · exact Le.none
  | lstM l =>
    refine Le.bind (L.Es _ _ _) fun vs ρ σ => ?_
    split
    · rename_i us hu
      split
      · rename_i h; rw [unOs_ccs hu, if_pos h]; exact Le.ok
      · exact Le.none
    · exact Le.none
  | idx a i =>
    exact Le.bind (L.E _ _ _) fun u ρ σ => Le.bind (L.E _ _ _) fun v ρ σ => Le.ret fun x h => idxA_ok hW h
  | slc a lo hi =>
    refine Le.bind (L.E _ _ _) fun u ρ σ => Le.bind (le_opt L hd _ _ _) fun l ρ σ => Le.bind (le_opt L hd _ _ _) fun h ρ σ => ?_
    exact Eq.mpr (congrArg (fun z => Le R (cc R) (retA ρ σ (slcA W u l h)) z) (slc_eq (u := cc R u) (l := bdI R l) (h := bdI R h) (ρ := gl R ρ) (σ := σ))) (Le.ret fun x e => slcA_ok hW e)
  | call f l =>
    refine Le.bind (L.Es _ _ _) fun vs ρ σ => ?_
    intro z hz
    cases hx : A.C f vs σ with
    | none => rw [hx] at hz; cases hz
    | some x => rw [hx] at hz; cases hz; rw [L.C _ _ _ _ hx]; rfl
  | mk l =>
    refine Le.bind (L.Es _ _ _) fun vs ρ σ => ?_
    unfold mkA
    split
    · rename_i h; rw [unOs_ccs h]; exact Le.ok
    · exact Le.none
  | bi b l =>
    exact Le.bind (L.Es _ _ _) fun vs ρ σ => Le.ret fun x h => biA_ok hW h
  | app a x =>
    refine Le.bind (L.E _ _ _) fun u ρ σ => ?_
    split
    · rename_i u hu
      split
      · rename_i r hr
        rw [unO_eq hu]
        show Le R (cc R) _ (match isListRef u σ with | some r => _ | none => _)
        rw [hr]
        refine Le.bind (L.E _ _ _) fun v ρ σ => ?_
        split
        · rename_i v hv
          rw [unO_eq hv]
          split
          · rename_i l hl
            split
            · rename_i hz
              first
                | exact Le.ok
                | (rw [hl]
                   show Le R (cc R) _ (if l.length ≤ 100000 then some (.ok V.none, gl R ρ, σ.set r (.list (l ++ [v]))) else none)
                   rw [if_pos hz]; exact Le.ok)
            · exact Le.none
          · exact Le.none
        · exact Le.none
      · exact Le.none
    · exact Le.none
  | pop a =>
    refine Le.bind (L.E _ _ _) fun u ρ σ => ?_
    split
    · rename_i r
      split
      · rename_i l hl
        split
        · rename_i v hv
          split
          · rename_i hz
            show Le R (cc R) _ (match σ[r]? with | some (.list l) => (match l.getLast? with | some v => (if l.length ≤ 100000 then some (.ok v, gl R ρ, σ.set r (.list l.dropLast)) else none) | none => none) | _ => none)
            rw [hl]; dsimp only; rw [hv]; dsimp only; rw [if_pos hz]; exact Le.ok
          · exact Le.none
        · exact Le.none
      · exact Le.none
    · exact Le.none
  | meth m a l =>
    refine Le.bind (L.E _ _ _) fun u ρ σ => ?_
    split
    · rename_i h
      rw [if_pos (isKs_ok hW h)]
      exact Le.bind (L.Es _ _ _) fun vs ρ σ => Le.ret fun x h => (methA_ok hW h).2
    · exact Le.none
  | attr a k =>
    refine Le.bind (L.E _ _ _) fun u ρ σ => Le.ret fun x h => ?_
    cases hu : unO u with
    | none => rw [hu] at h; cases h
    | some u' =>
      rw [hu] at h
      rw [unO_eq hu]
      change (attrOf _ u').map AV.o = some x at h
      show attrOf _ u' = _
      cases hq : attrOf _ u' with
      | none => rw [hq] at h; cases h
      | some q => rw [hq] at h; cases h; rfl
  | capj a =>
    refine Le.bind (L.E _ _ _) fun u ρ σ => ?_
    split
    · split
      · rename_i s hs
        show Le R (cc R) _ (if s.length ≤ 1000 then some (.ok (.str (s.map capC)), gl R ρ, σ) else none)
        rw [if_pos hs]; exact Le.ok
      · exact Le.none
    · exact Le.none
  | _ => exact Le.none

theorem le_C {N : Known} (hK : KOk T N) (hW : WR W R) {n : Nat} (L : LeR R A (run T n)) (f : Nat) (vs : List AV) (σ : Mem) (x : Except (List Nat) AV × Mem) (e : stepAC T N n A f vs σ = some x) :
    (run T (n + 1)).C f (ccs R vs) σ = some (x.1.map (cc R), x.2) := by
  unfold stepAC at e
  split at e
  · rename_i v hv
    split at e
    · rename_i hn
      cases e
      cases hu : unOs vs with
      | none => rw [hu] at hv; cases hv
      | some us =>
        rw [hu] at hv
        rw [unOs_ccs hu, hK.ok f us v hv n hn σ]; rfl
    · cases e
  · split at e
    · cases e
    · rename_i fd hfd
      show stepC T (run T n) f (ccs R vs) σ = _
      unfold stepC
      rw [hfd]
      show callO fd ((run T n).Ss fd.body) (ccs R vs) σ = _
      unfold callA at e
      unfold callO
      rw [ccs_len, aNoRefs_ok hW.noRef, ← gl_loc]
      split at e
      · rename_i hl
        rw [if_pos hl]
        split at e
        · rename_i hr
          rw [if_pos hr]
          split at e
          · rename_i h; cases e; rw [L.Ss _ _ _ _ h]; rfl
          · rename_i r ρ' σ' h
            rw [L.Ss _ _ _ _ h]
            cases hz : fzA σ' r.val with
            | none => rw [hz] at e; cases e
            | some z =>
              rw [hz] at e; cases e
              have : (cf R r).val = cc R r.val := by cases r <;> rfl
              show (fz σ' (cf R r).val).map (fun v => (Except.ok v, σ)) = _
              rw [this, fzA_ok _ _ hz]; rfl
          · cases e
        · rename_i hr
          rw [if_neg hr]
          split at e
          · rename_i h; cases e; rw [L.Ss _ _ _ _ h]; rfl
          · rename_i r ρ' σ' h
            cases e
            rw [L.Ss _ _ _ _ h]
            have : (cf R r).val = cc R r.val := by cases r <;> rfl
            show some (Except.ok (cf R r).val, σ') = _
            rw [this]; rfl
          · cases e
      · cases e

theorem le_Es (L : LeR R A B) (e : List ME) (ρ : LocA) (σ : Mem) : Le R (ccs R) (stepAEs A e ρ σ) (stepEs B e (gl R ρ) σ) := by
  unfold stepAEs
  split
  · exact Le.ok
  · exact Le.bind (L.E _ _ _) fun v ρ σ => Le.bind (L.Es _ _ _) fun vs ρ σ => Le.ok

theorem le_cmpT (hW : WR W R) {o : CmpOp} {u v : AV} {ρ : LocA} {σ : Mem} : Le R (_root_.id) (retA ρ σ (cmpA W o u v)) (retO (gl R ρ) σ (opCmp o (cc R u) (cc R v))) := Le.ret fun x h => cmpA_ok hW h

theorem le_T (hW : WR W R) (L : LeR R A B) (e : ME) (ρ : LocA) (σ : Mem) : Le R (_root_.id) (stepAT W A e ρ σ) (stepT B e (gl R ρ) σ) := by
  cases e
  case not e => exact Le.bind (L.T _ _ _) fun v ρ σ => Le.ok
  case andL l =>
    cases l with
    | nil => exact Le.ok
    | cons e r =>
      refine Le.bind (L.T _ _ _) fun v ρ σ => ?_
      show Le R (_root_.id) (if v then _ else _) (if v then _ else _)
      split
      · exact L.T _ _ _
      · exact Le.ok
  case orL l =>
    cases l with
    | nil => exact Le.ok
    | cons e r =>
      refine Le.bind (L.T _ _ _) fun v ρ σ => ?_
      show Le R (_root_.id) (if v then _ else _) (if v then _ else _)
      split
      · exact Le.ok
      · exact L.T _ _ _
  case ite t a b =>
    refine Le.bind (L.T _ _ _) fun v ρ σ => ?_
    show Le R (_root_.id) (if v then _ else _) (if v then _ else _)
    split
    · exact L.T _ _ _
    · exact L.T _ _ _
  case cmp o a b => exact Le.bind (L.E _ _ _) fun u ρ σ => Le.bind (L.E _ _ _) fun v ρ σ => le_cmpT hW
  case cmp2 o1 o2 a b c =>
    refine Le.bind (L.E _ _ _) fun u ρ σ => Le.bind (L.E _ _ _) fun v ρ σ => ?_
    split
    · rename_i h; rw [cmpA_ok hW h]; exact Le.bind (L.E _ _ _) fun x ρ σ => le_cmpT hW
    · rename_i h; rw [cmpA_ok hW h]; exact Le.ok
    · exact Le.none
  all_goals exact Le.bind (L.E _ _ _) fun v ρ σ => Le.ret fun x h => truA_ok h

theorem le_asgT {l : List Nat} {v : AV} {ρ : LocA} {σ : Mem} : Le R (cf R) (asgTA l v ρ σ) (asgTO l (cc R v) (gl R ρ) σ) := by
  unfold asgTA
  split
  · rename_i vs
    split
    · rename_i h
      show Le R (cf R) _ (if vs.length = l.length then some (.ok .next, setAll l vs (gl R ρ), σ) else none)
      rw [if_pos h]
      have := gl_setAll (R := R) (l := l) (vs := vs.map .o) (ρ := ρ)
      rw [ccs_o] at this
      rw [← this]; exact Le.ok
    · exact Le.none
  · rename_i vs
    split
    · rename_i h
      show Le R (cf R) _ (if (ccs R vs).length = l.length then some (.ok .next, setAll l (ccs R vs) (gl R ρ), σ) else none)
      rw [if_pos (by rw [ccs_len]; exact h), ← gl_setAll]; exact Le.ok
    · exact Le.none
  · exact Le.none

theorem le_aug {o : Operator} {i : Nat} {u v : AV} {ρ : LocA} {σ : Mem} : Le R (cf R) (augA o i u v ρ σ) (augO o i (cc R u) (cc R v) (gl R ρ) σ) := by
  unfold augA
  split
  · rename_i a b
    show Le R (cf R) _ (some (.ok .next, (gl R ρ).set i (some (.int (a + b))), σ))
    have := gl_set (R := R) (ρ := ρ) (i := i) (v := .o (.int (a + b)))
    rw [show (V.int (a + b)) = cc R (.o (.int (a + b))) from rfl, ← this]; exact Le.ok
  · rename_i a b
    show Le R (cf R) _ (some (.ok .next, (gl R ρ).set i (some (.int (a + R.d + b))), σ))
    have := gl_set (R := R) (ρ := ρ) (i := i) (v := .p (a + b))
    rw [show (V.int (a + R.d + b)) = cc R (.p (a + b)) from by show V.int (a + R.d + b) = V.int (a + b + R.d); congr 1; lia, ← this]; exact Le.ok
  · exact Le.none

theorem Le.err {β δ : Type} {c : β → δ} {s : List Nat} {ρ : LocA} {σ : Mem} : Le R c (some (.error s, ρ, σ)) (some (.error s, gl R ρ, σ)) := fun _ q => by cases q; rfl

theorem le_raise {vs : List AV} {ρ : LocA} {σ : Mem} : Le R (cf R) (raiseA vs ρ σ) (raiseO (ccs R vs) (gl R ρ) σ) := by
  unfold raiseA
  split
  · exact Le.err
  · exact Le.none

theorem le_S (L : LeR R A B) (e : MS) (ρ : LocA) (σ : Mem) : Le R (cf R) (stepAS A e ρ σ) (stepS B e (gl R ρ) σ) := by
  cases e
  case asg i e =>
    refine Le.bind (L.E _ _ _) fun v ρ σ => ?_
    rw [← gl_set]; exact Le.ok
  case asgT l e => exact Le.bind (L.E _ _ _) fun v ρ σ => le_asgT
  case aug i o e =>
    show Le R (cf R) (match ρ[i]? with | some (some u) => bindA (A.E e ρ σ) (fun v ρ σ => augA o i u v ρ σ) | _ => none) (match (gl R ρ)[i]? with | some (some u) => bindO (B.E e (gl R ρ) σ) (fun v ρ σ => augO o i u v ρ σ) | _ => none)
    cases h : ρ[i]? with
    | none => exact Le.none
    | some w =>
      cases w with
      | none => exact Le.none
      | some u =>
        rw [gl_get h]
        exact Le.bind (L.E _ _ _) fun v ρ σ => le_aug
  case expr e => exact Le.bind (L.E _ _ _) fun v ρ σ => Le.ok
  case ife t a b =>
    refine Le.bind (L.T _ _ _) fun v ρ σ => ?_
    show Le R (cf R) (if v then _ else _) (if v then _ else _)
    split
    · exact L.Ss _ _ _
    · exact L.Ss _ _ _
  case whl t b =>
    refine Le.bind (L.T _ _ _) fun v ρ σ => ?_
    show Le R (cf R) (if v then _ else _) (if v then _ else _)
    split
    · refine Le.bind (L.Ss _ _ _) fun f ρ σ => ?_
      cases f with
      | next => exact L.S _ _ _
      | ret v => exact Le.ok
    · exact Le.ok
  case ret e => exact Le.bind (L.E _ _ _) fun v ρ σ => Le.ok
  case raise c l => exact Le.bind (L.Es _ _ _) fun vs ρ σ => le_raise
  all_goals exact Le.none

theorem le_Ss (L : LeR R A B) (e : List MS) (ρ : LocA) (σ : Mem) : Le R (cf R) (stepASs A e ρ σ) (stepSs B e (gl R ρ) σ) := by
  cases e with
  | nil => exact Le.ok
  | cons s r =>
    refine Le.bind (L.S _ _ _) fun f ρ σ => ?_
    cases f with
    | next => exact L.Ss _ _ _
    | ret v => exact Le.ok

theorem runA_ok {N : Known} (hK : KOk T N) (hW : WR W R) : ∀ n, LeR R (runA T N W n) (run T n)
  | 0 => ⟨fun _ _ _ => Le.none, fun _ _ _ => Le.none, fun _ _ _ => Le.none, fun _ _ _ => Le.none, fun _ _ _ => Le.none, fun _ _ _ _ q => nomatch q⟩
  | n + 1 => ⟨fun e ρ σ => le_E hW (runA_ok hK hW n) e ρ σ, fun e ρ σ => le_Es (runA_ok hK hW n) e ρ σ, fun e ρ σ => le_T hW (runA_ok hK hW n) e ρ σ,
    fun e ρ σ => le_S (runA_ok hK hW n) e ρ σ, fun e ρ σ => le_Ss (runA_ok hK hW n) e ρ σ, fun f vs σ x e => le_C hK hW (runA_ok hK hW n) f vs σ x e⟩
end Mine

end

section
open PySem PySem.W PyProof.Rows PySem.Builtin PySem.Builtin.Str
set_option maxRecDepth 100000
namespace Mine
noncomputable def splitS : List Nat → List Nat → List (List Nat)
  | [], cur => [cur.reverse]
  | c :: r, cur => if c = 32 then cur.reverse :: splitS r [] else splitS r (c :: cur)
noncomputable def ctStr (k : Nat) : List Nat := match ctTab[k]? with
  | some (_, .str s) => s
  | _ => []
noncomputable def wordsL : List (List Nat) := splitS (ctStr 4) []
noncomputable def fnsL : List (List Nat) := splitS (ctStr 5) []

theorem occ_all (s : List Nat) (c hi lim : Nat) (hh : hi ≤ s.length) : ∀ (k a : Nat) (found : Array Nat) (f : Nat), f ≤ a → found.size + k ≤ lim →
    (forIn (m := Id) (List.range' a k) (found, f) (StrLaws.occBody ⟨s.toArray⟩ ⟨#[c]⟩ hi lim)).run.fst.toList = found.toList ++ (List.range' a k).filter (pOne s c hi)
  | 0, a, found, f, _, _ => by simp
  | k + 1, a, found, f, hf, hl => by
    rw [List.range'_succ, List.forIn_cons, List.filter_cons]
    have hlen : (⟨#[c]⟩ : Str).length = 1 := rfl
    by_cases hc : pOne s c hi a = true
    · have hc' := hc
      simp only [pOne, Bool.and_eq_true, decide_eq_true_eq, beq_iff_eq] at hc'
      have hp : (((found.size < lim ∧ f ≤ a) ∧ a + (⟨#[c]⟩ : Str).length ≤ hi) ∧ subAt ⟨s.toArray⟩ ⟨#[c]⟩ a = true) :=
        ⟨⟨⟨by lia, hf⟩, by rw [hlen]; exact hc'.1⟩, (subAt_one s c a (by lia)).mpr hc'.2⟩
      simp only [StrLaws.occBody, if_pos hp, hc, if_true]
      have ih := occ_all s c hi lim hh k (a + 1) (found.push a) (a + (⟨#[c]⟩ : Str).length) (by rw [hlen]; lia) (by simp; lia)
      refine ih.trans ?_
      simp
    · have hn : ¬ (((found.size < lim ∧ f ≤ a) ∧ a + (⟨#[c]⟩ : Str).length ≤ hi) ∧ subAt ⟨s.toArray⟩ ⟨#[c]⟩ a = true) := fun q => hc (by
        rw [hlen] at q
        simp only [pOne, Bool.and_eq_true, decide_eq_true_eq, beq_iff_eq]
        exact ⟨q.1.2, (subAt_one s c a (by lia)).mp q.2⟩)
      simp only [StrLaws.occBody, if_neg hn, hc]
      exact occ_all s c hi lim hh k (a + 1) found f (by lia) (by lia)

noncomputable def cutsL (s : List Nat) : List Nat := (List.range' 0 (s.length + 1)).filter (pOne s 32 s.length)
theorem cuts_eq (s : List Nat) : occurrences ⟨s.toArray⟩ ⟨[32].toArray⟩ 0 (⟨s.toArray⟩ : Str).length ((⟨s.toArray⟩ : Str).length + 1) = cutsL s := by
  rw [StrLaws.occ_eq]
  have : (⟨s.toArray⟩ : Str).length = s.length := by simp [Str.length]
  rw [this]
  have h := occ_all s 32 s.length (s.length + 1) (Nat.le_refl _) (s.length + 1) 0 #[] 0 (Nat.le_refl _) (by simp)
  simpa [cutsL] using h

noncomputable def partsL (s : List Nat) (cuts : List Nat) : List (List Nat) := ((0 :: cuts.map (· + 1)).zip (cuts ++ [s.length])).map fun p => (s.drop p.1).take (p.2 - p.1)
theorem parts_eq (s cuts : List Nat) : (partsBetween ⟨s.toArray⟩ cuts 1).map (fun p => V.str p.cps.toList) = (partsL s cuts).map .str := by
  unfold partsBetween partsL
  rw [List.map_map, List.map_map]
  have : (⟨s.toArray⟩ : Str).length = s.length := by simp [Str.length]
  rw [this]
  apply List.map_congr_left
  intro p _
  simp [strSub, List.take_drop]

noncomputable def kind1 (s : List Nat) : Bool := s.all (· < 256)
theorem split_eq (s : List Nat) (l : List (List Nat)) (hl : 1 ≤ s.length ∧ s.length ≤ 1000) (hk : kind1 s = true) (hc : cutsL s ≠ []) (hp : partsL s (cutsL s) = l) (hn : l.length ≤ 1000) : splitV s [32] = some [.lst (l.map .str)] := by
  have hz : (⟨s.toArray⟩ : Str).length = s.length := by simp [Str.length]
  unfold splitV
  dsimp only
  rw [cuts_eq]
  have hk' : Builtin.Str.strKind ⟨s.toArray⟩ = 1 := by
    unfold Builtin.Str.strKind
    rw [if_pos]
    simpa [kind1] using hk
  have hpl : (partsBetween ⟨s.toArray⟩ (cutsL s) 1).map (fun p => V.str p.cps.toList) = l.map .str := by rw [parts_eq, hp]
  have hq : (partsBetween ⟨s.toArray⟩ (cutsL s) 1).length = l.length := by have := congrArg List.length hpl; simpa using this
  rw [show (⟨[32].toArray⟩ : Str).length = 1 from rfl]
  have hk2 : Builtin.Str.strKind ⟨[32].toArray⟩ = 1 := by unfold Builtin.Str.strKind; rw [if_pos]; simp
  have hce : (cutsL s).isEmpty = false := by cases hx : cutsL s with
    | nil => exact absurd hx hc
    | cons a b => rfl
  rw [hk', hk2, hce, hpl, if_pos]
  · rfl
  · have a1 : (⟨s.toArray⟩ : Str).length ≤ 1000 := by rw [hz]; exact hl.2
    have a2 : 1 ≤ (⟨s.toArray⟩ : Str).length := by rw [hz]; exact hl.1
    rw [← hq] at hn
    generalize (⟨s.toArray⟩ : Str).length = q1 at a1 a2 ⊢
    generalize (partsBetween ⟨s.toArray⟩ (cutsL s) 1).length = q2 at hn ⊢
    have b1 : ¬ q1 < 1 := by lia
    have b2 : q1 ≤ 100000 := by lia
    have b3 : q2 ≤ 100000 := by lia
    simp [b1, b2, b3]

theorem splitW : splitV (ctStr 4) [32] = some [.lst (wordsL.map .str)] := split_eq _ _ (by decide +kernel) (by decide +kernel) (by decide +kernel) (by decide +kernel) (by decide +kernel)
theorem splitF : splitV (ctStr 5) [32] = some [.lst (fnsL.map .str)] := split_eq _ _ (by decide +kernel) (by decide +kernel) (by decide +kernel) (by decide +kernel) (by decide +kernel)
end Mine

end

section
open PySem PySem.W PyProof.Rows PySem.Builtin PySem.Builtin.Str
set_option maxRecDepth 100000
namespace Mine

/-- more fuel changes no answer -/
noncomputable def LeO {β : Type} (a b : Option β) : Prop := ∀ x, a = some x → b = some x
theorem LeO.rfl {β : Type} {a : Option β} : LeO a a := fun _ h => h
theorem LeO.none {β : Type} {b : Option β} : LeO none b := fun _ q => nomatch q
theorem LeO.bind {β δ : Type} {a b : Out β} {f g : β → Loc → Mem → Out δ} (h : LeO a b) (hf : ∀ v ρ σ, LeO (f v ρ σ) (g v ρ σ)) : LeO (bindO a f) (bindO b g) := by
  intro z e
  match a, h, e with
  | some (.error q, ρ, σ), h, e => rw [h _ _root_.rfl]; exact e
  | some (.ok v, ρ, σ), h, e => rw [h _ _root_.rfl]; exact hf v ρ σ z e
theorem LeO.map {β δ : Type} {a b : Option β} {f : β → δ} (h : LeO a b) : LeO (a.map f) (b.map f) := by
  intro z e
  cases a with
  | none => cases e
  | some x => rw [h x _root_.rfl]; exact e
theorem LeO.iff {β : Type} {p : Prop} [Decidable p] {a b a' b' : Option β} (h : LeO a b) (h' : LeO a' b') : LeO (if p then a else a') (if p then b else b') := by
  split <;> assumption

structure LeI (A B : Rec) : Prop where
  E : ∀ e ρ σ, LeO (A.E e ρ σ) (B.E e ρ σ)
  Es : ∀ e ρ σ, LeO (A.Es e ρ σ) (B.Es e ρ σ)
  T : ∀ e ρ σ, LeO (A.T e ρ σ) (B.T e ρ σ)
  S : ∀ e ρ σ, LeO (A.S e ρ σ) (B.S e ρ σ)
  Ss : ∀ e ρ σ, LeO (A.Ss e ρ σ) (B.Ss e ρ σ)
  C : ∀ f vs σ, LeO (A.C f vs σ) (B.C f vs σ)

variable {A B : Rec} {T : Tab}

theorem leo_opt (L : LeI A B) (e : Option ME) (ρ : Loc) (σ : Mem) : LeO (optO e A.E ρ σ) (optO e B.E ρ σ) := by
  cases e with
  | none => exact .rfl
  | some e => exact .bind (L.E _ _ _) fun v ρ σ => .rfl

theorem leo_stepE (L : LeI A B) (e : ME) (ρ : Loc) (σ : Mem) : LeO (stepE A e ρ σ) (stepE B e ρ σ) := by
  cases e with
  | var i => exact .rfl
  | gl k => exact .rfl
  | lit v => exact .rfl
  | not e => exact .bind (L.T _ _ _) fun v ρ σ => .rfl
  | neg e => exact .bind (L.E _ _ _) fun v ρ σ => .rfl
  | bin o a b => exact .bind (L.E _ _ _) fun v ρ σ => .bind (L.E _ _ _) fun v ρ σ => .rfl
  | cmp o a b => exact .bind (L.E _ _ _) fun v ρ σ => .bind (L.E _ _ _) fun v ρ σ => .rfl
  | cmp2 o1 o2 a b c =>
    refine .bind (L.E _ _ _) fun u ρ σ => .bind (L.E _ _ _) fun v ρ σ => ?_
    cases opCmp o1 u v with
    | none => exact .rfl
    | some b => cases b with
      | true => exact .bind (L.E _ _ _) fun v ρ σ => .rfl
      | false => exact .rfl
  | andL l => cases l with
    | nil => exact .rfl
    | cons e r => cases r with
      | nil => exact L.E _ _ _
      | cons e2 r =>
        refine .bind (L.E _ _ _) fun v ρ σ => ?_
        cases truthyV v with
        | none => exact .rfl
        | some b => cases b with
          | true => exact L.E _ _ _
          | false => exact .rfl
  | orL l => cases l with
    | nil => exact .rfl
    | cons e r => cases r with
      | nil => exact L.E _ _ _
      | cons e2 r =>
        refine .bind (L.E _ _ _) fun v ρ σ => ?_
        cases truthyV v with
        | none => exact .rfl
        | some b => cases b with
          | true => exact .rfl
          | false => exact L.E _ _ _
  | ite t a b => exact .bind (L.T _ _ _) fun v ρ σ => .iff (L.E _ _ _) (L.E _ _ _)
  | tup l => exact .bind (L.Es _ _ _) fun v ρ σ => .rfl
  | lstF l => exact .bind (L.Es _ _ _) fun v ρ σ => .rfl
  | lstM l => exact .bind (L.Es _ _ _) fun v ρ σ => .rfl
  | idx a i => exact .bind (L.E _ _ _) fun v ρ σ => .bind (L.E _ _ _) fun v ρ σ => .rfl
  | slc e lo hi => exact .bind (L.E _ _ _) fun v ρ σ => .bind (leo_opt L _ _ _) fun v ρ σ => .bind (leo_opt L _ _ _) fun v ρ σ => .rfl
  | call f l => exact .bind (L.Es _ _ _) fun v ρ σ => .map (L.C _ _ _)
  | mk l => exact .bind (L.Es _ _ _) fun v ρ σ => .rfl
  | bi b l => exact .bind (L.Es _ _ _) fun v ρ σ => .rfl
  | app a x =>
    refine .bind (L.E _ _ _) fun u ρ σ => ?_
    cases isListRef u σ with
    | none => exact .rfl
    | some r => exact .bind (L.E _ _ _) fun v ρ σ => .rfl
  | ext a x =>
    refine .bind (L.E _ _ _) fun u ρ σ => ?_
    cases isListRef u σ with
    | none => exact .rfl
    | some r => exact .bind (L.E _ _ _) fun v ρ σ => .rfl
  | pop a => exact .bind (L.E _ _ _) fun v ρ σ => .rfl
  | meth m a l => exact .bind (L.E _ _ _) fun v ρ σ => .iff (.bind (L.Es _ _ _) fun v ρ σ => .rfl) .rfl
  | attr a k => exact .bind (L.E _ _ _) fun v ρ σ => .rfl
  | jug i k => exact .rfl
  | capj a => exact .bind (L.E _ _ _) fun v ρ σ => .rfl
  | chrs a b => exact .bind (L.E _ _ _) fun v ρ σ => .bind (L.E _ _ _) fun v ρ σ => .rfl
  | bad => exact .rfl

theorem stepR_E {I : Rec} {e : ME} {ρ : Loc} {σ : Mem} (h : ∀ k, e ≠ .gl k) : (stepR T I).E e ρ σ = stepE I e ρ σ := by
  cases e <;> first | rfl | exact absurd rfl (h _)
theorem leo_E (L : LeI A B) (e : ME) (ρ : Loc) (σ : Mem) : LeO ((stepR T A).E e ρ σ) ((stepR T B).E e ρ σ) := by
  by_cases h : ∃ k, e = .gl k
  · obtain ⟨k, rfl⟩ := h; exact .rfl
  · rw [stepR_E (fun k q => h ⟨k, q⟩), stepR_E (fun k q => h ⟨k, q⟩)]
    exact leo_stepE L _ ρ σ

theorem leo_Es (L : LeI A B) (e : List ME) (ρ : Loc) (σ : Mem) : LeO (stepEs A e ρ σ) (stepEs B e ρ σ) := by
  cases e with
  | nil => exact .rfl
  | cons e r => exact .bind (L.E _ _ _) fun v ρ σ => .bind (L.Es _ _ _) fun v ρ σ => .rfl

theorem leo_T (L : LeI A B) (e : ME) (ρ : Loc) (σ : Mem) : LeO (stepT A e ρ σ) (stepT B e ρ σ) := by
  cases e with
  | not e => exact .bind (L.T _ _ _) fun v ρ σ => .rfl
  | andL l => cases l with
    | nil => exact .rfl
    | cons e r => exact .bind (L.T _ _ _) fun v ρ σ => .iff (L.T _ _ _) .rfl
  | orL l => cases l with
    | nil => exact .rfl
    | cons e r => exact .bind (L.T _ _ _) fun v ρ σ => .iff .rfl (L.T _ _ _)
  | ite t a b => exact .bind (L.T _ _ _) fun v ρ σ => .iff (L.T _ _ _) (L.T _ _ _)
  | cmp o a b => exact .bind (L.E _ _ _) fun v ρ σ => .bind (L.E _ _ _) fun v ρ σ => .rfl
  | cmp2 o1 o2 a b c =>
    refine .bind (L.E _ _ _) fun u ρ σ => .bind (L.E _ _ _) fun v ρ σ => ?_
    cases opCmp o1 u v with
    | none => exact .rfl
    | some b => cases b with
      | true => exact .bind (L.E _ _ _) fun v ρ σ => .rfl
      | false => exact .rfl
  | _ => exact .bind (L.E _ _ _) fun v ρ σ => .rfl

theorem leo_for {f g : Loc → Mem → Out Fl} (h : ∀ ρ σ, LeO (f ρ σ) (g ρ σ)) (i : Nat) : ∀ (l : List Int) (ρ : Loc) (σ : Mem), LeO (forO f i l ρ σ) (forO g i l ρ σ)
  | [], _, _ => .rfl
  | k :: r, ρ, σ => by
    refine .bind (h _ _) fun fl ρ σ => ?_
    cases fl with
    | next => exact leo_for h i r ρ σ
    | ret v => exact .rfl

theorem leo_try {a b : Out Fl} (h : LeO a b) : LeO (tryO a) (tryO b) := by
  intro z e
  cases a with
  | none => cases e
  | some x => rw [h x rfl]; exact e

theorem leo_S (L : LeI A B) (e : MS) (ρ : Loc) (σ : Mem) : LeO (stepS A e ρ σ) (stepS B e ρ σ) := by
  cases e with
  | asg i e => exact .bind (L.E _ _ _) fun v ρ σ => .rfl
  | asgT l e => exact .bind (L.E _ _ _) fun v ρ σ => .rfl
  | aug i o e =>
    show LeO (match ρ[i]? with | some (some u) => bindO (A.E e ρ σ) (fun v ρ σ => augO o i u v ρ σ) | _ => none) (match ρ[i]? with | some (some u) => bindO (B.E e ρ σ) (fun v ρ σ => augO o i u v ρ σ) | _ => none)
    cases ρ[i]? with
    | none => exact .rfl
    | some w => cases w with
      | none => exact .rfl
      | some u => exact .bind (L.E _ _ _) fun v ρ σ => .rfl
  | augJ i k => exact .rfl
  | expr e => exact .bind (L.E _ _ _) fun v ρ σ => .rfl
  | ife t a b => exact .bind (L.T _ _ _) fun v ρ σ => .iff (L.Ss _ _ _) (L.Ss _ _ _)
  | whl t b =>
    refine .bind (L.T _ _ _) fun v ρ σ => .iff (.bind (L.Ss _ _ _) fun f ρ σ => ?_) .rfl
    cases f with
    | next => exact L.S _ _ _
    | ret v => exact .rfl
  | forR i e b =>
    refine .bind (L.E _ _ _) fun v ρ σ => ?_
    cases v with
    | int k => exact .iff (leo_for (fun ρ σ => L.Ss b ρ σ) i _ ρ σ) .rfl
    | _ => exact .rfl
  | ret e => exact .bind (L.E _ _ _) fun v ρ σ => .rfl
  | raise c l => exact .bind (L.Es _ _ _) fun v ρ σ => .rfl
  | tryC b => exact leo_try (L.Ss _ _ _)
  | bad => exact .rfl

theorem leo_Ss (L : LeI A B) (e : List MS) (ρ : Loc) (σ : Mem) : LeO (stepSs A e ρ σ) (stepSs B e ρ σ) := by
  cases e with
  | nil => exact .rfl
  | cons s r =>
    refine .bind (L.S _ _ _) fun f ρ σ => ?_
    cases f with
    | next => exact L.Ss _ _ _
    | ret v => exact .rfl

theorem leo_C (L : LeI A B) (f : Nat) (vs : List V) (σ : Mem) : LeO (stepC T A f vs σ) (stepC T B f vs σ) := by
  unfold stepC
  cases T.FT[f]? with
  | none => exact .rfl
  | some fd =>
    dsimp only
    intro z e
    unfold callO at e ⊢
    split at e
    · rename_i hl
      rw [if_pos hl]
      split at e
      · rename_i hr
        rw [if_pos hr]
        cases hx : A.Ss fd.body (locO fd vs) [] with
        | none => rw [hx] at e; cases e
        | some x => rw [hx] at e; rw [L.Ss _ _ _ _ hx]; exact e
      · rename_i hr
        rw [if_neg hr]
        cases hx : A.Ss fd.body (locO fd vs) σ with
        | none => rw [hx] at e; cases e
        | some x => rw [hx] at e; rw [L.Ss _ _ _ _ hx]; exact e
    · cases e

theorem run_up (T : Tab) : ∀ n, LeI (run T n) (run T (n + 1))
  | 0 => ⟨fun _ _ _ => .none, fun _ _ _ => .none, fun _ _ _ => .none, fun _ _ _ => .none, fun _ _ _ => .none, fun _ _ _ => .none⟩
  | n + 1 => have L := run_up T n
    ⟨fun e ρ σ => leo_E L e ρ σ, fun e ρ σ => leo_Es L e ρ σ, fun e ρ σ => leo_T L e ρ σ, fun e ρ σ => leo_S L e ρ σ, fun e ρ σ => leo_Ss L e ρ σ, fun f vs σ => leo_C L f vs σ⟩
theorem LeI.trans {A B C : Rec} (x : LeI A B) (y : LeI B C) : LeI A C :=
  ⟨fun e ρ σ z h => y.E e ρ σ z (x.E e ρ σ z h), fun e ρ σ z h => y.Es e ρ σ z (x.Es e ρ σ z h), fun e ρ σ z h => y.T e ρ σ z (x.T e ρ σ z h),
    fun e ρ σ z h => y.S e ρ σ z (x.S e ρ σ z h), fun e ρ σ z h => y.Ss e ρ σ z (x.Ss e ρ σ z h), fun f vs σ z h => y.C f vs σ z (x.C f vs σ z h)⟩
theorem run_more (T : Tab) (n : Nat) : ∀ k, LeI (run T n) (run T (n + k))
  | 0 => ⟨fun _ _ _ => .rfl, fun _ _ _ => .rfl, fun _ _ _ => .rfl, fun _ _ _ => .rfl, fun _ _ _ => .rfl, fun _ _ _ => .rfl⟩
  | k + 1 => (run_more T n k).trans (run_up T (n + k))
theorem run_le (T : Tab) {n m : Nat} (h : n ≤ m) : LeI (run T n) (run T m) := by
  obtain ⟨k, rfl⟩ := Nat.le.dest h
  exact run_more T n k
end Mine

end

section
open PySem PySem.W PyProof.Rows
set_option maxRecDepth 100000
set_option maxHeartbeats 4000000
namespace Mine

noncomputable def known : Known := ⟨fun f vs => match f, vs with
  | 3, [.str s] => some (.bool (wordsL.contains s || fnsL.contains s))
  | 2, [] => some (.lst (fnsL.map .str))
  | _, _ => none, 20⟩

theorem noRefs_str : ∀ l : List (List Nat), noRefs (l.map .str) = true
  | [] => rfl
  | _ :: r => by simp [noRefs, noRef, noRefs_str r]
theorem isStrs_map : ∀ l : List (List Nat), isStrs (l.map .str) = some l
  | [] => rfl
  | s :: r => by show (isStrs (r.map .str)).map (s :: ·) = _; rw [isStrs_map r]; rfl
theorem ct4 : ctTab[4]? = some (Str.ofString "WORDS", .str (ctStr 4)) := rfl
theorem ct5 : ctTab[5]? = some (Str.ofString "FUNCTION_WORDS", .str (ctStr 5)) := rfl

section
variable {T : Tab} {n : Nat} {ρ : Loc} {σ : Mem}
theorem rE_var {i : Nat} {v : V} (h : ρ[i]? = some (some v)) : (run T (n + 1)).E (.var i) ρ σ = some (.ok v, ρ, σ) := by
  show (match ρ[i]? with | some (some v) => some (.ok v, ρ, σ) | _ => none : Out V) = _
  rw [h]
theorem rE_gl {i : Nat} {q : Str} {v : V} (h : T.CT[i]? = some (q, v)) : (run T (n + 1)).E (.gl i) ρ σ = some (.ok v, ρ, σ) := by
  show (match T.CT[i]? with | some (_, v) => some (.ok v, ρ, σ) | none => none : Out V) = _
  rw [h]
theorem rE_split {e : ME} {s : List Nat} {l : List (List Nat)} (h : (run T (n + 2)).E e ρ σ = some (.ok (.str s), ρ, σ)) (hs : splitV s [32] = some [.lst (l.map .str)]) :
    (run T (n + 3)).E (.meth 1 e [.lit (.str [32])]) ρ σ = some (.ok (.lst (l.map .str)), ρ, σ) := by
  show bindO ((run T (n + 2)).E e ρ σ) (fun u ρ σ => if isStr u then bindO ((run T (n + 2)).Es [.lit (.str [32])] ρ σ) (fun vs ρ σ => retO ρ σ (methV 1 u vs)) else none) = _
  rw [h]
  show retO ρ σ ((splitV s [32]).bind List.head?) = _
  rw [hs]; rfl
end

theorem noRefs_true {vs : List V} (h : noRefs vs = true) : noRefs vs = true := h
section
variable {T : Tab} {n : Nat}
theorem rC_pure {f : Nat} {fd : FD} {vs : List V} {σ σ' : Mem} {ρ' : Loc} {v : Fl} {u : V} (hf : T.FT[f]? = some fd) (hl : vs.length = fd.np) (hr : noRefs vs = true)
    (h : (run T n).Ss fd.body (locO fd vs) [] = some (.ok v, ρ', σ')) (hz : fz σ' v.val = some u) : (run T (n + 1)).C f vs σ = some (.ok u, σ) := by
  show stepC T (run T n) f vs σ = _
  unfold stepC callO
  rw [hf]
  dsimp only
  rw [if_pos hl, if_pos hr, h]
  dsimp only
  rw [hz]; rfl
theorem rC_err {f : Nat} {fd : FD} {vs : List V} {σ σ' : Mem} {ρ' : Loc} {c : List Nat} (hf : T.FT[f]? = some fd) (hl : vs.length = fd.np) (hr : noRefs vs = true)
    (h : (run T n).Ss fd.body (locO fd vs) [] = some (.error c, ρ', σ')) : (run T (n + 1)).C f vs σ = some (.error c, σ) := by
  show stepC T (run T n) f vs σ = _
  unfold stepC callO
  rw [hf]
  dsimp only
  rw [if_pos hl, if_pos hr, h]
theorem rC_ref {f : Nat} {fd : FD} {vs : List V} {σ σ' : Mem} {ρ' : Loc} {v : Fl} (hf : T.FT[f]? = some fd) (hl : vs.length = fd.np) (hr : noRefs vs = false)
    (h : (run T n).Ss fd.body (locO fd vs) σ = some (.ok v, ρ', σ')) : (run T (n + 1)).C f vs σ = some (.ok v.val, σ') := by
  show stepC T (run T n) f vs σ = _
  unfold stepC callO
  rw [hf]
  dsimp only
  rw [if_pos hl, if_neg (by rw [hr]; exact Bool.false_ne_true), h]
theorem rC_any {f : Nat} {vs : List V} {σ : Mem} {r : Except (List Nat) V} (hr : noRefs vs = true) (h : (run T n).C f vs [] = some (r, [])) : (run T n).C f vs σ = some (r, σ) := by
  cases n with
  | zero => cases h
  | succ n =>
    have h : stepC T (run T n) f vs [] = some (r, []) := h
    show stepC T (run T n) f vs σ = _
    unfold stepC callO at h ⊢
    split at h
    · cases h
    · rename_i fd hf
      by_cases hl : vs.length = fd.np
      · rw [if_pos hl, if_pos hr] at h ⊢
        match hg : (run T n).Ss fd.body (locO fd vs) [] with
        | some (.error c, _, _) => rw [hg] at h; cases h; rfl
        | some (.ok x, _, σ') =>
          rw [hg] at h
          dsimp only at h ⊢
          cases hz : fz σ' x.val with
          | none => rw [hz] at h; cases h
          | some u => rw [hz] at h; cases h; rfl
        | none => rw [hg] at h; cases h
      · rw [if_neg hl] at h; cases h
end

theorem f2_ok (n : Nat) (hn : 5 ≤ n) (σ : Mem) : (run theTab (n + 1)).C 2 [] σ = some (.ok (.lst (fnsL.map .str)), σ) := by
  obtain ⟨m, rfl⟩ : ∃ m, n = m + 5 := ⟨n - 5, by lia⟩
  have h1 : (run theTab (m + 3)).E (.meth 1 (.gl 5) [.lit (.str [32])]) [] [] = some (.ok (.lst (fnsL.map .str)), [], []) := rE_split (rE_gl ct5) splitF
  have h2 : (run theTab (m + 5)).Ss b_functions [] [] = some (.ok (.ret (.lst (fnsL.map .str))), [], []) := by
    show bindO (bindO ((run theTab (m + 3)).E (.meth 1 (.gl 5) [.lit (.str [32])]) [] []) _) _ = _
    rw [h1]; rfl
  refine rC_pure (fd := ⟨Str.ofString "functions", 0, [], b_functions⟩) rfl rfl rfl h2 ?_
  show fz [] (.lst (fnsL.map .str)) = _
  unfold fz
  rw [noRefs_str]; rfl

theorem bool_or (a b : Bool) : (if a = true then some (.bool true) else some (.bool b) : Option V) = some (.bool (a || b)) := by cases a <;> rfl
theorem rE_or {T : Tab} {n : Nat} {a b : ME} {ρ : Loc} {σ : Mem} {x y : Bool} (h1 : (run T (n + 2)).E a ρ σ = some (.ok (.bool x), ρ, σ)) (h2 : (run T (n + 1)).E b ρ σ = some (.ok (.bool y), ρ, σ)) :
    (run T (n + 3)).E (.orL [a, b]) ρ σ = some (.ok (.bool (x || y)), ρ, σ) := by
  show bindO ((run T (n + 2)).E a ρ σ) (fun v ρ σ => match truthyV v with
      | some false => (run T (n + 1)).E b ρ σ
      | some true => some (.ok v, ρ, σ)
      | none => none) = _
  rw [h1]
  cases x with
  | false => exact h2
  | true => rfl
theorem rE_in {T : Tab} {n : Nat} {b : ME} {ρ : Loc} {σ : Mem} {s : List Nat} {l : List (List Nat)} (i : Nat) (h1 : ρ[i]? = some (some (.str s))) (h2 : (run T (n + 1)).E b ρ σ = some (.ok (.lst (l.map .str)), ρ, σ)) :
    (run T (n + 2)).E (.cmp .In (.var i) b) ρ σ = some (.ok (.bool (l.contains s)), ρ, σ) := by
  show bindO ((run T (n + 1)).E (.var i) ρ σ) (fun u ρ σ => bindO ((run T (n + 1)).E b ρ σ) (fun v ρ σ => retO ρ σ ((opCmp .In u v).map V.bool))) = _
  rw [rE_var h1]
  show bindO ((run T (n + 1)).E b ρ σ) (fun v ρ σ => retO ρ σ ((opCmp .In (.str s) v).map V.bool)) = _
  rw [h2]
  show retO _ _ ((orO ((isStrs (l.map .str)).map (fun ss => ss.contains s)) none).map V.bool) = _
  rw [isStrs_map]; rfl
theorem f3_ok (s : List Nat) (n : Nat) (hn : 20 ≤ n) (σ : Mem) : (run theTab (n + 1)).C 3 [.str s] σ = some (.ok (.bool (wordsL.contains s || fnsL.contains s)), σ) := by
  obtain ⟨m, rfl⟩ : ∃ m, n = m + 20 := ⟨n - 20, by lia⟩
  have h1 : (run theTab (m + 16)).E (.meth 1 (.gl 4) [.lit (.str [32])]) [some (.str s)] [] = some (.ok (.lst (wordsL.map .str)), [some (.str s)], []) := rE_split (rE_gl ct4) splitW
  have h3 : (run theTab (m + 17)).E (.cmp .In (.var 0) (.meth 1 (.gl 4) [(.lit (.str [32]))])) [some (.str s)] [] = some (.ok (.bool (wordsL.contains s)), [some (.str s)], []) := rE_in 0 rfl h1
  have h2 : (run theTab (m + 15)).E (.call 2 []) [some (.str s)] [] = some (.ok (.lst (fnsL.map .str)), [some (.str s)], []) := by
    have q : (run theTab (m + 14)).C 2 [] [] = _ := f2_ok (m + 13) (by lia) []
    show (((run theTab (m + 14)).C 2 [] []).map fun x => (x.1, [some (V.str s)], x.2)) = _
    rw [q]; rfl
  have h4 : (run theTab (m + 16)).E (.cmp .In (.var 0) (.call 2 [])) [some (.str s)] [] = some (.ok (.bool (fnsL.contains s)), [some (.str s)], []) := rE_in 0 rfl h2
  have h5 := rE_or h3 h4
  have h6 : (run theTab (m + 20)).Ss b_is_word [some (.str s)] [] = some (.ok (.ret (.bool (wordsL.contains s || fnsL.contains s))), [some (.str s)], []) := by
    show bindO (bindO ((run theTab (m + 18)).E _ [some (.str s)] []) _) _ = _
    rw [h5]; rfl
  exact rC_pure (fd := ⟨Str.ofString "is_word", 1, [Str.ofString "told"], b_is_word⟩) rfl rfl rfl h6 rfl
theorem known_ok : KOk theTab known := ⟨fun f vs v h n hn σ => by
  unfold known at h hn
  dsimp only at h hn
  split at h
  · cases h; exact f3_ok _ n hn σ
  · cases h; exact f2_ok n (by lia) σ
  · cases h⟩
end Mine

end

section
open PySem PySem.W PyProof.Rows
set_option maxRecDepth 100000
set_option maxHeartbeats 4000000
namespace Mine

/-- a piece: its text, what it gives, its tokens -/
structure Pc where
  t : List Nat
  g : Option (List V)
  k : List V
noncomputable def pcs0 : List Pc := [
  ⟨[49], (some [.tup [.str [119, 104, 111, 108, 101], .int 1]]), [.tup [.str [110, 117, 109, 98, 101, 114], .str [49]]]⟩,
  ⟨[35, 50], (some [.tup [.str [119, 104, 111, 108, 101], .int 2]]), [.tup [.str [115, 105, 103, 110], .str [35]], .tup [.str [110, 117, 109, 98, 101, 114], .str [50]]]⟩,
  ⟨[65], (some [.tup [.str [110, 97, 109, 101], .str [65]]]), [.tup [.str [110, 97, 109, 101], .str [65]]]⟩,
  ⟨[35, 32, 66, 37], (some [.tup [.str [110, 97, 109, 101], .str [66, 37]]]), [.tup [.str [115, 105, 103, 110], .str [35]], .tup [.str [110, 97, 109, 101], .str [66, 37]]]⟩,
  ⟨[65, 43, 49], (some [.tup [.str [116, 119, 111], .str [43], .tup [.str [110, 97, 109, 101], .str [65]], .tup [.str [119, 104, 111, 108, 101], .int 1]]]), [.tup [.str [110, 97, 109, 101], .str [65]], .tup [.str [115, 105, 103, 110], .str [43]], .tup [.str [110, 117, 109, 98, 101, 114], .str [49]]]⟩,
  ⟨[35, 40, 67, 41], (some [.tup [.str [110, 97, 109, 101], .str [67]]]), [.tup [.str [115, 105, 103, 110], .str [35]], .tup [.str [115, 105, 103, 110], .str [40]], .tup [.str [110, 97, 109, 101], .str [67]], .tup [.str [115, 105, 103, 110], .str [41]]]⟩,
  ⟨[35], none, [.tup [.str [115, 105, 103, 110], .str [35]]]⟩,
  ⟨[68, 40, 51, 41], (some [.tup [.str [105, 116, 101, 109], .str [68], .lst [.tup [.str [119, 104, 111, 108, 101], .int 3]]]]), [.tup [.str [110, 97, 109, 101], .str [68]], .tup [.str [115, 105, 103, 110], .str [40]], .tup [.str [110, 117, 109, 98, 101, 114], .str [51]], .tup [.str [115, 105, 103, 110], .str [41]]]⟩]
noncomputable def pcs1 : List Pc := [
  ⟨[65], (some [.str [65]]), [.tup [.str [110, 97, 109, 101], .str [65]]]⟩,
  ⟨[67, 45, 69], (some [.str [67], .str [68], .str [69]]), [.tup [.str [110, 97, 109, 101], .str [67]], .tup [.str [115, 105, 103, 110], .str [45]], .tup [.str [110, 97, 109, 101], .str [69]]]⟩,
  ⟨[90, 45, 90], (some [.str [90]]), [.tup [.str [110, 97, 109, 101], .str [90]], .tup [.str [115, 105, 103, 110], .str [45]], .tup [.str [110, 97, 109, 101], .str [90]]]⟩,
  ⟨[88, 45, 87], none, [.tup [.str [110, 97, 109, 101], .str [88]], .tup [.str [115, 105, 103, 110], .str [45]], .tup [.str [110, 97, 109, 101], .str [87]]]⟩,
  ⟨[65, 66], none, [.tup [.str [110, 97, 109, 101], .str [65, 66]]]⟩,
  ⟨[109, 45, 110], (some [.str [77], .str [78]]), [.tup [.str [110, 97, 109, 101], .str [77]], .tup [.str [115, 105, 103, 110], .str [45]], .tup [.str [110, 97, 109, 101], .str [78]]]⟩,
  ⟨[65, 37], none, [.tup [.str [110, 97, 109, 101], .str [65, 37]]]⟩,
  ⟨[81], (some [.str [81]]), [.tup [.str [110, 97, 109, 101], .str [81]]]⟩]
noncomputable def pcs2 : List Pc := [
  ⟨[65], (some [.str [65]]), [.tup [.str [110, 97, 109, 101], .str [65]]]⟩,
  ⟨[66, 36], (some [.str [66, 36]]), [.tup [.str [110, 97, 109, 101], .str [66, 36]]]⟩,
  ⟨[67, 50, 37], (some [.str [67, 50, 37]]), [.tup [.str [110, 97, 109, 101], .str [67, 50, 37]]]⟩,
  ⟨[70, 78, 65], none, [.tup [.str [110, 97, 109, 101], .str [70, 78, 65]]]⟩,
  ⟨[100], (some [.str [68]]), [.tup [.str [110, 97, 109, 101], .str [68]]]⟩,
  ⟨[55], none, [.tup [.str [110, 117, 109, 98, 101, 114], .str [55]]]⟩,
  ⟨[88, 33], (some [.str [88, 33]]), [.tup [.str [110, 97, 109, 101], .str [88, 33]]]⟩,
  ⟨[69, 36, 40, 41], (some [.str [69, 36, 40, 41]]), [.tup [.str [110, 97, 109, 101], .str [69, 36]], .tup [.str [115, 105, 103, 110], .str [40]], .tup [.str [115, 105, 103, 110], .str [41]]]⟩]
noncomputable def pcs3 : List Pc := [
  ⟨[65], (some [.str [65]]), [.tup [.str [110, 97, 109, 101], .str [65]]]⟩,
  ⟨[66, 36], (some [.str [66, 36]]), [.tup [.str [110, 97, 109, 101], .str [66, 36]]]⟩,
  ⟨[67, 50, 37], (some [.str [67, 50, 37]]), [.tup [.str [110, 97, 109, 101], .str [67, 50, 37]]]⟩,
  ⟨[70, 78, 65], none, [.tup [.str [110, 97, 109, 101], .str [70, 78, 65]]]⟩,
  ⟨[100], (some [.str [68]]), [.tup [.str [110, 97, 109, 101], .str [68]]]⟩,
  ⟨[55], none, [.tup [.str [110, 117, 109, 98, 101, 114], .str [55]]]⟩,
  ⟨[88, 33], (some [.str [88, 33]]), [.tup [.str [110, 97, 109, 101], .str [88, 33]]]⟩,
  ⟨[80, 82, 73, 78, 84], none, [.tup [.str [119, 111, 114, 100], .str [80, 82, 73, 78, 84]]]⟩]
noncomputable def tls : List (List Nat × List V) := [([], []), ([58, 80, 82, 73, 78, 84], [.tup [.str [115, 105, 103, 110], .str [58]], .tup [.str [119, 111, 114, 100], .str [80, 82, 73, 78, 84]]]), ([32, 69, 76, 83, 69, 32, 55], [.tup [.str [119, 111, 114, 100], .str [69, 76, 83, 69]], .tup [.str [110, 117, 109, 98, 101, 114], .str [55]]]), ([32, 82, 69, 77, 32, 120], [.tup [.str [114, 101, 109], .str [120]]]), ([32, 39, 121], [.tup [.str [114, 101, 109], .str [121]]])]

mutual
theorem veq_eq : ∀ {a b : V}, veq a b = true → a = b
  | .none, b, h => by cases b <;> simp [veq] at h ⊢
  | .int i, b, h => by cases b <;> simp [veq] at h ⊢; exact h
  | .str i, b, h => by cases b <;> simp [veq] at h ⊢; exact h
  | .tup i, b, h => by cases b <;> simp [veq] at h ⊢; exact veqs_eq h
  | .lst i, b, h => by cases b <;> simp [veq] at h ⊢; exact veqs_eq h
  | .bool _, b, h => by simp [veq] at h
  | .ref _, b, h => by simp [veq] at h
  | .lvl .., b, h => by simp [veq] at h
  | .tab _, b, h => by simp [veq] at h
theorem veqs_eq : ∀ {a b : List V}, veqs a b = true → a = b
  | [], b, h => by cases b <;> simp [veqs] at h ⊢
  | x :: r, b, h => by
    cases b with
    | nil => simp [veqs] at h
    | cons y t => simp [veqs] at h; rw [veq_eq h.1, veqs_eq h.2]
end

noncomputable def ask (W : Win) (f : Nat) (vs : List AV) : Option (Except (List Nat) AV) := match (runA theTab known W 60).C f vs [] with
  | some (r, []) => some r
  | _ => none
theorem ask_ok {W : Win} {R : Re} (hW : WR W R) {f : Nat} {vs : List AV} {r : Except (List Nat) AV} (h : ask W f vs = some r) (hn : noRefs (ccs R vs) = true) (k : Nat) (σ : Mem) :
    (run theTab (k + 60)).C f (ccs R vs) σ = some (r.map (cc R), σ) := by
  unfold ask at h
  split at h
  · rename_i x hx
    cases h
    have := (runA_ok known_ok hW 60).C _ _ _ _ hx
    exact rC_any hn ((run_le theTab (show 60 ≤ k + 60 by lia)).C _ _ _ _ this)
  · cases h

/-- the skip from i arrives at j -/
noncomputable def Sk (row : List Nat) (i j : Int) : Prop := ∀ k σ, (run theTab (k + 60)).C 6 [.str row, .int i] σ = some (.ok (.int j), σ)
noncomputable def To (row : List Nat) (i : Int) (ts : List V) (j : Int) : Prop := ∀ k σ, (run theTab (k + 60)).C 12 [.str row, .int i] σ = some (.ok (.tup [.lst ts, .int j]), σ)
inductive Tk (row : List Nat) : Nat → Int → List V → Int → Prop
  | nil (n : Nat) (i : Int) : Tk row n i [] i
  | cons {n : Nat} {i i' j e : Int} {ts us : List V} (h1 : Sk row i i') (h2 : i' < row.length) (h3 : To row i' ts j) (h4 : Tk row n j us e) : Tk row (n + 1) i (ts ++ us) e
theorem Tk.more {row : List Nat} {n : Nat} {i e : Int} {ts : List V} (h : Tk row n i ts e) : ∀ m, n ≤ m → Tk row m i ts e := by
  induction h with
  | nil n i => exact fun m _ => .nil m i
  | cons h1 h2 h3 h4 ih =>
    intro m hm
    obtain ⟨k, rfl⟩ : ∃ k, m = k + 1 := ⟨m - 1, by lia⟩
    exact .cons h1 h2 h3 (ih k (by lia))
theorem Tk.append {row : List Nat} {n m : Nat} {i j e : Int} {ts us : List V} (h : Tk row n i ts j) (g : Tk row m j us e) : Tk row (n + m) i (ts ++ us) e := by
  induction h with
  | nil n i => exact g.more _ (by lia)
  | cons h1 h2 h3 h4 ih =>
    rw [List.append_assoc, Nat.add_right_comm]
    exact .cons h1 h2 h3 (ih g)
/-- from two places that skip to the same place the same is read, when something is read -/
theorem Tk.sk {row : List Nat} {n : Nat} {i j i' e : Int} {ts : List V} (hi : Sk row i i') (hj : Sk row j i') (h : Tk row n j ts e) (hn : ts ≠ []) : Tk row n i ts e := by
  cases h with
  | nil => exact absurd rfl hn
  | cons h1 h2 h3 h4 =>
    have := (h1 0 []).symm.trans (hj 0 [])
    cases this
    exact .cons hi h2 h3 h4

noncomputable def skA (W : Win) (i : Int) : Option Int := match ask W 6 [.k, .p i] with
  | some (.ok (.p j)) => some j
  | _ => none
noncomputable def toA (W : Win) (i : Int) : Option (List V × Int) := match ask W 12 [.k, .p i] with
  | some (.ok (.t [.o (.lst ts), .p j])) => some (ts, j)
  | _ => none
noncomputable def toksA (W : Win) (e : Int) : Nat → Int → Option (List V)
  | 0, i => if i = e then some [] else none
  | n + 1, i => if i = e then some [] else match skA W i with
    | none => none
    | some i' => if i' < lenW W then match toA W i' with
        | none => none
        | some (ts, j) => match toksA W e n j with
          | none => none
          | some us => some (ts ++ us)
      else none

section
variable {w pre r : List Nat} {fin : Bool}
theorem sk_ok (hl : (pre ++ (w ++ r)).length ≤ 5000) (hf : fin = true → r = []) {i j : Int} (h : skA (.str w fin) i = some j) : Sk (pre ++ (w ++ r)) (i + pre.length) (j + pre.length) := by
  unfold skA at h
  split at h
  · rename_i x hx
    cases h
    intro k σ
    exact ask_ok (WR.str hl hf) hx rfl k σ
  · cases h
theorem to_ok (hl : (pre ++ (w ++ r)).length ≤ 5000) (hf : fin = true → r = []) {i j : Int} {ts : List V} (h : toA (.str w fin) i = some (ts, j)) : To (pre ++ (w ++ r)) (i + pre.length) ts (j + pre.length) := by
  unfold toA at h
  split at h
  · rename_i x hx
    cases h
    intro k σ
    exact ask_ok (WR.str hl hf) hx rfl k σ
  · cases h
theorem toks_ok (hl : (pre ++ (w ++ r)).length ≤ 5000) (hf : fin = true → r = []) (e : Int) : ∀ (n : Nat) (i : Int) (ts : List V), toksA (.str w fin) e n i = some ts → Tk (pre ++ (w ++ r)) n (i + pre.length) ts (e + pre.length)
  | 0, i, ts, h => by
    unfold toksA at h
    split at h
    · rename_i q; cases h; rw [q]; exact .nil _ _
    · cases h
  | n + 1, i, ts, h => by
    unfold toksA at h
    split at h
    · rename_i q; cases h; rw [q]; exact .nil _ _
    · split at h
      · cases h
      · rename_i i' h1
        split at h
        · rename_i h2
          split at h
          · cases h
          · rename_i us j h3
            split at h
            · cases h
            · rename_i vs h4
              cases h
              refine .cons (sk_ok hl hf h1) ?_ (to_ok hl hf h3) (toks_ok hl hf e n _ _ h4)
              have h2 : i' < (w.length : Int) := h2
              simp only [List.length_append, Int.natCast_add]
              lia
        · cases h
end

/-- the looks that may stand behind a piece -/
noncomputable def looksT : List (List Nat × Bool) := [([44], false), ([32], false), ([58], false), ([], true)]
noncomputable def okToks (w look : List Nat) (fin : Bool) (ts : List V) : Bool := match toksA (.str (w ++ look) fin) w.length 6 0 with
  | some us => veqs us ts
  | none => false
theorem okToks_ok {w look pre r : List Nat} {fin : Bool} {ts : List V} (h : okToks w look fin ts = true) (hl : (pre ++ ((w ++ look) ++ r)).length ≤ 5000) (hf : fin = true → r = []) :
    Tk (pre ++ ((w ++ look) ++ r)) 6 pre.length ts ((w.length : Int) + pre.length) := by
  unfold okToks at h
  split at h
  · rename_i us hu
    rw [← veqs_eq h]
    have := toks_ok hl hf _ _ _ _ hu
    simpa using this
  · cases h
theorem pcs_toks0 : (pcs0.all fun p => looksT.all fun l => okToks p.t l.1 l.2 p.k) = true := by decide +kernel
theorem pcs_toks1 : (pcs1.all fun p => looksT.all fun l => okToks p.t l.1 l.2 p.k) = true := by decide +kernel
theorem pcs_toks2 : (pcs2.all fun p => looksT.all fun l => okToks p.t l.1 l.2 p.k) = true := by decide +kernel
theorem pcs_toks3 : (pcs3.all fun p => looksT.all fun l => okToks p.t l.1 l.2 p.k) = true := by decide +kernel
theorem tls_toks : (tls.all fun p => okToks p.1 [] true p.2) = true := by decide +kernel
noncomputable def commaK : V := .tup [.str [115, 105, 103, 110], .str [44]]
theorem seps_toks : (okToks [44] [] false [commaK] && okToks [32, 44] [] false [commaK] && okToks [44, 44] [] false [commaK, commaK]) = true := by decide +kernel
noncomputable def okSkip (c : Nat) : Bool := decide (skA (.str [32, c] false) 0 = some 1) && decide (skA (.str [c] false) 0 = some 0)
theorem skips : ((pcs0 ++ pcs1 ++ pcs2 ++ pcs3).all fun p => match p.t with | c :: _ => okSkip c | [] => false) = true := by decide +kernel
theorem skipEnd : skA (.str [] true) 0 = some 0 := by decide +kernel
end Mine

end

section
open PySem PySem.W PyProof.Rows
set_option maxRecDepth 100000
set_option maxHeartbeats 4000000
namespace Mine

/- one step at a time -/
section
variable {T : Tab} {n : Nat} {ρ : Loc} {σ : Mem}
noncomputable def varO (x : Option (Option V)) (ρ : Loc) (σ : Mem) : Out V := match x with
  | some (some v) => some (.ok v, ρ, σ)
  | _ => none
theorem varO_ok {v : V} : varO (some (some v)) ρ σ = some (.ok v, ρ, σ) := rfl
theorem bO_ok {β γ : Type} {v : β} {f : β → Loc → Mem → Out γ} : bindO (some (.ok v, ρ, σ)) f = f v ρ σ := rfl
theorem bO_err {β γ : Type} {c : List Nat} {f : β → Loc → Mem → Out γ} : bindO (some (.error c, ρ, σ)) f = some (.error c, ρ, σ) := rfl
theorem r_var (i : Nat) : (run T (n + 1)).E (.var i) ρ σ = varO ρ[i]? ρ σ := rfl
theorem r_lit (v : V) : (run T (n + 1)).E (.lit v) ρ σ = some (.ok v, ρ, σ) := rfl
theorem r_bin (o : Operator) (a b : ME) : (run T (n + 1)).E (.bin o a b) ρ σ = bindO ((run T n).E a ρ σ) fun u ρ σ => bindO ((run T n).E b ρ σ) fun v ρ σ => retO ρ σ (opBin o (deref σ u) (deref σ v)) := rfl
theorem r_cmp (o : CmpOp) (a b : ME) : (run T (n + 1)).E (.cmp o a b) ρ σ = bindO ((run T n).E a ρ σ) fun u ρ σ => bindO ((run T n).E b ρ σ) fun v ρ σ => retO ρ σ ((opCmp o u v).map .bool) := rfl
theorem r_ite (t a b : ME) : (run T (n + 1)).E (.ite t a b) ρ σ = bindO ((run T n).T t ρ σ) fun x ρ σ => if x then (run T n).E a ρ σ else (run T n).E b ρ σ := rfl
theorem r_tup (l : List ME) : (run T (n + 1)).E (.tup l) ρ σ = bindO ((run T n).Es l ρ σ) fun vs ρ σ => if vs.length ≤ 1000 then some (.ok (.tup vs), ρ, σ) else none := rfl
theorem r_lstF (l : List ME) : (run T (n + 1)).E (.lstF l) ρ σ = bindO ((run T n).Es l ρ σ) fun vs ρ σ => if vs.length ≤ 1000 then some (.ok (.lst vs), ρ, σ) else none := rfl
theorem r_lstM (l : List ME) : (run T (n + 1)).E (.lstM l) ρ σ = bindO ((run T n).Es l ρ σ) fun vs ρ σ => if vs.length ≤ 1000 then some (.ok (.ref σ.length), ρ, σ ++ [.list vs]) else none := rfl
theorem r_idx (e i : ME) : (run T (n + 1)).E (.idx e i) ρ σ = bindO ((run T n).E e ρ σ) fun u ρ σ => bindO ((run T n).E i ρ σ) fun v ρ σ => retO ρ σ (idxV u v σ) := rfl
theorem r_call (f : Nat) (l : List ME) : (run T (n + 1)).E (.call f l) ρ σ = bindO ((run T n).Es l ρ σ) fun vs ρ σ => ((run T n).C f vs σ).map fun x => (x.1, ρ, x.2) := rfl
theorem r_bi (b : Nat) (l : List ME) : (run T (n + 1)).E (.bi b l) ρ σ = bindO ((run T n).Es l ρ σ) fun vs ρ σ => retO ρ σ (biAll b vs σ) := rfl
theorem r_app (e a : ME) : (run T (n + 1)).E (.app e a) ρ σ = bindO ((run T n).E e ρ σ) fun u ρ σ => match isListRef u σ with
    | some r => bindO ((run T n).E a ρ σ) fun v ρ σ => match σ[r]? with
      | some (.list l) => if l.length ≤ 100000 then some (.ok .none, ρ, σ.set r (.list (l ++ [v]))) else none
      | _ => none
    | none => none := rfl
theorem r_ext (e a : ME) : (run T (n + 1)).E (.ext e a) ρ σ = bindO ((run T n).E e ρ σ) fun u ρ σ => match isListRef u σ with
    | some r => bindO ((run T n).E a ρ σ) fun v ρ σ => match v with
      | .lst x => match σ[r]? with
        | some (.list l) => if l.length + x.length ≤ 100000 then some (.ok .none, ρ, σ.set r (.list (l ++ x))) else none
        | _ => none
      | _ => none
    | none => none := rfl
theorem r_chrs (a b : ME) : (run T (n + 1)).E (.chrs a b) ρ σ = bindO ((run T n).E a ρ σ) fun u ρ σ => bindO ((run T n).E b ρ σ) fun v ρ σ => retO ρ σ (chrsO u v) := rfl
theorem r_Esn : (run T (n + 1)).Es [] ρ σ = some (.ok [], ρ, σ) := rfl
theorem r_Esc (e : ME) (r : List ME) : (run T (n + 1)).Es (e :: r) ρ σ = bindO ((run T n).E e ρ σ) fun v ρ σ => bindO ((run T n).Es r ρ σ) fun vs ρ σ => some (.ok (v :: vs), ρ, σ) := rfl
theorem r_Tnot (e : ME) : (run T (n + 1)).T (.not e) ρ σ = bindO ((run T n).T e ρ σ) fun b ρ σ => some (.ok !b, ρ, σ) := rfl
theorem r_Tcmp (o : CmpOp) (a b : ME) : (run T (n + 1)).T (.cmp o a b) ρ σ = bindO ((run T n).E a ρ σ) fun u ρ σ => bindO ((run T n).E b ρ σ) fun v ρ σ => retO ρ σ (opCmp o u v) := rfl
theorem r_Tcall (f : Nat) (l : List ME) : (run T (n + 1)).T (.call f l) ρ σ = bindO ((run T n).E (.call f l) ρ σ) fun v ρ σ => retO ρ σ (truthyV v) := rfl
theorem r_Tvar (i : Nat) : (run T (n + 1)).T (.var i) ρ σ = bindO ((run T n).E (.var i) ρ σ) fun v ρ σ => retO ρ σ (truthyV v) := rfl
theorem r_Tlit (v : V) : (run T (n + 1)).T (.lit v) ρ σ = bindO ((run T n).E (.lit v) ρ σ) fun v ρ σ => retO ρ σ (truthyV v) := rfl
theorem r_asg (i : Nat) (e : ME) : (run T (n + 1)).S (.asg i e) ρ σ = bindO ((run T n).E e ρ σ) fun v ρ σ => some (.ok .next, ρ.set i (some v), σ) := rfl
theorem r_asgT (l : List Nat) (e : ME) : (run T (n + 1)).S (.asgT l e) ρ σ = bindO ((run T n).E e ρ σ) fun v ρ σ => asgTO l v ρ σ := rfl
theorem r_expr (e : ME) : (run T (n + 1)).S (.expr e) ρ σ = bindO ((run T n).E e ρ σ) fun _ ρ σ => some (.ok .next, ρ, σ) := rfl
theorem r_ife (t : ME) (a b : List MS) : (run T (n + 1)).S (.ife t a b) ρ σ = bindO ((run T n).T t ρ σ) fun x ρ σ => if x then (run T n).Ss a ρ σ else (run T n).Ss b ρ σ := rfl
noncomputable def whlK (T : Tab) (n : Nat) (t : ME) (b : List MS) : Fl → Loc → Mem → Out Fl := fun f ρ σ => match f with
      | .next => (run T n).S (.whl t b) ρ σ
      | .ret v => some (.ok (.ret v), ρ, σ)
theorem whlK_next {t : ME} {b : List MS} : whlK T n t b .next ρ σ = (run T n).S (.whl t b) ρ σ := rfl
theorem whlK_ret {t : ME} {b : List MS} {v : V} : whlK T n t b (.ret v) ρ σ = some (.ok (.ret v), ρ, σ) := rfl
theorem r_whl (t : ME) (b : List MS) : (run T (n + 1)).S (.whl t b) ρ σ = bindO ((run T n).T t ρ σ) fun x ρ σ => if x then bindO ((run T n).Ss b ρ σ) (whlK T n t b) else some (.ok .next, ρ, σ) := rfl
theorem r_ret (e : ME) : (run T (n + 1)).S (.ret e) ρ σ = bindO ((run T n).E e ρ σ) fun v ρ σ => some (.ok (.ret v), ρ, σ) := rfl
theorem r_raise (c : ME) (l : List ME) : (run T (n + 1)).S (.raise c l) ρ σ = bindO ((run T n).Es (c :: l) ρ σ) fun vs ρ σ => raiseO vs ρ σ := rfl
theorem r_try (b : List MS) : (run T (n + 1)).S (.tryC b) ρ σ = tryO ((run T n).Ss b ρ σ) := rfl
theorem r_aug {i : Nat} {o : Operator} {e : ME} : (run T (n + 1)).S (.aug i o e) ρ σ = match ρ[i]? with
    | some (some u) => bindO ((run T n).E e ρ σ) fun v ρ σ => augO o i u v ρ σ
    | _ => none := rfl
noncomputable def seqK (T : Tab) (n : Nat) (r : List MS) : Fl → Loc → Mem → Out Fl := fun f ρ σ => match f with
    | .next => (run T n).Ss r ρ σ
    | .ret v => some (.ok (.ret v), ρ, σ)
theorem seqK_next {r : List MS} : seqK T n r .next ρ σ = (run T n).Ss r ρ σ := rfl
theorem seqK_ret {r : List MS} {v : V} : seqK T n r (.ret v) ρ σ = some (.ok (.ret v), ρ, σ) := rfl
theorem r_Ssn : (run T (n + 1)).Ss [] ρ σ = some (.ok .next, ρ, σ) := rfl
theorem r_Ssc (s : MS) (r : List MS) : (run T (n + 1)).Ss (s :: r) ρ σ = bindO ((run T n).S s ρ σ) (seqK T n r) := rfl
theorem some_map {β γ : Type} {f : β → γ} {x : β} : (some x).map f = some (f x) := rfl
theorem retO_some {β : Type} {x : β} : retO ρ σ (some x) = some (.ok x, ρ, σ) := rfl
end
theorem g0 {α : Type} (a : α) (l : List α) : (a :: l)[0]? = some a := rfl
theorem gS {α : Type} (a : α) (l : List α) (i : Nat) : (a :: l)[i + 1]? = l[i]? := rfl
theorem s0 {α : Type} (a b : α) (l : List α) : (a :: l).set 0 b = b :: l := rfl
theorem sS {α : Type} (a b : α) (l : List α) (i : Nat) : (a :: l).set (i + 1) b = a :: l.set i b := rfl
theorem tupO (vs : List V) (l : List Nat) (ρ : Loc) (σ : Mem) (h : vs.length = l.length) : asgTO l (.tup vs) ρ σ = some (.ok .next, setAll l vs ρ, σ) := by unfold asgTO; exact if_pos h
theorem sAn (ρ : Loc) : setAll [] [] ρ = ρ := rfl
theorem sAc (i : Nat) (r : List Nat) (v : V) (t : List V) (ρ : Loc) : setAll (i :: r) (v :: t) ρ = setAll r t (ρ.set i (some v)) := rfl
theorem opAdd (a b : Int) (σ : Mem) : opBin .Add (deref σ (.int a)) (deref σ (.int b)) = some (.int (a + b)) := rfl
theorem tru_b (b : Bool) : truthyV (.bool b) = some b := rfl
theorem ilr (l : List V) (σ : Mem) : isListRef (.ref 0) (.list l :: σ) = some 0 := rfl

theorem i0 {α : Type} {a b : α} : (if 0 ≤ 1000 then a else b) = a := if_pos (by decide)
theorem i1 {α : Type} {a b : α} : (if 0 + 1 ≤ 1000 then a else b) = a := if_pos (by decide)
theorem i2 {α : Type} {a b : α} : (if 0 + 1 + 1 ≤ 1000 then a else b) = a := if_pos (by decide)
theorem i3 {α : Type} {a b : α} : (if 0 + 1 + 1 + 1 ≤ 1000 then a else b) = a := if_pos (by decide)
theorem i4 {α : Type} {a b : α} : (if 0 + 1 + 1 + 1 + 1 ≤ 1000 then a else b) = a := if_pos (by decide)
theorem i5 {α : Type} {a b : α} : (if 0 + 1 + 1 + 1 + 1 + 1 ≤ 1000 then a else b) = a := if_pos (by decide)

noncomputable def SN : List Nat := [83, 78]
noncomputable def El (f : Nat) (row : List V) (i : Int) (v : V) (j : Int) : Prop := ∀ k σ, (run theTab (k + 60)).C f [.lst row, .int i] σ = some (.ok (.tup [v, .int j]), σ)
noncomputable def Er (f : Nat) (row : List V) (i : Int) : Prop := ∀ k σ, (run theTab (k + 60)).C f [.lst row, .int i] σ = some (.error SN, σ)
noncomputable def Sg (row : List V) (i : Int) (c : Nat) (b : Bool) : Prop := ∀ k σ, (run theTab (k + 60)).C 15 [.lst row, .int i, .str [c]] σ = some (.ok (.bool b), σ)
noncomputable def Xp (row : List V) (i : Int) (c : Nat) (j : Int) : Prop := ∀ k σ, (run theTab (k + 60)).C 16 [.lst row, .int i, .str [c]] σ = some (.ok (.int j), σ)

inductive Rk (E : Int → List V → Int → Prop) (B : Int → Prop) (row : List V) : Bool → Int → Nat → Option (List V × Int) → Prop
  | bad {i : Int} {n : Nat} (h : B i) : Rk E B row false i (n + 1) none
  | el {i j : Int} {v : List V} {n : Nat} {o : Option (List V × Int)} (h : E i v j) (r : Rk E B row true j n o) : Rk E B row false i (n + 1) (o.map fun p => (v ++ p.1, p.2))
  | stop {j : Int} {n : Nat} (h : Sg row j 44 false) : Rk E B row true j (n + 1) (some ([], j))
  | more {j : Int} {n : Nat} {o : Option (List V × Int)} (h : Sg row j 44 true) (r : Rk E B row false (j + 1) n o) : Rk E B row true j (n + 1) o

noncomputable def whlC (f : Nat) : MS := .whl (.call 15 [.var 0, .var 1, .lit (.str [44])]) [.asgT [3, 1] (.call f [.var 0, .bin .Add (.var 1) (.lit (.int 1))]), .expr (.app (.var 2) (.var 3))]
noncomputable abbrev E1 (f : Nat) (row : List V) : Int → List V → Int → Prop := fun i v j => ∃ x, v = [x] ∧ El f row i x j

noncomputable def LoopGives (T : Tab) (n : Nat) (s : MS) (row acc : List V) (j : Int) (x : V) (o : Option (List V × Int)) : Prop := match o with
  | none => ∃ ρ' σ', (run T n).S s [some (.lst row), some (.int j), some (.ref 0), some x] [.list acc] = some (.error SN, ρ', σ')
  | some (gs, e) => ∃ x', (run T n).S s [some (.lst row), some (.int j), some (.ref 0), some x] [.list acc] = some (.ok .next, [some (.lst row), some (.int e), some (.ref 0), some x'], [.list (acc ++ gs)])

theorem loopC (f : Nat) (row : List V) : ∀ (n : Nat) (j : Int) (o : Option (List V × Int)), Rk (E1 f row) (Er f row) row true j n o → ∀ (acc : List V) (x : V) (k : Nat), acc.length + n ≤ 1000 →
    LoopGives theTab (k + n + 80) (whlC f) row acc j x o := by
  intro n
  induction n using Nat.strongRecOn with
  | _ n ih =>
  intro j o h acc x k hb
  cases h with
  | stop h =>
    rename_i n
    refine ⟨x, ?_⟩
    unfold whlC
    have q : ∀ k σ, (run theTab (k + 60)).C 15 [.lst row, .int j, .str [44]] σ = some (.ok (.bool false), σ) := h
    simp only [r_whl, r_Tcall, r_call, r_Esc, r_Esn, r_var, r_lit, g0, gS, varO_ok, bO_ok, q, some_map, tru_b, retO_some, List.append_nil, Bool.false_eq_true, if_false]
  | more h r =>
    rename_i n
    have q : ∀ k σ, (run theTab (k + 60)).C 15 [.lst row, .int j, .str [44]] σ = some (.ok (.bool true), σ) := h
    cases r with
    | bad h =>
      rename_i n
      have q2 : ∀ k σ, (run theTab (k + 60)).C f [.lst row, .int (j + 1)] σ = some (.error SN, σ) := h
      unfold whlC LoopGives
      simp only [r_whl, r_Tcall, r_call, r_Esc, r_Esn, r_var, r_lit, r_Ssc, r_asgT, r_bin, opAdd, g0, gS, varO_ok, bO_ok, bO_err, q, q2, some_map, tru_b, retO_some, if_true]
      exact ⟨_, _, rfl⟩
    | el h r =>
      rename_i j' v n o'
      obtain ⟨y, rfl, h⟩ := h
      have q2 : ∀ k σ, (run theTab (k + 60)).C f [.lst row, .int (j + 1)] σ = some (.ok (.tup [y, .int j']), σ) := h
      have hl : acc.length ≤ 100000 := by lia
      have w := ih n (by lia) j' o' r (acc ++ [y]) y (k + 1) (by simp; lia)
      have e : (run theTab (k + (n + 1 + 1) + 80)).S (whlC f) [some (V.lst row), some (V.int j), some (V.ref 0), some x] [Cell.list acc] =
          (run theTab (k + 1 + n + 80)).S (whlC f) [some (V.lst row), some (V.int j'), some (V.ref 0), some y] [Cell.list (acc ++ [y])] := by
        generalize hX : (run theTab (k + 1 + n + 80)).S (whlC f) [some (V.lst row), some (V.int j'), some (V.ref 0), some y] [Cell.list (acc ++ [y])] = X
        unfold whlC
        simp only [r_whl, r_Tcall, r_call, r_Esc, r_Esn, r_var, r_lit, r_Ssc, r_Ssn, r_asgT, r_bin, opAdd, g0, gS, s0, sS, varO_ok, bO_ok, q, q2, some_map, tru_b, retO_some, if_true, seqK_next, r_expr, r_app, ilr, hl,
          tupO, sAn, sAc, List.length_cons, List.length_nil]
        rw [← hX, whlK_next, show k + (n + 1 + 1) + 79 = k + 1 + n + 80 by lia]; rfl
      unfold LoopGives at w ⊢
      rw [e]
      match o', w with
      | none, w => exact w
      | some (gs, e'), w =>
        dsimp only at w ⊢
        simpa using w
end Mine

end

section
open PySem PySem.W PyProof.Rows
set_option maxRecDepth 100000
set_option maxHeartbeats 4000000
namespace Mine

theorem le1000 {n : Nat} (h : n ≤ 1000) : (n ≤ 1000) = True := by simp [h]
noncomputable def NR (o : Option (List V × Int)) : Prop := ∀ gs e, o = some (gs, e) → noRefs gs = true
theorem nr1 {row : List V} {i : Int} (h : noRefs row = true) : noRefs [.lst row, .int i] = true := by simp [noRefs, noRef, h]
noncomputable def addO (v : List V) (o : Option (List V × Int)) : Option (List V × Int) := o.map fun p => (v ++ p.1, p.2)

theorem fz_a {gs : List V} {e : Int} (h : noRefs gs = true) : fz [.list gs] (.tup [.ref 0, .int e]) = some (.tup [.lst gs, .int e]) := by
  simp [fz, fzs, memL, h]
theorem fz_b {gs : List V} {e : Int} {s : List Nat} (h : noRefs gs = true) : fz [.list gs] (.tup [.tup [.str s, .ref 0], .int e]) = some (.tup [.tup [.str s, .lst gs], .int e]) := by
  simp [fz, fzs, memL, h]
theorem fz_c {gs : List V} {e : Int} {s : List Nat} {σ : Mem} (h : noRefs gs = true) : fz σ (.tup [.tup [.str s, .lst gs], .int e]) = some (.tup [.tup [.str s, .lst gs], .int e]) := by
  simp [fz, fzs, memL, h]
theorem fz_d {gs : List V} {e : Int} {s t : List Nat} (h : noRefs gs = true) : fz [.list gs] (.tup [.tup [.str s, .str t, .ref 0], .int e]) = some (.tup [.tup [.str s, .str t, .lst gs], .int e]) := by
  simp [fz, fzs, memL, h]
noncomputable def Names (row : List V) (i : Int) (o : Option (List V × Int)) (n : Nat) (σ : Mem) : Prop := match o with
      | none => (run theTab n).C 29 [.lst row, .int i] σ = some (.error SN, σ)
      | some (gs, e) => (run theTab n).C 29 [.lst row, .int i] σ = some (.ok (.tup [.lst gs, .int e]), σ)
theorem rd_names {row : List V} (hr : noRefs row = true) {i : Int} {n : Nat} {o : Option (List V × Int)} (hn : n ≤ 900) (ho : NR o) (h : Rk (E1 28 row) (Er 28 row) row false i n o) (k : Nat) (σ : Mem) :
    Names row i o (k + n + 90) σ := by
  cases h with
  | bad h =>
    rename_i n
    have q2 : ∀ k σ, (run theTab (k + 60)).C 28 [.lst row, .int i] σ = some (.error SN, σ) := h
    refine rC_err (fd := ⟨Str.ofString "plain_names", 2, [Str.ofString "tokens", Str.ofString "at", Str.ofString "some", Str.ofString "found"], b_plain_names⟩) (σ' := []) (ρ' := [some (.lst row), some (.int i), none, none]) rfl rfl (nr1 hr) ?_
    show (run theTab (k + n + 90)).Ss b_plain_names [some (.lst row), some (.int i), none, none] [] = _
    unfold b_plain_names
    simp only [r_Ssc, r_Ssn, r_asgT, r_asg, r_aug, r_lstM, r_lstF, r_tup, r_call, r_bi, r_bin, r_cmp, r_ite, r_idx, r_chrs, r_Esc, r_Esn, r_var, r_lit, r_Tnot, r_Tcmp, r_Tcall, r_Tvar, r_Tlit, r_ife, r_ret, r_raise, r_expr, r_app, r_ext, opAdd, g0, gS, s0, sS, varO_ok, bO_ok, bO_err, some_map, tru_b, retO_some, tupO, sAn, sAc, List.length_cons, List.length_nil, seqK_next, seqK_ret, ilr, List.nil_append, if_true, if_false, Bool.false_eq_true, Bool.not_true, Bool.not_false, i0, i1, i2, i3, i4, i5, q2]
  | el h r =>
    rename_i j v n o'
    obtain ⟨y, rfl, h⟩ := h
    have q2 : ∀ k σ, (run theTab (k + 60)).C 28 [.lst row, .int i] σ = some (.ok (.tup [y, .int j]), σ) := h
    have w := loopC 28 row n j o' r [y] y (k + 7) (by simp; lia)
    unfold whlC at w
    have e : (run theTab (k + n + 90)).Ss b_plain_names [some (.lst row), some (.int i), none, none] [] = bindO ((run theTab (k + 7 + n + 80)).S (.whl (.call 15 [.var 0, .var 1, .lit (.str [44])]) [.asgT [3, 1] (.call 28 [.var 0, .bin .Add (.var 1) (.lit (.int 1))]), .expr (.app (.var 2) (.var 3))])
        [some (.lst row), some (.int j), some (.ref 0), some y] [.list [y]]) (seqK theTab (k + 7 + n + 80) [.ret (.tup [(.var 2), (.var 1)])]) := by
      rw [show k + 7 + n + 80 = k + n + 87 by lia]
      unfold b_plain_names
      simp only [r_Ssc, r_Ssn, r_asgT, r_asg, r_aug, r_lstM, r_lstF, r_tup, r_call, r_bi, r_bin, r_cmp, r_ite, r_idx, r_chrs, r_Esc, r_Esn, r_var, r_lit, r_Tnot, r_Tcmp, r_Tcall, r_Tvar, r_Tlit, r_ife, r_ret, r_raise, r_expr, r_app, r_ext, opAdd, g0, gS, s0, sS, varO_ok, bO_ok, bO_err, some_map, tru_b, retO_some, tupO, sAn, sAc, List.length_cons, List.length_nil, seqK_next, seqK_ret, ilr, List.nil_append, if_true, if_false, Bool.false_eq_true, Bool.not_true, Bool.not_false, i0, i1, i2, i3, i4, i5, q2]
    rw [show k + (n + 1) + 90 = (k + n + 90) + 1 by lia]
    refine (?_ : Names row i (o'.map fun p => ([y] ++ p.1, p.2)) ((k + n + 90) + 1) σ)
    match o', w, ho with
    | none, ⟨ρ', σ', w⟩, ho =>
      rw [w] at e
      exact rC_err (fd := ⟨Str.ofString "plain_names", 2, [Str.ofString "tokens", Str.ofString "at", Str.ofString "some", Str.ofString "found"], b_plain_names⟩) rfl rfl (nr1 hr) e
    | some (gs, ei), ⟨x', w⟩, ho =>
      rw [w] at e
      have e2 : (run theTab (k + n + 90)).Ss b_plain_names [some (.lst row), some (.int i), none, none] [] = some (.ok (.ret (.tup [.ref 0, .int ei])), [some (V.lst row), some (.int ei), some (.ref 0), some x'], [.list ([y] ++ gs)]) := by
        rw [e, show k + 7 + n + 80 = k + n + 87 by lia]
        simp only [r_Ssc, r_Ssn, r_asgT, r_asg, r_aug, r_lstM, r_lstF, r_tup, r_call, r_bi, r_bin, r_cmp, r_ite, r_idx, r_chrs, r_Esc, r_Esn, r_var, r_lit, r_Tnot, r_Tcmp, r_Tcall, r_Tvar, r_Tlit, r_ife, r_ret, r_raise, r_expr, r_app, r_ext, opAdd, g0, gS, s0, sS, varO_ok, bO_ok, bO_err, some_map, tru_b, retO_some, tupO, sAn, sAc, List.length_cons, List.length_nil, seqK_next, seqK_ret, ilr, List.nil_append, if_true, if_false, Bool.false_eq_true, Bool.not_true, Bool.not_false, i0, i1, i2, i3, i4, i5]
      refine rC_pure (fd := ⟨Str.ofString "plain_names", 2, [Str.ofString "tokens", Str.ofString "at", Str.ofString "some", Str.ofString "found"], b_plain_names⟩) rfl rfl (nr1 hr) e2 ?_
      exact fz_a (ho _ _ rfl)

/-- what a reader gives -/
noncomputable def Read (f : Nat) (vs : List V) (n : Nat) (w : List V → V) (o : Option (List V × Int)) : Prop := match o with
  | none => ∀ k σ, (run theTab (k + n + 100)).C f vs σ = some (.error SN, σ)
  | some (gs, e) => ∀ k σ, (run theTab (k + n + 100)).C f vs σ = some (.ok (.tup [w gs, .int e]), σ)
theorem rd_erase {row : List V} (hr : noRefs row = true) {i : Int} {n : Nat} {o : Option (List V × Int)} (hn : n ≤ 900) (ho : NR o) (h : Rk (E1 28 row) (Er 28 row) row false i n o) :
    Read 33 [.lst row, .int i] n (fun gs => .tup [.str [69, 82, 65, 83, 69], .lst gs]) o := by
  have w := rd_names hr hn ho h
  match o, w, ho with
  | none, w, ho =>
    intro k σ
    have w : (run theTab (k + 6 + n + 90)).C 29 [.lst row, .int i] [] = some (.error SN, []) := w (k + 6) []
    rw [show k + n + 100 = (k + n + 99) + 1 by lia]
    refine rC_err (fd := ⟨Str.ofString "read_erase", 2, [Str.ofString "tokens", Str.ofString "at", Str.ofString "names"], b_read_erase⟩) (σ' := []) (ρ' := [some (.lst row), some (.int i), none]) rfl rfl (nr1 hr) ?_
    show (run theTab (k + n + 99)).Ss b_read_erase [some (.lst row), some (.int i), none] [] = _
    unfold b_read_erase
    rw [show k + 6 + n + 90 = k + n + 96 by lia] at w
    simp only [r_Ssc, r_Ssn, r_asgT, r_asg, r_aug, r_lstM, r_lstF, r_tup, r_call, r_bi, r_bin, r_cmp, r_ite, r_idx, r_chrs, r_Esc, r_Esn, r_var, r_lit, r_Tnot, r_Tcmp, r_Tcall, r_Tvar, r_Tlit, r_ife, r_ret, r_raise, r_expr, r_app, r_ext, opAdd, g0, gS, s0, sS, varO_ok, bO_ok, bO_err, some_map, tru_b, retO_some, tupO, sAn, sAc, List.length_cons, List.length_nil, seqK_next, seqK_ret, ilr, List.nil_append, if_true, if_false, Bool.false_eq_true, Bool.not_true, Bool.not_false, i0, i1, i2, i3, i4, i5, w]
  | some (gs, e), w, ho =>
    intro k σ
    have w : (run theTab (k + 6 + n + 90)).C 29 [.lst row, .int i] [] = some (.ok (.tup [.lst gs, .int e]), []) := w (k + 6) []
    rw [show k + n + 100 = (k + n + 99) + 1 by lia]
    refine rC_pure (fd := ⟨Str.ofString "read_erase", 2, [Str.ofString "tokens", Str.ofString "at", Str.ofString "names"], b_read_erase⟩) (σ' := []) (ρ' := [some (.lst row), some (.int e), some (.lst gs)]) (v := .ret (.tup [.tup [.str [69, 82, 65, 83, 69], .lst gs], .int e])) rfl rfl (nr1 hr) ?_ ?_
    · show (run theTab (k + n + 99)).Ss b_read_erase [some (.lst row), some (.int i), none] [] = _
      unfold b_read_erase
      rw [show k + 6 + n + 90 = k + n + 96 by lia] at w
      simp only [r_Ssc, r_Ssn, r_asgT, r_asg, r_aug, r_lstM, r_lstF, r_tup, r_call, r_bi, r_bin, r_cmp, r_ite, r_idx, r_chrs, r_Esc, r_Esn, r_var, r_lit, r_Tnot, r_Tcmp, r_Tcall, r_Tvar, r_Tlit, r_ife, r_ret, r_raise, r_expr, r_app, r_ext, opAdd, g0, gS, s0, sS, varO_ok, bO_ok, bO_err, some_map, tru_b, retO_some, tupO, sAn, sAc, List.length_cons, List.length_nil, seqK_next, seqK_ret, ilr, List.nil_append, if_true, if_false, Bool.false_eq_true, Bool.not_true, Bool.not_false, i0, i1, i2, i3, i4, i5, w]
    · exact fz_c (ho _ _ rfl)

noncomputable def En (row : List V) (i : Int) (b : Bool) : Prop := ∀ k σ, (run theTab (k + 60)).C 27 [.lst row, .int i] σ = some (.ok (.bool b), σ)
theorem rd_close0 {row : List V} (hr : noRefs row = true) {i : Int} (h : En row i true) (n : Nat) : Read 31 [.lst row, .int i] n (fun gs => .tup [.str [67, 76, 79, 83, 69], .lst gs]) (some ([], i)) := by
  intro k σ
  rw [show k + n + 100 = (k + n + 99) + 1 by lia]
  have q : ∀ k σ, (run theTab (k + 60)).C 27 [.lst row, .int i] σ = some (.ok (.bool true), σ) := h
  refine rC_pure (fd := ⟨Str.ofString "read_close", 2, [Str.ofString "tokens", Str.ofString "at", Str.ofString "some", Str.ofString "found"], b_read_close⟩) (σ' := []) (ρ' := [some (.lst row), some (.int i), none, none]) (v := .ret (.tup [.tup [.str [67, 76, 79, 83, 69], .lst []], .int i])) rfl rfl (nr1 hr) ?_ ?_
  · show (run theTab (k + n + 99)).Ss b_read_close [some (.lst row), some (.int i), none, none] [] = _
    unfold b_read_close
    simp only [r_Ssc, r_Ssn, r_asgT, r_asg, r_aug, r_lstM, r_lstF, r_tup, r_call, r_bi, r_bin, r_cmp, r_ite, r_idx, r_chrs, r_Esc, r_Esn, r_var, r_lit, r_Tnot, r_Tcmp, r_Tcall, r_Tvar, r_Tlit, r_ife, r_ret, r_raise, r_expr, r_app, r_ext, opAdd, g0, gS, s0, sS, varO_ok, bO_ok, bO_err, some_map, tru_b, retO_some, tupO, sAn, sAc, List.length_cons, List.length_nil, seqK_next, seqK_ret, ilr, List.nil_append, if_true, if_false, Bool.false_eq_true, Bool.not_true, Bool.not_false, i0, i1, i2, i3, i4, i5, q]
  · exact fz_c rfl
theorem rd_close {row : List V} (hr : noRefs row = true) {i : Int} {n : Nat} {o : Option (List V × Int)} (hn : n ≤ 900) (ho : NR o) (he : En row i false) (h : Rk (E1 30 row) (Er 30 row) row false i n o) :
    Read 31 [.lst row, .int i] n (fun gs => .tup [.str [67, 76, 79, 83, 69], .lst gs]) o := by
  have q : ∀ k σ, (run theTab (k + 60)).C 27 [.lst row, .int i] σ = some (.ok (.bool false), σ) := he
  cases h with
  | bad h =>
    rename_i n
    intro k σ
    rw [show k + (n + 1) + 100 = (k + n + 100) + 1 by lia]
    have q2 : ∀ k σ, (run theTab (k + 60)).C 30 [.lst row, .int i] σ = some (.error SN, σ) := h
    refine rC_err (fd := ⟨Str.ofString "read_close", 2, [Str.ofString "tokens", Str.ofString "at", Str.ofString "some", Str.ofString "found"], b_read_close⟩) (σ' := []) (ρ' := [some (.lst row), some (.int i), none, none]) rfl rfl (nr1 hr) ?_
    show (run theTab (k + n + 100)).Ss b_read_close [some (.lst row), some (.int i), none, none] [] = _
    unfold b_read_close
    simp only [r_Ssc, r_Ssn, r_asgT, r_asg, r_aug, r_lstM, r_lstF, r_tup, r_call, r_bi, r_bin, r_cmp, r_ite, r_idx, r_chrs, r_Esc, r_Esn, r_var, r_lit, r_Tnot, r_Tcmp, r_Tcall, r_Tvar, r_Tlit, r_ife, r_ret, r_raise, r_expr, r_app, r_ext, opAdd, g0, gS, s0, sS, varO_ok, bO_ok, bO_err, some_map, tru_b, retO_some, tupO, sAn, sAc, List.length_cons, List.length_nil, seqK_next, seqK_ret, ilr, List.nil_append, if_true, if_false, Bool.false_eq_true, Bool.not_true, Bool.not_false, i0, i1, i2, i3, i4, i5, q, q2]
  | el h r =>
    rename_i j v n o'
    obtain ⟨y, rfl, h⟩ := h
    have q2 : ∀ k σ, (run theTab (k + 60)).C 30 [.lst row, .int i] σ = some (.ok (.tup [y, .int j]), σ) := h
    have e : ∀ k, (run theTab (k + n + 100)).Ss b_read_close [some (.lst row), some (.int i), none, none] [] = bindO ((run theTab (k + n + 96)).S (.whl (.call 15 [.var 0, .var 1, .lit (.str [44])]) [.asgT [3, 1] (.call 30 [.var 0, .bin .Add (.var 1) (.lit (.int 1))]), .expr (.app (.var 2) (.var 3))])
        [some (.lst row), some (.int j), some (.ref 0), some y] [.list [y]]) (seqK theTab (k + n + 96) [.ret (.tup [(.tup [(.lit (.str [67, 76, 79, 83, 69])), (.var 2)]), (.var 1)])]) := by
      intro k
      unfold b_read_close
      simp only [r_Ssc, r_Ssn, r_asgT, r_asg, r_aug, r_lstM, r_lstF, r_tup, r_call, r_bi, r_bin, r_cmp, r_ite, r_idx, r_chrs, r_Esc, r_Esn, r_var, r_lit, r_Tnot, r_Tcmp, r_Tcall, r_Tvar, r_Tlit, r_ife, r_ret, r_raise, r_expr, r_app, r_ext, opAdd, g0, gS, s0, sS, varO_ok, bO_ok, bO_err, some_map, tru_b, retO_some, tupO, sAn, sAc, List.length_cons, List.length_nil, seqK_next, seqK_ret, ilr, List.nil_append, if_true, if_false, Bool.false_eq_true, Bool.not_true, Bool.not_false, i0, i1, i2, i3, i4, i5, q, q2]
    have w : ∀ k, _ := fun k => loopC 30 row n j o' r [y] y (k + 16) (by simp; lia)
    unfold whlC at w
    refine (?_ : Read 31 _ (n + 1) _ (o'.map fun p => ([y] ++ p.1, p.2)))
    match o', w, ho with
    | none, w, ho =>
      intro k σ
      rw [show k + (n + 1) + 100 = (k + n + 100) + 1 by lia]
      obtain ⟨ρ', σ', w⟩ := w k
      have e := e k
      rw [show k + 16 + n + 80 = k + n + 96 by lia] at w
      rw [w] at e
      exact rC_err (fd := ⟨Str.ofString "read_close", 2, [Str.ofString "tokens", Str.ofString "at", Str.ofString "some", Str.ofString "found"], b_read_close⟩) rfl rfl (nr1 hr) e
    | some (gs, ei), w, ho =>
      intro k σ
      rw [show k + (n + 1) + 100 = (k + n + 100) + 1 by lia]
      obtain ⟨x', w⟩ := w k
      have e := e k
      rw [show k + 16 + n + 80 = k + n + 96 by lia] at w
      rw [w] at e
      have e2 : (run theTab (k + n + 100)).Ss b_read_close [some (.lst row), some (.int i), none, none] [] = some (.ok (.ret (.tup [.tup [.str [67, 76, 79, 83, 69], .ref 0], .int ei])), [some (V.lst row), some (.int ei), some (.ref 0), some x'], [.list ([y] ++ gs)]) := by
        rw [e]
        simp only [r_Ssc, r_Ssn, r_asgT, r_asg, r_aug, r_lstM, r_lstF, r_tup, r_call, r_bi, r_bin, r_cmp, r_ite, r_idx, r_chrs, r_Esc, r_Esn, r_var, r_lit, r_Tnot, r_Tcmp, r_Tcall, r_Tvar, r_Tlit, r_ife, r_ret, r_raise, r_expr, r_app, r_ext, opAdd, g0, gS, s0, sS, varO_ok, bO_ok, bO_err, some_map, tru_b, retO_some, tupO, sAn, sAc, List.length_cons, List.length_nil, seqK_next, seqK_ret, ilr, List.nil_append, if_true, if_false, Bool.false_eq_true, Bool.not_true, Bool.not_false, i0, i1, i2, i3, i4, i5]
      refine rC_pure (fd := ⟨Str.ofString "read_close", 2, [Str.ofString "tokens", Str.ofString "at", Str.ofString "some", Str.ofString "found"], b_read_close⟩) rfl rfl (nr1 hr) e2 ?_
      exact fz_b (ho _ _ rfl)
end Mine

end

section
open PySem PySem.W PyProof.Rows
set_option maxRecDepth 100000
set_option maxHeartbeats 4000000
namespace Mine

/-- an element of COMMON -/
noncomputable def Ec (row : List V) (i : Int) (v : List V) (j : Int) : Prop := ∃ x, v = [.str x] ∧
  ((El 28 row i (.str x) j ∧ Sg row j 40 false) ∨ (∃ s j1, x = s ++ [40, 41] ∧ s.length ≤ 1000 ∧ El 28 row i (.str s) j1 ∧ Sg row j1 40 true ∧ Xp row (j1 + 1) 41 j))
noncomputable def cmB : List MS := [.asgT [3, 1] (.call 28 [(.var 0), (.var 1)]), .ife (.call 15 [(.var 0), (.var 1), (.lit (.str [40]))]) [.asgT [3, 1] (.tup [(.bin .Add (.var 3) (.lit (.str [40, 41]))), (.call 16 [(.var 0), (.bin .Add (.var 1) (.lit (.int 1))), (.lit (.str [41]))])])] [], .expr (.app (.var 2) (.var 3)), .ife (.not (.call 15 [(.var 0), (.var 1), (.lit (.str [44]))])) [.ret (.tup [(.tup [(.lit (.str [67, 79, 77, 77, 79, 78])), (.var 2)]), (.var 1)])] [], .aug 1 .Add (.lit (.int 1))]

noncomputable def LoopRet (n : Nat) (s : MS) (ρ : Int → Option V → Loc) (acc : List V) (j : Int) (x : Option V) (w : Int → V) (o : Option (List V × Int)) : Prop := match o with
  | none => ∃ ρ' σ', (run theTab n).S s (ρ j x) [.list acc] = some (.error SN, ρ', σ')
  | some (gs, e) => ∃ ρ', (run theTab n).S s (ρ j x) [.list acc] = some (.ok (.ret (w e)), ρ', [.list (acc ++ gs)])
theorem augInt {i : Nat} {a b : Int} {ρ : Loc} {σ : Mem} : augO .Add i (.int a) (.int b) ρ σ = some (.ok .next, ρ.set i (some (.int (a + b))), σ) := rfl
theorem opAddS {s t : List Nat} {σ : Mem} (h : s.length ≤ 1000) (ht : t.length ≤ 1000) : opBin .Add (deref σ (.str s)) (deref σ (.str t)) = some (.str (s ++ t)) := by
  show orO (if s.length + t.length ≤ 100000 then some (V.str (s ++ t)) else none) none = _
  rw [if_pos (by lia)]; rfl

/-- after the element is read -/
theorem cm_head {row : List V} {i j : Int} {v : List V} (h : Ec row i v j) (acc : List V) (hacc : acc.length ≤ 1000) (x : Option V) (k : Nat) : ∃ y, v = [y] ∧ noRef y = true ∧
    (run theTab (k + 80)).Ss cmB [some (.lst row), some (.int i), some (.ref 0), x] [.list acc] =
      (run theTab (k + 77)).Ss [.ife (.not (.call 15 [(.var 0), (.var 1), (.lit (.str [44]))])) [.ret (.tup [(.tup [(.lit (.str [67, 79, 77, 77, 79, 78])), (.var 2)]), (.var 1)])] [], .aug 1 .Add (.lit (.int 1))]
        [some (.lst row), some (.int j), some (.ref 0), some y] [.list (acc ++ [y])] := by
  obtain ⟨s, rfl, h⟩ := h
  have hl : acc.length ≤ 100000 := by lia
  refine ⟨_, rfl, rfl, ?_⟩
  generalize hX : (run theTab (k + 77)).Ss [.ife (.not (.call 15 [(.var 0), (.var 1), (.lit (.str [44]))])) [.ret (.tup [(.tup [(.lit (.str [67, 79, 77, 77, 79, 78])), (.var 2)]), (.var 1)])] [], .aug 1 .Add (.lit (.int 1))]
        [some (.lst row), some (.int j), some (.ref 0), some (.str s)] [.list (acc ++ [.str s])] = X
  rcases h with ⟨h1, h2⟩ | ⟨t, j1, rfl, ht, h1, h2, h3⟩
  · have q1 : ∀ k σ, (run theTab (k + 60)).C 28 [.lst row, .int i] σ = some (.ok (.tup [.str s, .int j]), σ) := h1
    have q2 : ∀ k σ, (run theTab (k + 60)).C 15 [.lst row, .int j, .str [40]] σ = some (.ok (.bool false), σ) := h2
    unfold cmB
    rw [r_Ssc]
    simp only [r_asgT, r_call, r_Esc, r_Esn, r_var, g0, gS, varO_ok, bO_ok, q1, some_map, s0, sS, tupO, sAn, sAc, List.length_cons, List.length_nil, seqK_next]
    rw [r_Ssc]
    simp only [r_ife, r_Tcall, r_call, r_Esc, r_Esn, r_var, r_lit, g0, gS, varO_ok, bO_ok, q2, some_map, tru_b, retO_some, Bool.false_eq_true, if_false, r_Ssn, seqK_next]
    rw [r_Ssc]
    simp only [r_expr, r_app, r_var, g0, gS, varO_ok, bO_ok, ilr, hl, if_true, s0, seqK_next]
    exact hX
  · have q1 : ∀ k σ, (run theTab (k + 60)).C 28 [.lst row, .int i] σ = some (.ok (.tup [.str t, .int j1]), σ) := h1
    have q2 : ∀ k σ, (run theTab (k + 60)).C 15 [.lst row, .int j1, .str [40]] σ = some (.ok (.bool true), σ) := h2
    have q3 : ∀ k σ, (run theTab (k + 60)).C 16 [.lst row, .int (j1 + 1), .str [41]] σ = some (.ok (.int j), σ) := h3
    unfold cmB
    rw [r_Ssc]
    simp only [r_asgT, r_call, r_Esc, r_Esn, r_var, g0, gS, varO_ok, bO_ok, q1, some_map, s0, sS, tupO, sAn, sAc, List.length_cons, List.length_nil, seqK_next]
    rw [r_Ssc]
    simp only [r_ife, r_Tcall, r_call, r_Esc, r_Esn, r_var, r_lit, g0, gS, varO_ok, bO_ok, q2, some_map, tru_b, retO_some, if_true]
    rw [r_Ssc]
    simp only [r_asgT, r_tup, r_call, r_bin, opAdd, opAddS ht (show [40, 41].length ≤ 1000 by decide), r_Esc, r_Esn, r_var, r_lit, g0, gS, varO_ok, bO_ok, q3, some_map, retO_some, s0, sS, i2, tupO, sAn, sAc, List.length_cons, List.length_nil, seqK_next, r_Ssn]
    rw [r_Ssc]
    simp only [r_expr, r_app, r_var, g0, gS, varO_ok, bO_ok, ilr, hl, if_true, s0, seqK_next]
    exact hX

theorem loopM (row : List V) : ∀ (n : Nat) (i : Int) (o : Option (List V × Int)), Rk (Ec row) (Er 28 row) row false i n o → ∀ (acc : List V) (x : Option V) (k : Nat), acc.length + n ≤ 900 →
    LoopRet (k + n + 85) (.whl (.lit (.bool true)) cmB) (fun i x => [some (.lst row), some (.int i), some (.ref 0), x]) acc i x (fun e => .tup [.tup [.str [67, 79, 77, 77, 79, 78], .ref 0], .int e]) o := by
  intro n
  induction n using Nat.strongRecOn with
  | _ n ih =>
  intro i o h acc x k hb
  cases h with
  | bad h =>
    rename_i n
    have q1 : ∀ k σ, (run theTab (k + 60)).C 28 [.lst row, .int i] σ = some (.error SN, σ) := h
    rw [show k + (n + 1) + 85 = k + n + 86 by lia]
    unfold LoopRet
    unfold cmB
    simp only [r_Ssc, r_Ssn, r_asgT, r_asg, r_aug, r_lstM, r_lstF, r_tup, r_call, r_bi, r_bin, r_cmp, r_ite, r_idx, r_chrs, r_Esc, r_Esn, r_var, r_lit, r_Tnot, r_Tcmp, r_Tcall, r_Tvar, r_Tlit, r_ife, r_ret, r_raise, r_expr, r_app, r_ext, opAdd, g0, gS, s0, sS, varO_ok, bO_ok, bO_err, some_map, tru_b, retO_some, tupO, sAn, sAc, List.length_cons, List.length_nil, seqK_next, seqK_ret, ilr, List.nil_append, if_true, if_false, Bool.false_eq_true, Bool.not_true, Bool.not_false, i0, i1, i2, i3, i4, i5, r_whl, q1]
    exact ⟨_, _, rfl⟩
  | el h r =>
    rename_i j v n o'
    obtain ⟨y, rfl, hy, e⟩ := cm_head h acc (by lia) x (k + n + 5)
    rw [show k + n + 5 + 80 = k + n + 85 by lia, show k + n + 5 + 77 = k + n + 82 by lia] at e
    rw [show k + (n + 1) + 85 = k + n + 86 by lia]
    cases r with
    | stop h =>
      rename_i n
      have q1 : ∀ k σ, (run theTab (k + 60)).C 15 [.lst row, .int j, .str [44]] σ = some (.ok (.bool false), σ) := h
      refine ⟨[some (.lst row), some (.int j), some (.ref 0), some y], ?_⟩
      simp only [r_whl, r_Tlit, r_lit, bO_ok, tru_b, retO_some, if_true, e]
      simp only [r_Ssc, r_Ssn, r_asgT, r_asg, r_aug, r_lstM, r_lstF, r_tup, r_call, r_bi, r_bin, r_cmp, r_ite, r_idx, r_chrs, r_Esc, r_Esn, r_var, r_lit, r_Tnot, r_Tcmp, r_Tcall, r_Tvar, r_Tlit, r_ife, r_ret, r_raise, r_expr, r_app, r_ext, opAdd, g0, gS, s0, sS, varO_ok, bO_ok, bO_err, some_map, tru_b, retO_some, tupO, sAn, sAc, List.length_cons, List.length_nil, seqK_next, seqK_ret, ilr, List.nil_append, if_true, if_false, Bool.false_eq_true, Bool.not_true, Bool.not_false, i0, i1, i2, i3, i4, i5, q1, whlK_ret, List.append_nil]
    | more h r =>
      rename_i n
      have q1 : ∀ k σ, (run theTab (k + 60)).C 15 [.lst row, .int j, .str [44]] σ = some (.ok (.bool true), σ) := h
      have w := ih n (by lia) (j + 1) o' r (acc ++ [y]) (some y) (k + 1) (by simp; lia)
      have e2 : (run theTab (k + (n + 1) + 86)).S (.whl (.lit (.bool true)) cmB) [some (.lst row), some (.int i), some (.ref 0), x] [.list acc] =
          (run theTab (k + 1 + n + 85)).S (.whl (.lit (.bool true)) cmB) [some (.lst row), some (.int (j + 1)), some (.ref 0), some y] [.list (acc ++ [y])] := by
        generalize hX : (run theTab (k + 1 + n + 85)).S (.whl (.lit (.bool true)) cmB) [some (.lst row), some (.int (j + 1)), some (.ref 0), some y] [.list (acc ++ [y])] = X
        simp only [r_whl, r_Tlit, r_lit, bO_ok, tru_b, retO_some, if_true, e]
        simp only [r_Ssc, r_Ssn, r_asgT, r_asg, r_aug, r_lstM, r_lstF, r_tup, r_call, r_bi, r_bin, r_cmp, r_ite, r_idx, r_chrs, r_Esc, r_Esn, r_var, r_lit, r_Tnot, r_Tcmp, r_Tcall, r_Tvar, r_Tlit, r_ife, r_ret, r_raise, r_expr, r_app, r_ext, opAdd, g0, gS, s0, sS, varO_ok, bO_ok, bO_err, some_map, tru_b, retO_some, tupO, sAn, sAc, List.length_cons, List.length_nil, seqK_next, seqK_ret, ilr, List.nil_append, if_true, if_false, Bool.false_eq_true, Bool.not_true, Bool.not_false, i0, i1, i2, i3, i4, i5, q1, augInt]
        rw [whlK_next, ← hX, show k + (n + 1) + 85 = k + 1 + n + 85 by lia]
      unfold LoopRet at w ⊢
      rw [e2]
      match o', w with
      | none, w => exact w
      | some (gs, e'), w =>
        dsimp only at w ⊢
        simpa using w

theorem rd_common {row : List V} (hr : noRefs row = true) {i : Int} {n : Nat} {o : Option (List V × Int)} (hn : n ≤ 800) (ho : NR o) (h : Rk (Ec row) (Er 28 row) row false i n o) :
    Read 32 [.lst row, .int i] n (fun gs => .tup [.str [67, 79, 77, 77, 79, 78], .lst gs]) o := by
  have w : ∀ k, _ := fun k => loopM row n i o h [] none (k + 12) (by simp; lia)
  have e : ∀ k, (run theTab (k + n + 99)).Ss b_read_common [some (.lst row), some (.int i), none, none] [] = bindO ((run theTab (k + n + 97)).S (.whl (.lit (.bool true)) cmB) [some (.lst row), some (.int i), some (.ref 0), none] [.list []]) (seqK theTab (k + n + 97) []) := by
    intro k
    unfold b_read_common
    simp only [r_Ssc, r_Ssn, r_asgT, r_asg, r_aug, r_lstM, r_lstF, r_tup, r_call, r_bi, r_bin, r_cmp, r_ite, r_idx, r_chrs, r_Esc, r_Esn, r_var, r_lit, r_Tnot, r_Tcmp, r_Tcall, r_Tvar, r_Tlit, r_ife, r_ret, r_raise, r_expr, r_app, r_ext, opAdd, g0, gS, s0, sS, varO_ok, bO_ok, bO_err, some_map, tru_b, retO_some, tupO, sAn, sAc, List.length_cons, List.length_nil, seqK_next, seqK_ret, ilr, List.nil_append, if_true, if_false, Bool.false_eq_true, Bool.not_true, Bool.not_false, i0, i1, i2, i3, i4, i5]
    rfl
  match o, w, ho with
  | none, w, ho =>
    intro k σ
    rw [show k + n + 100 = (k + n + 99) + 1 by lia]
    obtain ⟨ρ', σ', w⟩ := w k
    have e := e k
    rw [show k + 12 + n + 85 = k + n + 97 by lia] at w
    rw [w] at e
    exact rC_err (fd := ⟨Str.ofString "read_common", 2, [Str.ofString "tokens", Str.ofString "at", Str.ofString "some", Str.ofString "name"], b_read_common⟩) rfl rfl (nr1 hr) e
  | some (gs, ei), w, ho =>
    intro k σ
    rw [show k + n + 100 = (k + n + 99) + 1 by lia]
    obtain ⟨ρ', w⟩ := w k
    have e := e k
    rw [show k + 12 + n + 85 = k + n + 97 by lia] at w
    rw [w] at e
    exact rC_pure (fd := ⟨Str.ofString "read_common", 2, [Str.ofString "tokens", Str.ofString "at", Str.ofString "some", Str.ofString "name"], b_read_common⟩) rfl rfl (nr1 hr) e (fz_b (ho _ _ rfl))

/-- an element of DEFINT -/
noncomputable def Ek (row : List V) (i : Int) (v : List V) (j : Int) : Prop := ∃ a b : Nat, ¬ (([b] : List Nat) < [a]) ∧ chrsO (.int a) (.int (b + 1)) = some (.lst v) ∧ v.length ≤ 30 ∧
  ((El 34 row i (.str [a]) j ∧ Sg row j 45 false ∧ b = a) ∨ (∃ j1, El 34 row i (.str [a]) j1 ∧ Sg row j1 45 true ∧ El 34 row (j1 + 1) (.str [b]) j))
noncomputable def Bk (row : List V) (i : Int) : Prop := Er 34 row i ∨ ∃ a b : Nat, ∃ j1 j, (([b] : List Nat) < [a]) ∧ El 34 row i (.str [a]) j1 ∧ Sg row j1 45 true ∧ El 34 row (j1 + 1) (.str [b]) j
noncomputable def kdB : List MS := [.asgT [5, 1] (.call 34 [(.var 0), (.var 1)]), .asg 4 (.var 5), .ife (.call 15 [(.var 0), (.var 1), (.lit (.str [45]))]) [.asgT [4, 1] (.call 34 [(.var 0), (.bin .Add (.var 1) (.lit (.int 1)))])] [], .ife (.cmp .Lt (.var 4) (.var 5)) [.raise (.lit (.str [83, 78])) [(.bin .Sub (.var 1) (.lit (.int 1)))]] [], .expr (.ext (.var 3) (.chrs (.bi 1 [(.var 5)]) (.bin .Add (.bi 1 [(.var 4)]) (.lit (.int 1))))), .ife (.not (.call 15 [(.var 0), (.var 1), (.lit (.str [44]))])) [.ret (.tup [(.tup [(.lit (.str [68, 69, 70, 75, 73, 78, 68])), (.var 2), (.var 3)]), (.var 1)])] [], .aug 1 .Add (.lit (.int 1))]
noncomputable def kdT : List MS := [.ife (.not (.call 15 [(.var 0), (.var 1), (.lit (.str [44]))])) [.ret (.tup [(.tup [(.lit (.str [68, 69, 70, 75, 73, 78, 68])), (.var 2), (.var 3)]), (.var 1)])] [], .aug 1 .Add (.lit (.int 1))]
noncomputable def kdM : List MS := .ife (.cmp .Lt (.var 4) (.var 5)) [.raise (.lit (.str [83, 78])) [(.bin .Sub (.var 1) (.lit (.int 1)))]] [] :: .expr (.ext (.var 3) (.chrs (.bi 1 [(.var 5)]) (.bin .Add (.bi 1 [(.var 4)]) (.lit (.int 1))))) :: kdT
theorem opLtS {s t : List Nat} : opCmp .Lt (.str s) (.str t) = some (decide (s < t)) := rfl
theorem ordS {a : Nat} {σ : Mem} : biAll 1 [.str [a]] σ = some (.int a) := rfl
theorem opSub (a b : Int) (σ : Mem) : opBin .Sub (deref σ (.int a)) (deref σ (.int b)) = some (.int (a - b)) := rfl
/-- first and last are read -/
theorem kd_two {row : List V} {i j j1 : Int} {a b : Nat} (h : (El 34 row i (.str [a]) j ∧ Sg row j 45 false ∧ b = a) ∨ (∃ j1, El 34 row i (.str [a]) j1 ∧ Sg row j1 45 true ∧ El 34 row (j1 + 1) (.str [b]) j)) (z : V) (σ : Mem) (x y : Option V) (k : Nat) :
    (run theTab (k + 80)).Ss kdB [some (.lst row), some (.int i), some z, some (.ref 0), x, y] σ = (run theTab (k + 77)).Ss kdM [some (.lst row), some (.int j), some z, some (.ref 0), some (.str [b]), some (.str [a])] σ := by
  generalize hX : (run theTab (k + 77)).Ss kdM [some (.lst row), some (.int j), some z, some (.ref 0), some (.str [b]), some (.str [a])] σ = X
  rcases h with ⟨h1, h2, rfl⟩ | ⟨j1, h1, h2, h3⟩
  · have q1 : ∀ k σ, (run theTab (k + 60)).C 34 [.lst row, .int i] σ = some (.ok (.tup [.str [b], .int j]), σ) := h1
    have q2 : ∀ k σ, (run theTab (k + 60)).C 15 [.lst row, .int j, .str [45]] σ = some (.ok (.bool false), σ) := h2
    unfold kdB
    rw [r_Ssc]
    simp only [r_asgT, r_call, r_Esc, r_Esn, r_var, g0, gS, varO_ok, bO_ok, q1, some_map, s0, sS, tupO, sAn, sAc, List.length_cons, List.length_nil, seqK_next]
    rw [r_Ssc]
    simp only [r_asg, r_var, g0, gS, varO_ok, bO_ok, some_map, s0, sS, seqK_next]
    rw [r_Ssc]
    simp only [r_ife, r_Tcall, r_call, r_Esc, r_Esn, r_var, r_lit, g0, gS, varO_ok, bO_ok, q2, some_map, tru_b, retO_some, Bool.false_eq_true, if_false, r_Ssn, seqK_next]
    exact hX
  · have q1 : ∀ k σ, (run theTab (k + 60)).C 34 [.lst row, .int i] σ = some (.ok (.tup [.str [a], .int j1]), σ) := h1
    have q2 : ∀ k σ, (run theTab (k + 60)).C 15 [.lst row, .int j1, .str [45]] σ = some (.ok (.bool true), σ) := h2
    have q3 : ∀ k σ, (run theTab (k + 60)).C 34 [.lst row, .int (j1 + 1)] σ = some (.ok (.tup [.str [b], .int j]), σ) := h3
    unfold kdB
    rw [r_Ssc]
    simp only [r_asgT, r_call, r_Esc, r_Esn, r_var, g0, gS, varO_ok, bO_ok, q1, some_map, s0, sS, tupO, sAn, sAc, List.length_cons, List.length_nil, seqK_next]
    rw [r_Ssc]
    simp only [r_asg, r_var, g0, gS, varO_ok, bO_ok, some_map, s0, sS, seqK_next]
    rw [r_Ssc]
    simp only [r_ife, r_Tcall, r_call, r_Esc, r_Esn, r_var, r_lit, g0, gS, varO_ok, bO_ok, q2, some_map, tru_b, retO_some, if_true]
    rw [r_Ssc]
    simp only [r_asgT, r_call, r_bin, opAdd, r_Esc, r_Esn, r_var, r_lit, g0, gS, varO_ok, bO_ok, q3, some_map, retO_some, s0, sS, tupO, sAn, sAc, List.length_cons, List.length_nil, seqK_next, r_Ssn]
    exact hX
theorem kd_head {row : List V} {i j : Int} {v : List V} (h : Ek row i v j) (z : V) (acc : List V) (hacc : acc.length ≤ 50000) (x y : Option V) (k : Nat) : ∃ x' y',
    (run theTab (k + 80)).Ss kdB [some (.lst row), some (.int i), some z, some (.ref 0), x, y] [.list acc] =
      (run theTab (k + 75)).Ss kdT [some (.lst row), some (.int j), some z, some (.ref 0), x', y'] [.list (acc ++ v)] := by
  obtain ⟨a, b, hab, hv, hz, h⟩ := h
  refine ⟨some (.str [b]), some (.str [a]), ?_⟩
  rw [kd_two (j1 := 0) h]
  generalize hX : (run theTab (k + 75)).Ss kdT [some (.lst row), some (.int j), some z, some (.ref 0), some (.str [b]), some (.str [a])] [.list (acc ++ v)] = X
  have hl : acc.length + v.length ≤ 100000 := by lia
  unfold kdM
  rw [r_Ssc]
  simp only [r_ife, r_Tcmp, r_var, opLtS, hab, decide_false, g0, gS, varO_ok, bO_ok, retO_some, Bool.false_eq_true, if_false, r_Ssn, seqK_next]
  rw [r_Ssc]
  simp only [r_expr, r_ext, r_var, r_chrs, r_bi, r_bin, r_lit, opAdd, r_Esc, r_Esn, ordS, g0, gS, varO_ok, bO_ok, ilr, retO_some, hv, hl, if_true, s0, seqK_next]
  exact hX
theorem kd_bad {row : List V} {i : Int} (h : Bk row i) (z : V) (σ : Mem) (x y : Option V) (k : Nat) : ∃ ρ',
    (run theTab (k + 80)).Ss kdB [some (.lst row), some (.int i), some z, some (.ref 0), x, y] σ = some (.error SN, ρ', σ) := by
  rcases h with h | ⟨a, b, j1, j, hlt, h1, h2, h3⟩
  · have q1 : ∀ k σ, (run theTab (k + 60)).C 34 [.lst row, .int i] σ = some (.error SN, σ) := h
    unfold kdB
    rw [r_Ssc]
    simp only [r_asgT, r_call, r_Esc, r_Esn, r_var, g0, gS, varO_ok, bO_ok, bO_err, q1, some_map]
    exact ⟨_, rfl⟩
  · rw [kd_two (j1 := 0) (.inr ⟨j1, h1, h2, h3⟩)]
    unfold kdM
    rw [r_Ssc]
    simp only [r_ife, r_Tcmp, r_var, opLtS, hlt, decide_true, g0, gS, varO_ok, bO_ok, bO_err, retO_some, if_true, r_Ssc, r_raise, r_Esc, r_Esn, r_lit, r_bin, opSub, raiseO]
    exact ⟨_, rfl⟩

theorem loopK (row : List V) (z : V) : ∀ (n : Nat) (i : Int) (o : Option (List V × Int)), Rk (Ek row) (Bk row) row false i n o → ∀ (acc : List V) (x y : Option V) (k : Nat), acc.length + 30 * n ≤ 30000 →
    LoopRet (k + n + 85) (.whl (.lit (.bool true)) kdB) (fun i x => [some (.lst row), some (.int i), some z, some (.ref 0), x, y]) acc i x (fun e => .tup [.tup [.str [68, 69, 70, 75, 73, 78, 68], z, .ref 0], .int e]) o := by
  intro n
  induction n using Nat.strongRecOn with
  | _ n ih =>
  intro i o h acc x y k hb
  cases h with
  | bad h =>
    rename_i n
    rw [show k + (n + 1) + 85 = k + n + 86 by lia]
    obtain ⟨ρ', e⟩ := kd_bad h z [.list acc] x y (k + n + 5)
    refine ⟨ρ', [.list acc], ?_⟩
    rw [show k + n + 5 + 80 = k + n + 85 by lia] at e
    simp only [r_whl, r_Tlit, r_lit, bO_ok, tru_b, retO_some, if_true, e, bO_err]
  | el h r =>
    rename_i j v n o'
    have hv : v.length ≤ 30 := h.choose_spec.choose_spec.2.2.1
    obtain ⟨x', y', e⟩ := kd_head h z acc (by lia) x y (k + n + 5)
    rw [show k + n + 5 + 80 = k + n + 85 by lia, show k + n + 5 + 75 = k + n + 80 by lia] at e
    rw [show k + (n + 1) + 85 = k + n + 86 by lia]
    cases r with
    | stop h =>
      rename_i n
      have q1 : ∀ k σ, (run theTab (k + 60)).C 15 [.lst row, .int j, .str [44]] σ = some (.ok (.bool false), σ) := h
      refine ⟨[some (.lst row), some (.int j), some z, some (.ref 0), x', y'], ?_⟩
      simp only [r_whl, r_Tlit, r_lit, bO_ok, tru_b, retO_some, if_true, e]
      unfold kdT
      simp only [r_Ssc, r_Ssn, r_asgT, r_asg, r_aug, r_lstM, r_lstF, r_tup, r_call, r_bi, r_bin, r_cmp, r_ite, r_idx, r_chrs, r_Esc, r_Esn, r_var, r_lit, r_Tnot, r_Tcmp, r_Tcall, r_Tvar, r_Tlit, r_ife, r_ret, r_raise, r_expr, r_app, r_ext, opAdd, g0, gS, s0, sS, varO_ok, bO_ok, bO_err, some_map, tru_b, retO_some, tupO, sAn, sAc, List.length_cons, List.length_nil, seqK_next, seqK_ret, ilr, List.nil_append, if_true, if_false, Bool.false_eq_true, Bool.not_true, Bool.not_false, i0, i1, i2, i3, i4, i5, q1, whlK_ret, List.append_nil]
    | more h r =>
      rename_i n
      have q1 : ∀ k σ, (run theTab (k + 60)).C 15 [.lst row, .int j, .str [44]] σ = some (.ok (.bool true), σ) := h
      have w := ih n (by lia) (j + 1) o' r (acc ++ v) x' y' (k + 1) (by simp; lia)
      have e2 : (run theTab (k + (n + 1) + 86)).S (.whl (.lit (.bool true)) kdB) [some (.lst row), some (.int i), some z, some (.ref 0), x, y] [.list acc] =
          (run theTab (k + 1 + n + 85)).S (.whl (.lit (.bool true)) kdB) [some (.lst row), some (.int (j + 1)), some z, some (.ref 0), x', y'] [.list (acc ++ v)] := by
        generalize hX : (run theTab (k + 1 + n + 85)).S (.whl (.lit (.bool true)) kdB) [some (.lst row), some (.int (j + 1)), some z, some (.ref 0), x', y'] [.list (acc ++ v)] = X
        simp only [r_whl, r_Tlit, r_lit, bO_ok, tru_b, retO_some, if_true, e]
        unfold kdT
        simp only [r_Ssc, r_Ssn, r_asgT, r_asg, r_aug, r_lstM, r_lstF, r_tup, r_call, r_bi, r_bin, r_cmp, r_ite, r_idx, r_chrs, r_Esc, r_Esn, r_var, r_lit, r_Tnot, r_Tcmp, r_Tcall, r_Tvar, r_Tlit, r_ife, r_ret, r_raise, r_expr, r_app, r_ext, opAdd, g0, gS, s0, sS, varO_ok, bO_ok, bO_err, some_map, tru_b, retO_some, tupO, sAn, sAc, List.length_cons, List.length_nil, seqK_next, seqK_ret, ilr, List.nil_append, if_true, if_false, Bool.false_eq_true, Bool.not_true, Bool.not_false, i0, i1, i2, i3, i4, i5, q1, augInt]
        rw [whlK_next, ← hX, show k + (n + 1) + 85 = k + 1 + n + 85 by lia]
      unfold LoopRet at w ⊢
      rw [e2]
      match o', w with
      | none, w => exact w
      | some (gs, e'), w =>
        dsimp only at w ⊢
        simpa using w

theorem rd_kinds {row : List V} (hr : noRefs row = true) {s : List Nat} {i : Int} {n : Nat} {o : Option (List V × Int)} (hn : n ≤ 800) (ho : NR o) (h : Rk (Ek row) (Bk row) row false i n o) :
    Read 35 [.lst row, .int i, .str s] n (fun gs => .tup [.str [68, 69, 70, 75, 73, 78, 68], .str s, .lst gs]) o := by
  have w : ∀ k, _ := fun k => loopK row (.str s) n i o h [] none none (k + 12) (by simp; lia)
  have nr2 : noRefs [.lst row, .int i, .str s] = true := by simp [noRefs, noRef, hr]
  have e : ∀ k, (run theTab (k + n + 99)).Ss b_read_kinds [some (.lst row), some (.int i), some (.str s), none, none, none] [] = bindO ((run theTab (k + n + 97)).S (.whl (.lit (.bool true)) kdB) [some (.lst row), some (.int i), some (.str s), some (.ref 0), none, none] [.list []]) (seqK theTab (k + n + 97) []) := by
    intro k
    unfold b_read_kinds
    simp only [r_Ssc, r_Ssn, r_asgT, r_asg, r_aug, r_lstM, r_lstF, r_tup, r_call, r_bi, r_bin, r_cmp, r_ite, r_idx, r_chrs, r_Esc, r_Esn, r_var, r_lit, r_Tnot, r_Tcmp, r_Tcall, r_Tvar, r_Tlit, r_ife, r_ret, r_raise, r_expr, r_app, r_ext, opAdd, g0, gS, s0, sS, varO_ok, bO_ok, bO_err, some_map, tru_b, retO_some, tupO, sAn, sAc, List.length_cons, List.length_nil, seqK_next, seqK_ret, ilr, List.nil_append, if_true, if_false, Bool.false_eq_true, Bool.not_true, Bool.not_false, i0, i1, i2, i3, i4, i5]
    rfl
  match o, w, ho with
  | none, w, ho =>
    intro k σ
    rw [show k + n + 100 = (k + n + 99) + 1 by lia]
    obtain ⟨ρ', σ', w⟩ := w k
    have e := e k
    rw [show k + 12 + n + 85 = k + n + 97 by lia] at w
    rw [w] at e
    exact rC_err (fd := ⟨Str.ofString "read_kinds", 3, [Str.ofString "tokens", Str.ofString "at", Str.ofString "kind", Str.ofString "letters", Str.ofString "last", Str.ofString "first"], b_read_kinds⟩) rfl rfl nr2 e
  | some (gs, ei), w, ho =>
    intro k σ
    rw [show k + n + 100 = (k + n + 99) + 1 by lia]
    obtain ⟨ρ', w⟩ := w k
    have e := e k
    rw [show k + 12 + n + 85 = k + n + 97 by lia] at w
    rw [w] at e
    exact rC_pure (fd := ⟨Str.ofString "read_kinds", 3, [Str.ofString "tokens", Str.ofString "at", Str.ofString "kind", Str.ofString "letters", Str.ofString "last", Str.ofString "first"], b_read_kinds⟩) rfl rfl nr2 e (fz_d (ho _ _ rfl))
end Mine

end

section
open PySem PySem.W PyProof.Rows
set_option maxRecDepth 100000
set_option maxHeartbeats 4000000
namespace Mine

theorem lenS {s : List Nat} {σ : Mem} (h : s.length ≤ 100000) : biAll 0 [.str s] σ = some (.int s.length) := by
  have : biV 0 [.str s] = some (.int s.length) := if_pos h
  unfold biAll
  rw [this]; rfl
theorem opLtI {a b : Int} : opCmp .Lt (.int a) (.int b) = some (decide (a < b)) := rfl
theorem opGtI {a b : Int} : opCmp .Gt (.int a) (.int b) = some (decide (b < a)) := rfl
noncomputable def tkW : MS := .whl (.cmp .Lt (.var 2) (.bi 0 [(.var 0)])) [.asgT [3, 2] (.call 12 [(.var 0), (.var 2)]), .expr (.ext (.var 1) (.var 3)), .asg 2 (.call 6 [(.var 0), (.var 2)])]

theorem loopT {row : List Nat} (hl : row.length ≤ 5000) : ∀ {n : Nat} {i e : Int} {ts : List V}, Tk row n i ts e → ∀ {at' : Int}, Sk row i at' → Sk row e row.length → ∀ (acc : List V) (x : Option V) (k : Nat), acc.length + ts.length ≤ 5000 →
    ∃ x', (run theTab (k + n + 80)).S tkW [some (.str row), some (.ref 0), some (.int at'), x] [.list acc] = some (.ok .next, [some (.str row), some (.ref 0), some (.int row.length), x'], [.list (acc ++ ts)]) := by
  intro n i e ts h
  induction h with
  | nil n i =>
    intro at' h1 h2 acc x k hb
    have := (h1 0 []).symm.trans (h2 0 [])
    cases this
    refine ⟨x, ?_⟩
    have hd : decide ((row.length : Int) < row.length) = false := decide_eq_false (Int.lt_irrefl _)
    have hle : row.length ≤ 100000 := Nat.le_trans hl (by decide)
    rw [show k + n + 80 = (k + n + 79) + 1 from rfl]
    unfold tkW
    rw [r_whl]
    simp only [r_Tcmp, r_var, r_bi, r_Esc, r_Esn, g0, gS, varO_ok, bO_ok, lenS hle, retO_some, opLtI, hd, Bool.false_eq_true, if_false, List.append_nil]
  | cons h1 h2 h3 h4 ih =>
    rename_i n i i' j e ts us
    intro at' h5 h6 acc x k hb
    have := (h1 0 []).symm.trans (h5 0 [])
    cases this
    have q1 : ∀ k σ, (run theTab (k + 60)).C 12 [.str row, .int i'] σ = some (.ok (.tup [.lst ts, .int j]), σ) := h3
    obtain ⟨j', h7⟩ : ∃ j', Sk row j j' := by
      cases h4 with
      | nil => exact ⟨_, h6⟩
      | cons h1 _ _ _ => exact ⟨_, h1⟩
    have q2 : ∀ k σ, (run theTab (k + 60)).C 6 [.str row, .int j] σ = some (.ok (.int j'), σ) := h7
    rw [List.length_append] at hb
    obtain ⟨x', w⟩ := ih h7 h6 (acc ++ ts) (some (.lst ts)) k (by rw [List.length_append]; lia)
    refine ⟨x', ?_⟩
    have hq : acc.length + ts.length ≤ 100000 := by lia
    rw [← List.append_assoc, ← w, show k + (n + 1) + 80 = (k + n + 80) + 1 by lia]
    generalize hX : (run theTab (k + n + 80)).S tkW [some (.str row), some (.ref 0), some (.int j'), some (.lst ts)] [.list (acc ++ ts)] = X
    unfold tkW
    simp only [r_Ssc, r_Ssn, r_asgT, r_asg, r_aug, r_lstM, r_lstF, r_tup, r_call, r_bi, r_bin, r_cmp, r_ite, r_idx, r_chrs, r_Esc, r_Esn, r_var, r_lit, r_Tnot, r_Tcmp, r_Tcall, r_Tvar, r_Tlit, r_ife, r_ret, r_raise, r_expr, r_app, r_ext, opAdd, g0, gS, s0, sS, varO_ok, bO_ok, bO_err, some_map, tru_b, retO_some, tupO, sAn, sAc, List.length_cons, List.length_nil, seqK_next, seqK_ret, ilr, List.nil_append, if_true, if_false, Bool.false_eq_true, Bool.not_true, Bool.not_false, i0, i1, i2, i3, i4, i5, r_whl, lenS (show row.length ≤ 100000 by lia), opLtI, h2, decide_true, q1, q2, hq]
    rw [← hX, whlK_next]
    unfold tkW
    rfl

theorem ct0 : theTab.CT[0]? = some (Str.ofString "MOST_SIGNS", .int 255) := rfl
theorem tokens_of {row : List Nat} (hl : row.length ≤ 255) {n : Nat} {i e : Int} {ts : List V} (h : Tk row n 0 ts e) {at' : Int} (h0 : Sk row 0 at') (he : Sk row e row.length) (hts : ts.length ≤ 5000) (hn : noRefs ts = true) (k : Nat) (σ : Mem) :
    (run theTab (k + n + 90)).C 13 [.str row] σ = some (.ok (.lst ts), σ) := by
  obtain ⟨x', w⟩ := loopT (by lia) h h0 he [] none (k + 6) (by simpa using hts)
  rw [show k + n + 90 = (k + n + 89) + 1 by lia]
  rw [show k + 6 + n + 80 = k + n + 86 by lia] at w
  have q1 : ∀ k σ, (run theTab (k + 60)).C 6 [.str row, .int 0] σ = some (.ok (.int at'), σ) := h0
  have hd : decide ((255 : Int) < row.length) = false := decide_eq_false (by lia)
  refine rC_pure (fd := ⟨Str.ofString "tokens_of", 1, [Str.ofString "row", Str.ofString "found", Str.ofString "at", Str.ofString "told"], b_tokens_of⟩) (σ' := [.list ts]) (ρ' := [some (.str row), some (.ref 0), some (.int row.length), x']) (v := .ret (.ref 0)) rfl rfl rfl ?_ ?_
  · show (run theTab (k + n + 89)).Ss b_tokens_of [some (.str row), none, none, none] [] = _
    unfold b_tokens_of
    unfold tkW at w
    simp only [r_Ssc, r_Ssn, r_asgT, r_asg, r_aug, r_lstM, r_lstF, r_tup, r_call, r_bi, r_bin, r_cmp, r_ite, r_idx, r_chrs, r_Esc, r_Esn, r_var, r_lit, r_Tnot, r_Tcmp, r_Tcall, r_Tvar, r_Tlit, r_ife, r_ret, r_raise, r_expr, r_app, r_ext, opAdd, g0, gS, s0, sS, varO_ok, bO_ok, bO_err, some_map, tru_b, retO_some, tupO, sAn, sAc, List.length_cons, List.length_nil, seqK_next, seqK_ret, ilr, List.nil_append, if_true, if_false, Bool.false_eq_true, Bool.not_true, Bool.not_false, i0, i1, i2, i3, i4, i5, rE_gl ct0, lenS (show row.length ≤ 100000 by lia), opGtI, hd, q1, w]
  · simp only [Fl.val, fz, memL, g0, hn, if_true]
end Mine

end

section
open PySem PySem.W PyProof.Rows
set_option maxRecDepth 100000
set_option maxHeartbeats 4000000
namespace Mine

noncomputable def elAt (W : Win) (f : Nat) (i : Int) : Option (V × Int) := match ask W f [.k, .p i] with
  | some (.ok (.t [.o v, .p j])) => some (v, j)
  | _ => none
noncomputable def erAt (W : Win) (f : Nat) (i : Int) : Bool := match ask W f [.k, .p i] with
  | some (.error c) => c == SN
  | _ => false
noncomputable def sgAt (W : Win) (i : Int) (c : Nat) : Option Bool := match ask W 15 [.k, .p i, .o (.str [c])] with
  | some (.ok (.o (.bool b))) => some b
  | _ => none
noncomputable def xpAt (W : Win) (i : Int) (c : Nat) : Option Int := match ask W 16 [.k, .p i, .o (.str [c])] with
  | some (.ok (.p j)) => some j
  | _ => none
noncomputable def enAt (W : Win) (i : Int) : Option Bool := match ask W 27 [.k, .p i] with
  | some (.ok (.o (.bool b))) => some b
  | _ => none

/-- the row, and the known window in it -/
structure Wn (pre w r : List V) (fin : Bool) : Prop where
  hl : (pre ++ (w ++ r)).length ≤ 5000
  hf : fin = true → r = []
  hn : noRefs (pre ++ (w ++ r)) = true
section
variable {pre w r : List V} {fin : Bool} (H : Wn pre w r fin)
include H
theorem Wn.wr : WR (.lst w fin) ⟨pre.length, (pre ++ (w ++ r)).length, .lst (pre ++ (w ++ r))⟩ := WR.lst H.hl H.hf H.hn
theorem Wn.nr (i : Int) : noRefs [.lst (pre ++ (w ++ r)), .int i] = true := nr1 H.hn
theorem Wn.nr' (i : Int) (s : List Nat) : noRefs [.lst (pre ++ (w ++ r)), .int i, .str s] = true := by simp only [noRefs, noRef, H.hn, Bool.and_self]
theorem el_at {f : Nat} {i j : Int} {v : V} (h : elAt (.lst w fin) f i = some (v, j)) : El f (pre ++ (w ++ r)) (i + pre.length) v (j + pre.length) := by
  unfold elAt at h
  split at h
  · rename_i x hx
    cases h
    exact fun k σ => ask_ok H.wr hx (H.nr _) k σ
  · cases h
theorem er_at {f : Nat} {i : Int} (h : erAt (.lst w fin) f i = true) : Er f (pre ++ (w ++ r)) (i + pre.length) := by
  unfold erAt at h
  split at h
  · rename_i x hx
    rw [eq_of_beq h] at hx
    exact fun k σ => ask_ok H.wr hx (H.nr _) k σ
  · cases h
theorem sg_at {i : Int} {c : Nat} {b : Bool} (h : sgAt (.lst w fin) i c = some b) : Sg (pre ++ (w ++ r)) (i + pre.length) c b := by
  unfold sgAt at h
  split at h
  · rename_i x hx
    cases h
    exact fun k σ => ask_ok H.wr hx (H.nr' _ _) k σ
  · cases h
theorem xp_at {i j : Int} {c : Nat} (h : xpAt (.lst w fin) i c = some j) : Xp (pre ++ (w ++ r)) (i + pre.length) c (j + pre.length) := by
  unfold xpAt at h
  split at h
  · rename_i x hx
    cases h
    exact fun k σ => ask_ok H.wr hx (H.nr' _ _) k σ
  · cases h
theorem en_at {i : Int} {b : Bool} (h : enAt (.lst w fin) i = some b) : En (pre ++ (w ++ r)) (i + pre.length) b := by
  unfold enAt at h
  split at h
  · rename_i x hx
    cases h
    exact fun k σ => ask_ok H.wr hx (H.nr _) k σ
  · cases h
end

/-- what is asked of an element, by form -/
noncomputable def EK (m : Nat) (row : List V) : Int → List V → Int → Prop := match m with
  | 0 => E1 30 row
  | 1 => Ek row
  | 2 => Ec row
  | _ => E1 28 row
noncomputable def BK (m : Nat) (row : List V) : Int → Prop := match m with
  | 0 => Er 30 row
  | 1 => Bk row
  | 2 => Er 28 row
  | _ => Er 28 row
noncomputable def pcs (m : Nat) : List Pc := match m with
  | 0 => pcs0
  | 1 => pcs1
  | 2 => pcs2
  | _ => pcs3

noncomputable def isOne (g : List V) (v : V) : Bool := match g with
  | [x] => veq x v
  | _ => false
theorem isOne_eq {g : List V} {v : V} (h : isOne g v = true) : g = [v] := by
  unfold isOne at h
  split at h
  · rw [veq_eq h]
  · cases h
/-- the element reads g, and ends at e -/
noncomputable def okE (m : Nat) (W : Win) (g : List V) (e : Int) : Bool := match m with
  | 1 => match elAt W 34 0 with
    | some (.str [a], j) => match sgAt W j 45 with
      | some false => decide (j = e) && decide ¬ (([a] : List Nat) < [a]) && decide (g.length ≤ 30) && (match chrsO (.int a) (.int (a + 1)) with | some (.lst v) => veqs v g | _ => false)
      | some true => match elAt W 34 (j + 1) with
        | some (.str [b], j2) => decide (j2 = e) && decide ¬ (([b] : List Nat) < [a]) && decide (g.length ≤ 30) && (match chrsO (.int a) (.int (b + 1)) with | some (.lst v) => veqs v g | _ => false)
        | _ => false
      | none => false
    | _ => false
  | 2 => match elAt W 28 0 with
    | some (.str s, j) => match sgAt W j 40 with
      | some false => decide (j = e) && isOne g (.str s)
      | some true => isOne g (.str (s ++ [40, 41])) && decide (s.length ≤ 1000) && (match xpAt W (j + 1) 41 with | some j2 => decide (j2 = e) | none => false)
      | none => false
    | _ => false
  | 0 => match elAt W 30 0 with
    | some (v, j) => decide (j = e) && isOne g v
    | none => false
  | _ => match elAt W 28 0 with
    | some (v, j) => decide (j = e) && isOne g v
    | none => false
noncomputable def okB (m : Nat) (W : Win) : Bool := match m with
  | 0 => erAt W 30 0
  | 1 => erAt W 34 0 || (match elAt W 34 0 with
    | some (.str [a], j) => (match sgAt W j 45 with | some b => b | none => false) && (match elAt W 34 (j + 1) with
      | some (.str [b], j2) => decide (([b] : List Nat) < [a])
      | _ => false)
    | _ => false)
  | _ => erAt W 28 0

section
variable {pre w r : List V} {fin : Bool} (H : Wn pre w r fin)
include H
theorem okE_ok {m : Nat} {g : List V} {e : Int} (h : okE m (.lst w fin) g e = true) : EK m (pre ++ (w ++ r)) pre.length g (e + pre.length) := by
  have z : ∀ {f : Nat} {v : V} {j : Int}, elAt (.lst w fin) f 0 = some (v, j) → El f (pre ++ (w ++ r)) pre.length v (j + pre.length) := fun q => by have := el_at H q; rwa [Int.zero_add] at this
  unfold okE at h
  unfold EK
  split at h
  · split at h
    · rename_i a j h1
      split at h
      · rename_i h2
        simp only [Bool.and_eq_true, decide_eq_true_eq] at h
        obtain ⟨⟨⟨rfl, hab⟩, hg⟩, hc⟩ := h
        split at hc
        · rename_i v hv
          rw [veqs_eq hc] at hv
          exact ⟨a, a, hab, hv, hg, .inl ⟨z h1, sg_at H h2, rfl⟩⟩
        · cases hc
      · rename_i h2
        split at h
        · rename_i b j2 h3
          simp only [Bool.and_eq_true, decide_eq_true_eq] at h
          obtain ⟨⟨⟨rfl, hab⟩, hg⟩, hc⟩ := h
          split at hc
          · rename_i v hv
            rw [veqs_eq hc] at hv
            refine ⟨a, b, hab, hv, hg, .inr ⟨_, z h1, sg_at H h2, ?_⟩⟩
            have := el_at H h3
            rwa [Int.add_right_comm] at this
          · cases hc
        · cases h
      · cases h
    · cases h
  · split at h
    · rename_i s j h1
      split at h
      · rename_i h2
        simp only [Bool.and_eq_true, decide_eq_true_eq] at h
        obtain ⟨rfl, hg⟩ := h
        exact ⟨s, isOne_eq hg, .inl ⟨z h1, sg_at H h2⟩⟩
      · rename_i h2
        simp only [Bool.and_eq_true, decide_eq_true_eq] at h
        obtain ⟨⟨hg, hs⟩, hc⟩ := h
        split at hc
        · rename_i j2 h3
          have hc := of_decide_eq_true hc
          subst hc
          refine ⟨s ++ [40, 41], isOne_eq hg, .inr ⟨s, _, rfl, hs, z h1, sg_at H h2, ?_⟩⟩
          have := xp_at H h3
          rwa [Int.add_right_comm] at this
        · cases hc
      · cases h
    · cases h
  · split at h
    · rename_i v j h1
      simp only [Bool.and_eq_true, decide_eq_true_eq] at h
      obtain ⟨rfl, hg⟩ := h
      exact ⟨v, isOne_eq hg, z h1⟩
    · cases h
  · rename_i a1 a2 a3
    split at h
    · rename_i v j h1
      simp only [Bool.and_eq_true, decide_eq_true_eq] at h
      obtain ⟨rfl, hg⟩ := h
      split
      · exact absurd rfl a3
      · exact absurd rfl a1
      · exact absurd rfl a2
      · exact ⟨v, isOne_eq hg, z h1⟩
    · cases h
theorem okB_ok {m : Nat} (h : okB m (.lst w fin) = true) : BK m (pre ++ (w ++ r)) pre.length := by
  have z : ∀ {f : Nat} {v : V} {j : Int}, elAt (.lst w fin) f 0 = some (v, j) → El f (pre ++ (w ++ r)) pre.length v (j + pre.length) := fun q => by have := el_at H q; rwa [Int.zero_add] at this
  have y : ∀ {f : Nat}, erAt (.lst w fin) f 0 = true → Er f (pre ++ (w ++ r)) pre.length := fun q => by have := er_at H q; rwa [Int.zero_add] at this
  unfold okB at h
  unfold BK
  split at h
  · exact y h
  · rw [Bool.or_eq_true] at h
    rcases h with h | h
    · exact .inl (y h)
    · split at h
      · rename_i a j h1
        rw [Bool.and_eq_true] at h
        obtain ⟨ha, hb⟩ := h
        split at ha
        · rename_i b h2
          subst ha
          split at hb
          · rename_i b j2 h3
            have h4 := el_at H h3
            rw [Int.add_right_comm] at h4
            exact .inr ⟨a, b, _, _, of_decide_eq_true hb, z h1, sg_at H h2, h4⟩
          · cases hb
        · cases ha
      · cases h
  · rename_i a1 a2
    split
    · exact absurd rfl a1
    · exact absurd rfl a2
    · exact y h
    · exact y h
end

noncomputable def looksK (m : Nat) : List (List V × Bool) := tls.map (fun t => (t.2, true)) ++ tls.map (fun t => (commaK :: t.2, true)) ++ [([commaK, commaK], false)] ++ (pcs m).map (fun p => (commaK :: p.k.take 1, false))
noncomputable def okPc (m : Nat) (p : Pc) (l : List V × Bool) : Bool := match p.g with
  | some g => okE m (.lst (p.k ++ l.1) l.2) g p.k.length
  | none => okB m (.lst (p.k ++ l.1) l.2)
noncomputable def okForm (m : Nat) : Bool := ((pcs m).all fun p => (looksK m).all fun l => okPc m p l) && ((looksK m).all fun l => okB m (.lst l.1 l.2))
theorem form0 : okForm 0 = true := by decide +kernel
theorem form1 : okForm 1 = true := by decide +kernel
theorem form2 : okForm 2 = true := by decide +kernel
theorem form3 : okForm 3 = true := by decide +kernel
theorem signs : ((tls.all fun t => sgAt (.lst t.2 true) 0 44 == some false && enAt (.lst t.2 true) 0 == some true) && (sgAt (.lst [commaK] false) 0 44 == some true) && (enAt (.lst [commaK] false) 0 == some false) &&
   (pcs0.all fun p => enAt (.lst p.k false) 0 == some false)) = true := by decide +kernel
end Mine

end

section
open PySem PySem.W PyProof.Rows
set_option maxRecDepth 100000
set_option maxHeartbeats 4000000
namespace Mine

noncomputable def sepT (o2 : Bool) : List Nat := if o2 then [44, 44, 32] else [32, 44]
noncomputable def sepK (o2 : Bool) : List V := if o2 then [commaK, commaK] else [commaK]
noncomputable def restT (o2 o1 : Bool) (tl : List Nat) : List Pc → List Nat
  | [] => (if o1 then [44] else []) ++ tl
  | p :: ps => sepT o2 ++ (p.t ++ restT o2 o1 tl ps)
noncomputable def restK (o2 o1 : Bool) (tl : List V) : List Pc → List V
  | [] => (if o1 then [commaK] else []) ++ tl
  | p :: ps => sepK o2 ++ (p.k ++ restK o2 o1 tl ps)

/- the tokens -/
theorem okForm_of {m : Nat} (hm : m < 4) : okForm m = true := by
  match m, hm with
  | 0, _ => exact form0
  | 1, _ => exact form1
  | 2, _ => exact form2
  | 3, _ => exact form3
theorem toks_of {m : Nat} (hm : m < 4) {p : Pc} (hp : p ∈ pcs m) {l : List Nat × Bool} (hl : l ∈ looksT) : okToks p.t l.1 l.2 p.k = true := by
  have : ((pcs m).all fun p => looksT.all fun l => okToks p.t l.1 l.2 p.k) = true := by
    match m, hm with
    | 0, _ => exact pcs_toks0
    | 1, _ => exact pcs_toks1
    | 2, _ => exact pcs_toks2
    | 3, _ => exact pcs_toks3
  exact List.all_eq_true.mp (List.all_eq_true.mp this p hp) l hl
theorem pc_small : ((pcs0 ++ pcs1 ++ pcs2 ++ pcs3).all fun p => decide (p.t.length ≤ 5) && decide (p.k.length ≤ 5) && noRefs p.k && (match p.g with | some g => noRefs g && g.all (okV 5) && decide (g.length ≤ 3) | none => true) && decide (p.k ≠ []) && (match p.t with | c :: _ => decide (c ≠ 32) | [] => false)) = true := by decide +kernel
theorem pcs_all {m : Nat} {p : Pc} (hp : p ∈ pcs m) : p ∈ pcs0 ++ pcs1 ++ pcs2 ++ pcs3 := by
  unfold pcs at hp
  simp only [List.mem_append]
  split at hp
  · exact .inl (.inl (.inl hp))
  · exact .inl (.inl (.inr hp))
  · exact .inl (.inr hp)
  · exact .inr hp
structure PcOk (p : Pc) : Prop where
  t : p.t.length ≤ 5
  k : p.k.length ≤ 5
  n : noRefs p.k = true
  g : ∀ g, p.g = some g → noRefs g = true ∧ g.all (okV 5) = true ∧ g.length ≤ 3
  ne : p.k ≠ []
  c : ∃ c r, p.t = c :: r ∧ okSkip c = true
theorem pc_ok {m : Nat} {p : Pc} (hp : p ∈ pcs m) : PcOk p := by
  have h := List.all_eq_true.mp pc_small p (pcs_all hp)
  have h2 := List.all_eq_true.mp skips p (pcs_all hp)
  simp only [Bool.and_eq_true, decide_eq_true_eq] at h
  obtain ⟨⟨⟨⟨⟨h1, h3⟩, h4⟩, h5⟩, h6⟩, h7⟩ := h
  refine ⟨h1, h3, h4, ?_, h6, ?_⟩
  · intro g hg
    rw [hg] at h5
    simp only [Bool.and_eq_true, decide_eq_true_eq] at h5
    exact ⟨h5.1.1, h5.1.2, h5.2⟩
  · split at h2
    · rename_i c r hc
      exact ⟨c, r, hc, h2⟩
    · cases h2
theorem tls_small : (tls.all fun t => decide (t.1.length ≤ 7) && decide (t.2.length ≤ 2) && noRefs t.2 && (match t.1 with | c :: _ => decide (c = 58) || decide (c = 32) | [] => true)) = true := by decide +kernel
structure TlOk (t : List Nat × List V) : Prop where
  tt : t.1.length ≤ 7
  tk : t.2.length ≤ 2
  tn : noRefs t.2 = true
  tc : t.1 = [] ∨ ∃ r, t.1 = 58 :: r ∨ t.1 = 32 :: r
theorem tl_ok {t : List Nat × List V} (ht : t ∈ tls) : TlOk t := by
  have h := List.all_eq_true.mp tls_small t ht
  simp only [Bool.and_eq_true, decide_eq_true_eq] at h
  obtain ⟨⟨⟨h1, h2⟩, h3⟩, h4⟩ := h
  refine ⟨h1, h2, h3, ?_⟩
  split at h4
  · rename_i c r hc
    rw [Bool.or_eq_true, decide_eq_true_eq, decide_eq_true_eq] at h4
    rcases h4 with rfl | rfl
    · exact .inr ⟨r, .inl hc⟩
    · exact .inr ⟨r, .inr hc⟩
  · rename_i hc; exact .inl hc

theorem restT_len {o2 o1 : Bool} {t : List Nat × List V} (ht : TlOk t) : ∀ {ps : List Pc}, (∀ p ∈ ps, PcOk p) → (restT o2 o1 t.1 ps).length ≤ 8 * ps.length + 8
  | [], _ => by
    have := ht.tt
    unfold restT
    cases o1 <;> simp <;> lia
  | p :: ps, h => by
    have h1 := (h p (.head _)).t
    have h2 := restT_len (o2 := o2) (o1 := o1) ht (fun q hq => h q (.tail _ hq))
    unfold restT sepT
    cases o2 <;> simp <;> lia
theorem restK_len {o2 o1 : Bool} {t : List Nat × List V} (ht : TlOk t) : ∀ {ps : List Pc}, (∀ p ∈ ps, PcOk p) → (restK o2 o1 t.2 ps).length ≤ 7 * ps.length + 3
  | [], _ => by
    have := ht.tk
    unfold restK
    cases o1 <;> simp <;> lia
  | p :: ps, h => by
    have h1 := (h p (.head _)).k
    have h2 := restK_len (o2 := o2) (o1 := o1) ht (fun q hq => h q (.tail _ hq))
    unfold restK sepK
    cases o2 <;> simp <;> lia
theorem noRefs_app : ∀ {a b : List V}, noRefs (a ++ b) = (noRefs a && noRefs b)
  | [], b => by simp [noRefs]
  | x :: a, b => by simp [noRefs, noRefs_app (a := a), Bool.and_assoc]
theorem restK_nr {o2 o1 : Bool} {t : List Nat × List V} (ht : TlOk t) : ∀ {ps : List Pc}, (∀ p ∈ ps, PcOk p) → noRefs (restK o2 o1 t.2 ps) = true
  | [], _ => by
    unfold restK
    rw [noRefs_app, ht.tn]
    cases o1 <;> rfl
  | p :: ps, h => by
    unfold restK
    rw [noRefs_app, noRefs_app, (h p (.head _)).n, restK_nr ht (fun q hq => h q (.tail _ hq))]
    cases o2 <;> rfl

/-- what may stand behind a piece -/
theorem look_T (o2 o1 : Bool) {t : List Nat × List V} (ht : TlOk t) (ps : List Pc) : ∃ l ∈ looksT, ∃ r, restT o2 o1 t.1 ps = l.1 ++ r ∧ (l.2 = true → r = []) := by
  have c44 : ([44], false) ∈ looksT := by simp [looksT]
  have c32 : ([32], false) ∈ looksT := by simp [looksT]
  have c58 : ([58], false) ∈ looksT := by simp [looksT]
  have c0 : (([] : List Nat), true) ∈ looksT := by simp [looksT]
  cases ps with
  | nil =>
    unfold restT
    cases o1 with
    | true => exact ⟨_, c44, t.1, rfl, fun q => nomatch q⟩
    | false =>
      rcases ht.tc with h | ⟨r, h | h⟩
      · rw [h]; exact ⟨_, c0, [], rfl, fun _ => rfl⟩
      · rw [h]; exact ⟨_, c58, r, rfl, fun q => nomatch q⟩
      · rw [h]; exact ⟨_, c32, r, rfl, fun q => nomatch q⟩
  | cons p ps =>
    unfold restT sepT
    cases o2 with
    | true => exact ⟨_, c44, _, rfl, fun q => nomatch q⟩
    | false => exact ⟨_, c32, _, rfl, fun q => nomatch q⟩

theorem tk_piece {m : Nat} (hm : m < 4) {p : Pc} (hp : p ∈ pcs m) {o2 o1 : Bool} {t : List Nat × List V} (ht : TlOk t) (ps : List Pc) (pre : List Nat) (hl : (pre ++ (p.t ++ restT o2 o1 t.1 ps)).length ≤ 5000) :
    Tk (pre ++ (p.t ++ restT o2 o1 t.1 ps)) 6 pre.length p.k ((p.t.length : Int) + pre.length) := by
  obtain ⟨l, hl1, r, hr, hf⟩ := look_T o2 o1 ht ps
  rw [hr, ← List.append_assoc p.t] at hl ⊢
  exact okToks_ok (toks_of hm hp hl1) hl hf

theorem sep1 : okToks [44] [] false [commaK] = true ∧ okToks [32, 44] [] false [commaK] = true ∧ okToks [44, 44] [] false [commaK, commaK] = true := by
  have := seps_toks
  simp only [Bool.and_eq_true] at this
  exact ⟨this.1.1, this.1.2, this.2⟩
theorem skip2 {pre r : List Nat} {c : Nat} (h : okSkip c = true) (hl : (pre ++ (32 :: c :: r)).length ≤ 5000) :
    Sk (pre ++ (32 :: c :: r)) pre.length (pre.length + 1) ∧ Sk (pre ++ (32 :: c :: r)) (pre.length + 1) (pre.length + 1) := by
  unfold okSkip at h
  rw [Bool.and_eq_true, decide_eq_true_eq, decide_eq_true_eq] at h
  constructor
  · have := sk_ok (w := [32, c]) (pre := pre) (r := r) (fin := false) hl (fun q => nomatch q) h.1
    rwa [Int.zero_add, Int.add_comm] at this
  · have := sk_ok (w := [c]) (pre := pre ++ [32]) (r := r) (fin := false) (by simpa using hl) (fun q => nomatch q) h.2
    simpa using this

theorem tk_rest {m : Nat} (hm : m < 4) {o2 o1 : Bool} {t : List Nat × List V} (ht : t ∈ tls) : ∀ (ps : List Pc), (∀ p ∈ ps, p ∈ pcs m) → ∀ (pre : List Nat), (pre ++ restT o2 o1 t.1 ps).length ≤ 5000 →
    Tk (pre ++ restT o2 o1 t.1 ps) (12 * ps.length + 12) pre.length (restK o2 o1 t.2 ps) (pre ++ restT o2 o1 t.1 ps).length
  | [], _, pre, hl => by
    have hT := List.all_eq_true.mp tls_toks t ht
    unfold restT at hl ⊢
    unfold restK
    cases o1 with
    | false =>
      have := okToks_ok (pre := pre) (r := []) hT (by simpa using hl) (fun _ => rfl)
      simp only [List.append_nil, Bool.false_eq_true, if_false, List.nil_append] at this ⊢
      rw [List.length_append, Int.natCast_add, Int.add_comm]
      exact this.more _ (by simp)
    | true =>
      simp only [if_true] at hl ⊢
      have h1 := okToks_ok (pre := pre) (r := t.1) sep1.1 (by simpa using hl) (fun q => nomatch q)
      have h2 := okToks_ok (pre := pre ++ [44]) (r := []) hT (by simpa using hl) (fun _ => rfl)
      simp only [List.append_nil, List.append_assoc] at h1 h2
      have e : ((([44] : List Nat).length : Int) + pre.length) = ((pre ++ [44]).length : Int) := by simp [Int.add_comm]
      rw [e] at h1
      have := h1.append h2
      have e2 : ((t.1.length : Int) + (pre ++ [44]).length) = ((pre ++ ([44] ++ t.1)).length : Int) := by simp; lia
      rw [e2] at this
      exact this.more _ (by simp)
  | p :: ps, hp, pre, hl => by
    have hpp := hp p (.head _)
    have hok := pc_ok hpp
    unfold restT at hl ⊢
    unfold restK
    cases o2 with
    | false =>
      simp only [sepT, sepK, Bool.false_eq_true, if_false] at hl ⊢
      have h1 := okToks_ok (pre := pre) (r := p.t ++ restT false o1 t.1 ps) sep1.2.1 (by simpa using hl) (fun q => nomatch q)
      have h2 := tk_piece hm hpp (tl_ok ht) (o2 := false) (o1 := o1) ps (pre ++ [32, 44]) (by simpa using hl)
      have h3 := tk_rest hm (o2 := false) (o1 := o1) ht ps (fun q hq => hp q (.tail _ hq)) (pre ++ [32, 44] ++ p.t) (by simpa using hl)
      simp only [List.append_nil, List.append_assoc] at h1 h2 h3
      have e : ((([32, 44] : List Nat).length : Int) + pre.length) = ((pre ++ [32, 44]).length : Int) := by simp [Int.add_comm]
      rw [e] at h1
      have e2 : ((p.t.length : Int) + (pre ++ [32, 44]).length) = ((pre ++ ([32, 44] ++ p.t)).length : Int) := by simp; lia
      rw [e2] at h2
      have := h1.append (h2.append h3)
      exact this.more _ (by simp; lia)
    | true =>
      obtain ⟨c, cr, hc, hs⟩ := hok.c
      simp only [sepT, sepK, if_true] at hl ⊢
      have h1 := okToks_ok (pre := pre) (r := [32] ++ (p.t ++ restT true o1 t.1 ps)) sep1.2.2 (by simpa using hl) (fun q => nomatch q)
      have h2 := tk_piece hm hpp (tl_ok ht) (o2 := true) (o1 := o1) ps (pre ++ [44, 44, 32]) (by simpa using hl)
      have h3 := tk_rest hm (o2 := true) (o1 := o1) ht ps (fun q hq => hp q (.tail _ hq)) (pre ++ [44, 44, 32] ++ p.t) (by simpa using hl)
      have h4 := skip2 (pre := pre ++ [44, 44]) (c := c) (r := cr ++ restT true o1 t.1 ps) hs (by simpa [hc] using hl)
      have er : pre ++ [44, 44] ++ 32 :: c :: (cr ++ restT true o1 t.1 ps) = pre ++ ([44, 44, 32] ++ (p.t ++ restT true o1 t.1 ps)) := by rw [hc]; simp
      rw [er] at h4
      have er1 : pre ++ ([44, 44] ++ [] ++ ([32] ++ (p.t ++ restT true o1 t.1 ps))) = pre ++ ([44, 44, 32] ++ (p.t ++ restT true o1 t.1 ps)) := by simp
      rw [er1] at h1
      simp only [List.append_nil, List.append_assoc] at h2 h3
      have e : ((([44, 44] : List Nat).length : Int) + pre.length) = ((pre ++ [44, 44]).length : Int) := by simp [Int.add_comm]
      rw [e] at h1
      have e1 : (((pre ++ [44, 44]).length : Int) + 1) = ((pre ++ [44, 44, 32]).length : Int) := by simp; lia
      rw [e1] at h4
      have e2 : ((p.t.length : Int) + (pre ++ [44, 44, 32]).length) = ((pre ++ ([44, 44, 32] ++ p.t)).length : Int) := by simp; lia
      rw [e2] at h2
      have h5 := (h2.append h3).sk h4.1 h4.2 (fun q => hok.ne (List.append_eq_nil_iff.mp q).1)
      have := h1.append h5
      exact this.more _ (by simp; lia)
end Mine

end

section
open PySem PySem.W PyProof.Rows
set_option maxRecDepth 100000
set_option maxHeartbeats 4000000
namespace Mine

theorem look_K (m : Nat) (o2 o1 : Bool) {t : List Nat × List V} (ht : t ∈ tls) (ps : List Pc) (hp : ∀ p ∈ ps, p ∈ pcs m) : ∃ l ∈ looksK m, ∃ r, restK o2 o1 t.2 ps = l.1 ++ r ∧ (l.2 = true → r = []) := by
  unfold looksK
  cases ps with
  | nil =>
    unfold restK
    cases o1 with
    | true =>
      refine ⟨(commaK :: t.2, true), ?_, [], by simp, fun _ => rfl⟩
      exact List.mem_append_left _ (List.mem_append_left _ (List.mem_append_right _ (List.mem_map.mpr ⟨t, ht, rfl⟩)))
    | false =>
      refine ⟨(t.2, true), ?_, [], by simp, fun _ => rfl⟩
      exact List.mem_append_left _ (List.mem_append_left _ (List.mem_append_left _ (List.mem_map.mpr ⟨t, ht, rfl⟩)))
  | cons p ps =>
    unfold restK sepK
    cases o2 with
    | true =>
      refine ⟨([commaK, commaK], false), ?_, _, rfl, fun q => nomatch q⟩
      exact List.mem_append_left _ (List.mem_append_right _ (.head _))
    | false =>
      refine ⟨(commaK :: p.k.take 1, false), ?_, p.k.drop 1 ++ restK false o1 t.2 ps, ?_, fun q => nomatch q⟩
      · exact List.mem_append_right _ (List.mem_map.mpr ⟨p, hp p (.head _), rfl⟩)
      · rw [List.cons_append, ← List.append_assoc (p.k.take 1), List.take_append_drop]; rfl

theorem ok_pc {m : Nat} (hm : m < 4) {p : Pc} (hp : p ∈ pcs m) {l : List V × Bool} (hl : l ∈ looksK m) : okPc m p l = true := by
  have := okForm_of hm
  unfold okForm at this
  rw [Bool.and_eq_true] at this
  exact List.all_eq_true.mp (List.all_eq_true.mp this.1 p hp) l hl
theorem ok_bad {m : Nat} (hm : m < 4) {l : List V × Bool} (hl : l ∈ looksK m) : okB m (.lst l.1 l.2) = true := by
  have := okForm_of hm
  unfold okForm at this
  rw [Bool.and_eq_true] at this
  exact List.all_eq_true.mp this.2 l hl

section
variable {m : Nat} (hm : m < 4) {o2 o1 : Bool} {t : List Nat × List V} (ht : t ∈ tls)
include hm ht
/-- nothing that is asked stands at the begin of a rest -/
theorem bad_start {ps : List Pc} (hp : ∀ p ∈ ps, p ∈ pcs m) {pre : List V} (hl : (pre ++ restK o2 o1 t.2 ps).length ≤ 5000) (hn : noRefs (pre ++ restK o2 o1 t.2 ps) = true) : BK m (pre ++ restK o2 o1 t.2 ps) pre.length := by
  obtain ⟨l, hl1, r, hr, hf⟩ := look_K m o2 o1 ht ps hp
  rw [hr] at hl hn ⊢
  exact okB_ok ⟨hl, hf, hn⟩ (ok_bad hm hl1)
theorem pc_read {p : Pc} (hpp : p ∈ pcs m) {ps : List Pc} (hp : ∀ p ∈ ps, p ∈ pcs m) {pre : List V} (hl : (pre ++ (p.k ++ restK o2 o1 t.2 ps)).length ≤ 5000) (hn : noRefs (pre ++ (p.k ++ restK o2 o1 t.2 ps)) = true) :
    match p.g with
    | some g => EK m (pre ++ (p.k ++ restK o2 o1 t.2 ps)) pre.length g ((p.k.length : Int) + pre.length)
    | none => BK m (pre ++ (p.k ++ restK o2 o1 t.2 ps)) pre.length := by
  obtain ⟨l, hl1, r, hr, hf⟩ := look_K m o2 o1 ht ps hp
  have := ok_pc hm hpp hl1
  rw [hr, ← List.append_assoc p.k] at hl hn ⊢
  unfold okPc at this
  cases hg : p.g with
  | none => rw [hg] at this; exact okB_ok ⟨hl, hf, hn⟩ this
  | some g => rw [hg] at this; exact okE_ok ⟨hl, hf, hn⟩ this
end

theorem sign_tl {t : List Nat × List V} (ht : t ∈ tls) {pre : List V} (hl : (pre ++ t.2).length ≤ 5000) (hn : noRefs (pre ++ t.2) = true) : Sg (pre ++ t.2) pre.length 44 false ∧ En (pre ++ t.2) pre.length true := by
  have := signs
  simp only [Bool.and_eq_true] at this
  have h := List.all_eq_true.mp this.1.1.1 t ht
  rw [Bool.and_eq_true] at h
  have H : Wn pre t.2 [] true := ⟨by simpa using hl, fun _ => rfl, by simpa using hn⟩
  have h1 := sg_at H (eq_of_beq h.1)
  have h2 := en_at H (eq_of_beq h.2)
  rw [List.append_nil, Int.zero_add] at h1 h2
  exact ⟨h1, h2⟩
theorem sign_comma {pre r : List V} (hl : (pre ++ (commaK :: r)).length ≤ 5000) (hn : noRefs (pre ++ (commaK :: r)) = true) : Sg (pre ++ (commaK :: r)) pre.length 44 true ∧ En (pre ++ (commaK :: r)) pre.length false := by
  have := signs
  simp only [Bool.and_eq_true] at this
  have H : Wn pre [commaK] r false := ⟨hl, (fun q => nomatch q), hn⟩
  have h1 := sg_at H (eq_of_beq this.1.1.2)
  have h2 := en_at H (eq_of_beq this.1.2)
  rw [Int.zero_add] at h1 h2
  exact ⟨h1, h2⟩
theorem en_pc {p : Pc} (hp : p ∈ pcs0) {r : List V} (hl : (p.k ++ r).length ≤ 5000) (hn : noRefs (p.k ++ r) = true) : En (p.k ++ r) 0 false := by
  have := signs
  simp only [Bool.and_eq_true] at this
  have h := List.all_eq_true.mp this.2 p hp
  have H : Wn [] p.k r false := ⟨hl, (fun q => nomatch q), hn⟩
  have h1 := en_at H (eq_of_beq h)
  rw [Int.zero_add, List.nil_append] at h1
  exact h1

/-- what stands behind a right piece gives, or nothing when it is wrong -/
noncomputable def coll (o2 o1 : Bool) : List Pc → Option (List V)
  | [] => if o1 then none else some []
  | p :: ps => if o2 then none else match p.g with
    | none => none
    | some g => (coll o2 o1 ps).map (g ++ ·)
noncomputable def collA (o2 o1 : Bool) (p : Pc) (ps : List Pc) : Option (List V) := match p.g with
    | none => none
    | some g => (coll o2 o1 ps).map (g ++ ·)

section
variable {m : Nat} (hm : m < 4) {o2 o1 : Bool} {t : List Nat × List V} (ht : t ∈ tls)
include hm ht
theorem rk_rest (row : List V) (hl : row.length ≤ 5000) (hn : noRefs row = true) (ps : List Pc) : (∀ p ∈ ps, p ∈ pcs m) → ∀ (pre : List V), row = pre ++ restK o2 o1 t.2 ps →
    Rk (EK m row) (BK m row) row true pre.length (2 * ps.length + 2) ((coll o2 o1 ps).map fun g => (g, (row.length : Int) - t.2.length)) := by
  induction ps with
  | nil =>
    intro hp pre hrow
    unfold restK at hrow
    unfold coll
    cases o1 with
    | true =>
      simp only [if_true] at hrow ⊢
      have hrow : row = pre ++ (commaK :: t.2) := hrow
      rw [hrow] at hl hn ⊢
      refine .more (sign_comma hl hn).1 (.bad ?_)
      have h := bad_start hm ht (o2 := o2) (o1 := false) (ps := []) (fun _ q => nomatch q) (pre := pre ++ [commaK]) (by simpa [restK] using hl) (by simpa [restK] using hn)
      simp only [restK, Bool.false_eq_true, if_false, List.nil_append, List.append_assoc, List.length_append, Int.natCast_add] at h
      exact h
    | false =>
      simp only [Bool.false_eq_true, if_false, List.nil_append] at hrow ⊢
      rw [hrow] at hl hn ⊢
      have e : ((pre.length : Int)) = (((pre ++ t.2).length : Int) - t.2.length) := by simp
      have := Rk.stop (E := EK m (pre ++ t.2)) (B := BK m (pre ++ t.2)) (n := 2 * 0 + 1) (sign_tl ht hl hn).1
      rw [Option.map_some, ← e]
      exact this
  | cons p ps ih =>
    intro hp pre hrow
    rw [show 2 * (p :: ps).length + 2 = (2 * ps.length + 2) + 1 + 1 by simp only [List.length_cons]; lia]
    have hpp := hp p (.head _)
    have hps : ∀ q ∈ ps, q ∈ pcs m := fun q hq => hp q (.tail _ hq)
    unfold restK at hrow
    unfold coll
    cases o2 with
    | true =>
      simp only [sepK, if_true] at hrow ⊢
      have hrow : row = pre ++ (commaK :: commaK :: (p.k ++ restK true o1 t.2 ps)) := hrow
      rw [hrow] at hl hn ⊢
      refine .more (sign_comma hl hn).1 (.bad (n := 2 * ps.length + 2) ?_)
      have H : Wn (pre ++ [commaK]) (commaK :: p.k.take 1) (p.k.drop 1 ++ restK true o1 t.2 ps) false := by
        have e : pre ++ [commaK] ++ (commaK :: p.k.take 1 ++ (p.k.drop 1 ++ restK true o1 t.2 ps)) = pre ++ commaK :: commaK :: (p.k ++ restK true o1 t.2 ps) := by
          rw [List.cons_append, ← List.append_assoc (p.k.take 1), List.take_append_drop]; simp
        exact ⟨by rw [e]; exact hl, (fun q => nomatch q), by rw [e]; exact hn⟩
      have hb := okB_ok H (m := m) (ok_bad hm (l := (commaK :: p.k.take 1, false)) (List.mem_append_right _ (List.mem_map.mpr ⟨p, hpp, rfl⟩)))
      have e : pre ++ [commaK] ++ (commaK :: p.k.take 1 ++ (p.k.drop 1 ++ restK true o1 t.2 ps)) = pre ++ commaK :: commaK :: (p.k ++ restK true o1 t.2 ps) := by
          rw [List.cons_append, ← List.append_assoc (p.k.take 1), List.take_append_drop]; simp
      rw [e, List.length_append, Int.natCast_add] at hb
      exact hb
    | false =>
      simp only [sepK, Bool.false_eq_true, if_false] at hrow ⊢
      have hrow : row = pre ++ (commaK :: (p.k ++ restK false o1 t.2 ps)) := hrow
      have hl' := hl
      have hn' := hn
      rw [hrow] at hl' hn'
      have hs := (sign_comma hl' hn').1
      rw [← hrow] at hs
      have e : pre ++ (commaK :: (p.k ++ restK false o1 t.2 ps)) = (pre ++ [commaK]) ++ (p.k ++ restK false o1 t.2 ps) := by simp
      rw [e] at hl' hn' hrow
      have hr := pc_read hm ht (o2 := false) (o1 := o1) hpp hps hl' hn'
      rw [← hrow] at hr
      have e1 : (((pre ++ [commaK]).length : Int)) = (pre.length : Int) + 1 := by simp
      rw [e1] at hr
      cases hg : p.g with
      | none =>
        rw [hg] at hr
        exact .more hs (.bad (n := 2 * ps.length + 2) hr)
      | some g =>
        rw [hg] at hr
        dsimp only at hr ⊢
        have hrow2 : row = (pre ++ [commaK] ++ p.k) ++ restK false o1 t.2 ps := by rw [hrow]; simp
        have h2 := ih hps (pre ++ [commaK] ++ p.k) hrow2
        have e2 : (((pre ++ [commaK] ++ p.k).length : Int)) = (p.k.length : Int) + (pre.length + 1) := by simp; lia
        rw [e2] at h2
        have := Rk.more hs (Rk.el (E := EK m row) (B := BK m row) hr h2)
        rw [Option.map_map] at this ⊢
        exact this

theorem rk_all {p : Pc} (hpp : p ∈ pcs m) {ps : List Pc} (hps : ∀ p ∈ ps, p ∈ pcs m) {row : List V} (hrow : row = p.k ++ restK o2 o1 t.2 ps) (hl : row.length ≤ 5000) (hn : noRefs row = true) :
    Rk (EK m row) (BK m row) row false 0 (2 * ps.length + 3) ((collA o2 o1 p ps).map fun g => (g, (row.length : Int) - t.2.length)) := by
  have hr := pc_read hm ht (o2 := o2) (o1 := o1) hpp hps (pre := []) (by rw [List.nil_append, ← hrow]; exact hl) (by rw [List.nil_append, ← hrow]; exact hn)
  rw [List.nil_append, ← hrow] at hr
  unfold collA
  cases hg : p.g with
  | none =>
    rw [hg] at hr
    exact .bad hr
  | some g =>
    rw [hg] at hr
    have h2 := rk_rest hm ht row hl hn ps hps p.k hrow
    have := Rk.el (E := EK m row) (B := BK m row) hr (by rw [show ((p.k.length : Int) + ([] : List V).length) = p.k.length from Int.add_zero _]; exact h2)
    rw [Option.map_map] at this ⊢
    exact this
end
theorem coll_nr {o2 o1 : Bool} : ∀ {ps : List Pc}, (∀ p ∈ ps, PcOk p) → ∀ gs, coll o2 o1 ps = some gs → noRefs gs = true ∧ gs.all (okV 5) = true ∧ gs.length ≤ 3 * ps.length
  | [], _, gs, h => by
    unfold coll at h
    split at h
    · cases h
    · cases h; exact ⟨rfl, rfl, Nat.zero_le _⟩
  | p :: ps, hp, gs, h => by
    unfold coll at h
    split at h
    · cases h
    · split at h
      · cases h
      · rename_i g hg
        cases hc : coll o2 o1 ps with
        | none => rw [hc] at h; cases h
        | some gs' =>
          rw [hc] at h
          cases h
          have h1 := coll_nr (fun q hq => hp q (.tail _ hq)) gs' hc
          have h2 := (hp p (.head _)).g g hg
          refine ⟨by rw [noRefs_app, h1.1, h2.1]; rfl, by rw [List.all_append, h1.2.1, h2.2.1]; rfl, ?_⟩
          have := h1.2.2; have := h2.2.2
          simp only [List.length_append, List.length_cons]
          lia
theorem collA_nr {o2 o1 : Bool} {p : Pc} {ps : List Pc} (hpp : PcOk p) (hp : ∀ p ∈ ps, PcOk p) (gs : List V) (h : collA o2 o1 p ps = some gs) : noRefs gs = true ∧ gs.all (okV 5) = true ∧ gs.length ≤ 3 * ps.length + 3 := by
  unfold collA at h
  split at h
  · cases h
  · rename_i g hg
    cases hc : coll o2 o1 ps with
    | none => rw [hc] at h; cases h
    | some gs' =>
      rw [hc] at h
      cases h
      have h1 := coll_nr hp gs' hc
      have h2 := hpp.g g hg
      refine ⟨by rw [noRefs_app, h1.1, h2.1]; rfl, by rw [List.all_append, h1.2.1, h2.2.1]; rfl, ?_⟩
      have := h1.2.2; have := h2.2.2
      simp only [List.length_append]
      lia
end Mine

end

section
open PySem PySem.W PyProof.Rows
set_option maxRecDepth 100000
set_option maxHeartbeats 4000000
namespace Mine

theorem Tk.first {row : List Nat} {n : Nat} {i e x : Int} {ts : List V} (h : Tk row n i ts e) (he : Sk row e x) : ∃ a, Sk row i a := by
  cases h with
  | nil => exact ⟨_, he⟩
  | cons h1 _ _ _ => exact ⟨_, h1⟩

noncomputable def rowT (o2 o1 : Bool) (tl : List Nat) (ps : List Pc) : List Nat := match ps with
  | [] => restT o2 o1 tl []
  | p :: ps => p.t ++ restT o2 o1 tl ps
noncomputable def rowK (o2 o1 : Bool) (tl : List V) (ps : List Pc) : List V := match ps with
  | [] => restK o2 o1 tl []
  | p :: ps => p.k ++ restK o2 o1 tl ps
noncomputable def spec (m : Nat) (o2 o1 : Bool) (ps : List Pc) : Option (List V) := match ps with
  | [] => if o1 then none else if m = 0 then some [] else none
  | p :: ps => collA o2 o1 p ps

section
variable {m : Nat} (hm : m < 4) {o2 o1 : Bool} {t : List Nat × List V} (ht : t ∈ tls) {ps : List Pc} (hp : ∀ p ∈ ps, p ∈ pcs m) (hc : ps.length ≤ 4)
include hm ht hp hc
theorem row_small : (rowT o2 o1 t.1 ps).length ≤ 60 ∧ (rowK o2 o1 t.2 ps).length ≤ 60 ∧ noRefs (rowK o2 o1 t.2 ps) = true := by
  have hok : ∀ p ∈ ps, PcOk p := fun p hq => pc_ok (hp p hq)
  have h2 := tl_ok ht
  unfold rowT rowK
  cases ps with
  | nil =>
    have a := restT_len (o2 := o2) (o1 := o1) h2 (ps := []) hok
    have b := restK_len (o2 := o2) (o1 := o1) h2 (ps := []) hok
    have c := restK_nr (o2 := o2) (o1 := o1) h2 (ps := []) hok
    simp only [List.length_nil] at a b ⊢
    exact ⟨by lia, by lia, c⟩
  | cons p ps =>
    have hok' : ∀ p ∈ ps, PcOk p := fun q hq => hok q (.tail _ hq)
    have a := restT_len (o2 := o2) (o1 := o1) h2 hok'
    have b := restK_len (o2 := o2) (o1 := o1) h2 hok'
    have c := restK_nr (o2 := o2) (o1 := o1) h2 hok'
    have d := hok p (.head _)
    have d1 := d.t
    have d2 := d.k
    simp only [List.length_cons] at hc
    simp only [List.length_append]
    exact ⟨by lia, by lia, by rw [noRefs_app, c, d.n]; rfl⟩
theorem tk_row : Tk (rowT o2 o1 t.1 ps) 60 0 (rowK o2 o1 t.2 ps) (rowT o2 o1 t.1 ps).length := by
  have hs := (row_small hm ht hp hc (o2 := o2) (o1 := o1)).1
  unfold rowT at hs ⊢
  unfold rowK
  cases ps with
  | nil =>
    have := tk_rest hm (o2 := o2) (o1 := o1) ht [] hp [] (by rw [List.nil_append]; simp only at hs; lia)
    rw [List.nil_append] at this
    exact this.more 60 (by decide)
  | cons p ps =>
    simp only at hs ⊢
    have hps : ∀ q ∈ ps, q ∈ pcs m := fun q hq => hp q (.tail _ hq)
    have h1 := tk_piece hm (hp p (.head _)) (o2 := o2) (o1 := o1) (tl_ok ht) ps [] (by rw [List.nil_append]; lia)
    have h2 := tk_rest hm (o2 := o2) (o1 := o1) ht ps hps p.t (by lia)
    rw [List.nil_append] at h1
    have e : ((p.t.length : Int) + ([] : List Nat).length) = p.t.length := Int.add_zero _
    rw [e] at h1
    simp only [List.length_cons] at hc
    exact (h1.append h2).more 60 (by lia)
theorem toks_row (k : Nat) (σ : Mem) : (run theTab (k + 150)).C 13 [.str (rowT o2 o1 t.1 ps)] σ = some (.ok (.lst (rowK o2 o1 t.2 ps)), σ) := by
  have hs := row_small hm ht hp hc (o2 := o2) (o1 := o1)
  have h := tk_row hm ht hp hc (o2 := o2) (o1 := o1)
  have he : Sk (rowT o2 o1 t.1 ps) (rowT o2 o1 t.1 ps).length (rowT o2 o1 t.1 ps).length := by
    have := sk_ok (w := []) (pre := rowT o2 o1 t.1 ps) (r := []) (fin := true) (by simp; lia) (fun _ => rfl) skipEnd
    rw [Int.zero_add, List.append_nil, List.append_nil] at this
    exact this
  obtain ⟨a, ha⟩ := h.first he
  exact tokens_of (i := 0) (by lia) h ha he (by lia) hs.2.2 k σ

theorem spec_small : ∀ gs, spec m o2 o1 ps = some gs → noRefs gs = true ∧ gs.all (okV 5) = true ∧ gs.length ≤ 15 := by
  intro gs h
  unfold spec at h
  cases ps with
  | nil =>
    simp only at h
    split at h
    · cases h
    · split at h
      · cases h; exact ⟨rfl, rfl, by decide⟩
      · cases h
  | cons p ps =>
    have h1 := collA_nr (pc_ok (hp p (.head _))) (fun q hq => pc_ok (hp q (.tail _ hq))) gs h
    simp only [List.length_cons] at hc
    exact ⟨h1.1, h1.2.1, by lia⟩
end

/-- what is due when the list is right -/
noncomputable def dueW (m : Nat) (gs : List V) : V := match m with
  | 0 => .tup [.str [67, 76, 79, 83, 69], .lst gs]
  | 1 => .tup [.str [68, 69, 70, 75, 73, 78, 68], .str [119, 104, 111, 108, 101], .lst gs]
  | 2 => .tup [.str [67, 79, 77, 77, 79, 78], .lst gs]
  | _ => .tup [.str [69, 82, 65, 83, 69], .lst gs]
noncomputable def rdF (m : Nat) : Nat := match m with
  | 0 => 31
  | 1 => 35
  | 2 => 32
  | _ => 33
noncomputable def rdA (m : Nat) (row : List V) : List V := match m with
  | 1 => [.lst row, .int 0, .str [119, 104, 111, 108, 101]]
  | _ => [.lst row, .int 0]

theorem read_row {m : Nat} (hm : m < 4) {o2 o1 : Bool} {t : List Nat × List V} (ht : t ∈ tls) {ps : List Pc} (hp : ∀ p ∈ ps, p ∈ pcs m) (hc : ps.length ≤ 4) :
    Read (rdF m) (rdA m (rowK o2 o1 t.2 ps)) 50 (dueW m) ((spec m o2 o1 ps).map fun g => (g, ((rowK o2 o1 t.2 ps).length : Int) - t.2.length)) := by
  have hs := row_small hm ht hp hc (o2 := o2) (o1 := o1)
  have hn := hs.2.2
  have hl : (rowK o2 o1 t.2 ps).length ≤ 5000 := by lia
  have hno : NR ((spec m o2 o1 ps).map fun g => (g, ((rowK o2 o1 t.2 ps).length : Int) - t.2.length)) := by
    intro gs e h
    cases hx : spec m o2 o1 ps with
    | none => rw [hx] at h; cases h
    | some g => rw [hx] at h; cases h; exact (spec_small hm ht hp hc gs hx).1
  have main : ∀ (x : m = 0 → En (rowK o2 o1 t.2 ps) 0 false) (n : Nat) (hn' : n ≤ 50), Rk (EK m (rowK o2 o1 t.2 ps)) (BK m (rowK o2 o1 t.2 ps)) (rowK o2 o1 t.2 ps) false 0 n ((spec m o2 o1 ps).map fun g => (g, ((rowK o2 o1 t.2 ps).length : Int) - t.2.length)) →
      Read (rdF m) (rdA m (rowK o2 o1 t.2 ps)) 50 (dueW m) ((spec m o2 o1 ps).map fun g => (g, ((rowK o2 o1 t.2 ps).length : Int) - t.2.length)) := by
    intro x n hn' h
    have up : ∀ {f : Nat} {vs : List V} {w : List V → V} {o : Option (List V × Int)}, Read f vs n w o → Read f vs 50 w o := by
      intro f vs w o q
      match o, q with
      | none, q => exact fun k σ => by rw [show k + 50 + 100 = (k + (50 - n)) + n + 100 by lia]; exact q _ _
      | some (gs, e), q => exact fun k σ => by rw [show k + 50 + 100 = (k + (50 - n)) + n + 100 by lia]; exact q _ _
    match m, hm, x, h, hno with
    | 0, _, x, h, hno => exact up (rd_close hn (by lia) hno (x rfl) h)
    | 1, _, x, h, hno => exact up (rd_kinds hn (by lia) hno h)
    | 2, _, x, h, hno => exact up (rd_common hn (by lia) hno h)
    | 3, _, x, h, hno => exact up (rd_erase hn (by lia) hno h)
  cases ps with
  | cons p ps =>
    have hps : ∀ q ∈ ps, q ∈ pcs m := fun q hq => hp q (.tail _ hq)
    simp only [List.length_cons] at hc
    refine main (fun hm0 => ?_) (2 * ps.length + 3) (by lia) (rk_all hm ht (hp p (.head _)) hps rfl hl hn)
    subst hm0
    exact en_pc (hp p (.head _)) hl hn
  | nil =>
    have hb := bad_start hm ht (o2 := o2) (o1 := o1) (ps := []) (fun _ q => nomatch q) (pre := []) (by rw [List.nil_append]; exact hl) (by rw [List.nil_append]; exact hn)
    rw [List.nil_append] at hb
    have hbad : ∀ n, Rk (EK m (rowK o2 o1 t.2 [])) (BK m (rowK o2 o1 t.2 [])) (rowK o2 o1 t.2 []) false 0 (n + 1) none := fun n => .bad hb
    cases o1 with
    | true =>
      refine main (fun hm0 => ?_) 1 (by lia) (hbad 0)
      exact (sign_comma (pre := []) (r := t.2) hl hn).2
    | false =>
      by_cases hm0 : m = 0
      · subst hm0
        have hE : En (rowK o2 false t.2 []) 0 true := (sign_tl ht (pre := []) hl hn).2
        have := rd_close0 hn hE 50
        have e : ((spec 0 o2 false []).map fun g => (g, ((rowK o2 false t.2 []).length : Int) - t.2.length)) = some ([], 0) := by
          have : (((rowK o2 false t.2 []).length : Int) - t.2.length) = 0 := Int.sub_self _
          rw [this]; rfl
        rw [e]
        exact this
      · refine main (fun q => absurd q hm0) 1 (by lia) ?_
        have e : ((spec m o2 false []).map fun g => (g, ((rowK o2 false t.2 []).length : Int) - t.2.length)) = none := by
          unfold spec
          simp only [Bool.false_eq_true, if_false, hm0]
          rfl
        rw [e]
        exact hbad 0

noncomputable def heardV (m : Nat) (o : Option (List V × Int)) : V := match o with
  | none => .str SN
  | some (gs, e) => .tup [dueW m gs, .int e]
theorem opEqI {a b : Int} : opCmp .Eq (.int a) (.int b) = some (a == b) := rfl
theorem tryO_err {c : List Nat} {ρ : Loc} {σ : Mem} : tryO (some (.error c, ρ, σ)) = some (.ok (.ret (.str c)), [], σ) := rfl
theorem tryO_ok {f : Fl} {ρ : Loc} {σ : Mem} : tryO (some (.ok f, ρ, σ)) = some (.ok f, ρ, σ) := rfl
theorem fz_due {m : Nat} {gs : List V} {e : Int} {σ : Mem} (h : noRefs gs = true) : fz σ (.tup [dueW m gs, .int e]) = some (.tup [dueW m gs, .int e]) := by
  unfold dueW
  split <;> simp [fz, fzs, h]
theorem b00 : ((0 : Int) == 0) = true := rfl
theorem b10 : ((1 : Int) == 0) = false := rfl
theorem b20 : ((2 : Int) == 0) = false := rfl
theorem b30 : ((3 : Int) == 0) = false := rfl
theorem b11 : ((1 : Int) == 1) = true := rfl
theorem b21 : ((2 : Int) == 1) = false := rfl
theorem b31 : ((3 : Int) == 1) = false := rfl
theorem b22 : ((2 : Int) == 2) = true := rfl
theorem b32 : ((3 : Int) == 2) = false := rfl

theorem heard_body {m : Nat} (hm : m < 4) {row : List V} {v : Option (List V × Int)} (h : Read (rdF m) (rdA m row) 50 (dueW m) v) (k : Nat) : ∃ ρ',
    (run theTab (k + 199)).Ss b_law_heard [some (.int m), some (.lst row)] [] = some (.ok (.ret (heardV m v)), ρ', []) := by
  unfold b_law_heard
  match v, h with
  | none, h =>
    match m, hm, h with
    | 0, _, h =>
      have q : ∀ k σ, (run theTab (k + 150)).C 31 [.lst row, .int 0] σ = some (.error SN, σ) := h
      refine ⟨[], ?_⟩
      simp only [r_Ssc, r_Ssn, r_asgT, r_asg, r_aug, r_lstM, r_lstF, r_tup, r_call, r_bi, r_bin, r_cmp, r_ite, r_idx, r_chrs, r_Esc, r_Esn, r_var, r_lit, r_Tnot, r_Tcmp, r_Tcall, r_Tvar, r_Tlit, r_ife, r_ret, r_raise, r_expr, r_app, r_ext, opAdd, g0, gS, s0, sS, varO_ok, bO_ok, bO_err, some_map, tru_b, retO_some, tupO, sAn, sAc, List.length_cons, List.length_nil, seqK_next, seqK_ret, ilr, List.nil_append, if_true, if_false, Bool.false_eq_true, Bool.not_true, Bool.not_false, i0, i1, i2, i3, i4, i5, r_try, opEqI, show ((0 : Nat) : Int) = 0 from rfl, b00, q, tryO_err]
      rfl
    | 1, _, h =>
      have q : ∀ k σ, (run theTab (k + 150)).C 35 [.lst row, .int 0, .str [119, 104, 111, 108, 101]] σ = some (.error SN, σ) := h
      refine ⟨[], ?_⟩
      simp only [r_Ssc, r_Ssn, r_asgT, r_asg, r_aug, r_lstM, r_lstF, r_tup, r_call, r_bi, r_bin, r_cmp, r_ite, r_idx, r_chrs, r_Esc, r_Esn, r_var, r_lit, r_Tnot, r_Tcmp, r_Tcall, r_Tvar, r_Tlit, r_ife, r_ret, r_raise, r_expr, r_app, r_ext, opAdd, g0, gS, s0, sS, varO_ok, bO_ok, bO_err, some_map, tru_b, retO_some, tupO, sAn, sAc, List.length_cons, List.length_nil, seqK_next, seqK_ret, ilr, List.nil_append, if_true, if_false, Bool.false_eq_true, Bool.not_true, Bool.not_false, i0, i1, i2, i3, i4, i5, r_try, opEqI, show ((1 : Nat) : Int) = 1 from rfl, b10, b11, q, tryO_err]
      rfl
    | 2, _, h =>
      have q : ∀ k σ, (run theTab (k + 150)).C 32 [.lst row, .int 0] σ = some (.error SN, σ) := h
      refine ⟨[], ?_⟩
      simp only [r_Ssc, r_Ssn, r_asgT, r_asg, r_aug, r_lstM, r_lstF, r_tup, r_call, r_bi, r_bin, r_cmp, r_ite, r_idx, r_chrs, r_Esc, r_Esn, r_var, r_lit, r_Tnot, r_Tcmp, r_Tcall, r_Tvar, r_Tlit, r_ife, r_ret, r_raise, r_expr, r_app, r_ext, opAdd, g0, gS, s0, sS, varO_ok, bO_ok, bO_err, some_map, tru_b, retO_some, tupO, sAn, sAc, List.length_cons, List.length_nil, seqK_next, seqK_ret, ilr, List.nil_append, if_true, if_false, Bool.false_eq_true, Bool.not_true, Bool.not_false, i0, i1, i2, i3, i4, i5, r_try, opEqI, show ((2 : Nat) : Int) = 2 from rfl, b20, b21, b22, q, tryO_err]
      rfl
    | 3, _, h =>
      have q : ∀ k σ, (run theTab (k + 150)).C 33 [.lst row, .int 0] σ = some (.error SN, σ) := h
      refine ⟨[], ?_⟩
      simp only [r_Ssc, r_Ssn, r_asgT, r_asg, r_aug, r_lstM, r_lstF, r_tup, r_call, r_bi, r_bin, r_cmp, r_ite, r_idx, r_chrs, r_Esc, r_Esn, r_var, r_lit, r_Tnot, r_Tcmp, r_Tcall, r_Tvar, r_Tlit, r_ife, r_ret, r_raise, r_expr, r_app, r_ext, opAdd, g0, gS, s0, sS, varO_ok, bO_ok, bO_err, some_map, tru_b, retO_some, tupO, sAn, sAc, List.length_cons, List.length_nil, seqK_next, seqK_ret, ilr, List.nil_append, if_true, if_false, Bool.false_eq_true, Bool.not_true, Bool.not_false, i0, i1, i2, i3, i4, i5, r_try, opEqI, show ((3 : Nat) : Int) = 3 from rfl, b30, b31, b32, q, tryO_err]
      rfl
  | some (gs, e), h =>
    match m, hm, h with
    | 0, _, h =>
      have q : ∀ k σ, (run theTab (k + 150)).C 31 [.lst row, .int 0] σ = some (.ok (.tup [dueW 0 gs, .int e]), σ) := h
      refine ⟨[some (.int 0), some (.lst row)], ?_⟩
      simp only [r_Ssc, r_Ssn, r_asgT, r_asg, r_aug, r_lstM, r_lstF, r_tup, r_call, r_bi, r_bin, r_cmp, r_ite, r_idx, r_chrs, r_Esc, r_Esn, r_var, r_lit, r_Tnot, r_Tcmp, r_Tcall, r_Tvar, r_Tlit, r_ife, r_ret, r_raise, r_expr, r_app, r_ext, opAdd, g0, gS, s0, sS, varO_ok, bO_ok, bO_err, some_map, tru_b, retO_some, tupO, sAn, sAc, List.length_cons, List.length_nil, seqK_next, seqK_ret, ilr, List.nil_append, if_true, if_false, Bool.false_eq_true, Bool.not_true, Bool.not_false, i0, i1, i2, i3, i4, i5, r_try, opEqI, show ((0 : Nat) : Int) = 0 from rfl, b00, q, tryO_ok]
      rfl
    | 1, _, h =>
      have q : ∀ k σ, (run theTab (k + 150)).C 35 [.lst row, .int 0, .str [119, 104, 111, 108, 101]] σ = some (.ok (.tup [dueW 1 gs, .int e]), σ) := h
      refine ⟨[some (.int 1), some (.lst row)], ?_⟩
      simp only [r_Ssc, r_Ssn, r_asgT, r_asg, r_aug, r_lstM, r_lstF, r_tup, r_call, r_bi, r_bin, r_cmp, r_ite, r_idx, r_chrs, r_Esc, r_Esn, r_var, r_lit, r_Tnot, r_Tcmp, r_Tcall, r_Tvar, r_Tlit, r_ife, r_ret, r_raise, r_expr, r_app, r_ext, opAdd, g0, gS, s0, sS, varO_ok, bO_ok, bO_err, some_map, tru_b, retO_some, tupO, sAn, sAc, List.length_cons, List.length_nil, seqK_next, seqK_ret, ilr, List.nil_append, if_true, if_false, Bool.false_eq_true, Bool.not_true, Bool.not_false, i0, i1, i2, i3, i4, i5, r_try, opEqI, show ((1 : Nat) : Int) = 1 from rfl, b10, b11, q, tryO_ok]
      rfl
    | 2, _, h =>
      have q : ∀ k σ, (run theTab (k + 150)).C 32 [.lst row, .int 0] σ = some (.ok (.tup [dueW 2 gs, .int e]), σ) := h
      refine ⟨[some (.int 2), some (.lst row)], ?_⟩
      simp only [r_Ssc, r_Ssn, r_asgT, r_asg, r_aug, r_lstM, r_lstF, r_tup, r_call, r_bi, r_bin, r_cmp, r_ite, r_idx, r_chrs, r_Esc, r_Esn, r_var, r_lit, r_Tnot, r_Tcmp, r_Tcall, r_Tvar, r_Tlit, r_ife, r_ret, r_raise, r_expr, r_app, r_ext, opAdd, g0, gS, s0, sS, varO_ok, bO_ok, bO_err, some_map, tru_b, retO_some, tupO, sAn, sAc, List.length_cons, List.length_nil, seqK_next, seqK_ret, ilr, List.nil_append, if_true, if_false, Bool.false_eq_true, Bool.not_true, Bool.not_false, i0, i1, i2, i3, i4, i5, r_try, opEqI, show ((2 : Nat) : Int) = 2 from rfl, b20, b21, b22, q, tryO_ok]
      rfl
    | 3, _, h =>
      have q : ∀ k σ, (run theTab (k + 150)).C 33 [.lst row, .int 0] σ = some (.ok (.tup [dueW 3 gs, .int e]), σ) := h
      refine ⟨[some (.int 3), some (.lst row)], ?_⟩
      simp only [r_Ssc, r_Ssn, r_asgT, r_asg, r_aug, r_lstM, r_lstF, r_tup, r_call, r_bi, r_bin, r_cmp, r_ite, r_idx, r_chrs, r_Esc, r_Esn, r_var, r_lit, r_Tnot, r_Tcmp, r_Tcall, r_Tvar, r_Tlit, r_ife, r_ret, r_raise, r_expr, r_app, r_ext, opAdd, g0, gS, s0, sS, varO_ok, bO_ok, bO_err, some_map, tru_b, retO_some, tupO, sAn, sAc, List.length_cons, List.length_nil, seqK_next, seqK_ret, ilr, List.nil_append, if_true, if_false, Bool.false_eq_true, Bool.not_true, Bool.not_false, i0, i1, i2, i3, i4, i5, r_try, opEqI, show ((3 : Nat) : Int) = 3 from rfl, b30, b31, b32, q, tryO_ok]
      rfl
theorem heard {m : Nat} (hm : m < 4) {row : List V} (hr : noRefs row = true) {v : Option (List V × Int)} (hv : NR v) (h : Read (rdF m) (rdA m row) 50 (dueW m) v) (k : Nat) (σ : Mem) :
    (run theTab (k + 200)).C 39 [.int m, .lst row] σ = some (.ok (heardV m v), σ) := by
  obtain ⟨ρ', e⟩ := heard_body hm h k
  refine rC_pure (T := theTab) (n := k + 199) (fd := ⟨Str.ofString "_law_heard", 2, [Str.ofString "form", Str.ofString "tokens"], b_law_heard⟩) rfl rfl (by simp [noRefs, noRef, hr]) e ?_
  match v, hv with
  | none, _ => rfl
  | some (gs, e), hv => exact fz_due (hv _ _ rfl)
end Mine

end

section
open PySem PySem.W PyProof.Rows
set_option maxRecDepth 100000
set_option maxHeartbeats 4000000
namespace Mine

theorem r_augJ {T : Tab} {n : Nat} {ρ : Loc} {σ : Mem} {i : Nat} {k : Int} : (run T (n + 1)).S (.augJ i k) ρ σ = augJO i k ρ σ := rfl
theorem augJO_ok {c : V} {n k : Int} {ρ : Loc} : augJO 0 k (some (.ref 0) :: ρ) [.jug c n] = some (.ok .next, some (.ref 0) :: ρ, [.jug c (n + k)]) := rfl
theorem idxCount {c : V} {n : Int} : idxV (.ref 0) (.str [99, 111, 117, 110, 116]) [.jug c n] = some (.int n) := rfl
theorem idxCells {c : V} {n : Int} : idxV (.ref 0) (.str [99, 101, 108, 108, 115]) [.jug c n] = some c := rfl
theorem lenL {s : List V} {σ : Mem} (h : s.length ≤ 100000) : biAll 0 [.lst s] σ = some (.int s.length) := by
  have : biV 0 [.lst s] = some (.int s.length) := if_pos h
  unfold biAll
  rw [this]; rfl
theorem opLeI {a b : Int} : opCmp .LtE (.int a) (.int b) = some (decide (a ≤ b)) := rfl
theorem absI {i : Int} {σ : Mem} : biAll 3 [.int i] σ = some (.int (if i < 0 then -i else i)) := rfl
theorem opMod {a b : Int} {σ : Mem} (h : b ≠ 0) : opBin .Mod (deref σ (.int a)) (deref σ (.int b)) = some (.int (a.fmod b)) := if_pos h
theorem opMul {a b : Int} {σ : Mem} (h : small a = true) (h' : small b = true) : opBin .Mult (deref σ (.int a)) (deref σ (.int b)) = some (.int (a * b)) := if_pos (by rw [h, h']; rfl)
theorem opDiv {a b : Int} {σ : Mem} (h : small a = true) (h' : small b = true) (hb : (b != 0) = true) : opBin .FloorDiv (deref σ (.int a)) (deref σ (.int b)) = some (.int (a.fdiv b)) := if_pos (by rw [h, h', hb]; rfl)
theorem idxL {l : List V} {i : Int} {σ : Mem} {v : V} (h0 : 0 ≤ i) (h1 : i < 1000000) (h : l[i.toNat]? = some v) : idxV (.lst l) (.int i) σ = some v := by
  show atList l i = _
  unfold atList
  rw [if_pos h0, if_pos h1, h]

/-- the cells hold ints -/
noncomputable def Ints (cs : List V) : Prop := (∀ v ∈ cs, ∃ i, v = .int i) ∧ cs.length ≤ 40
theorem law_next {cs : List V} (hc : Ints cs) {n : Int} (h0 : 0 ≤ n) (h1 : n < 10000) {m : Int} (hm : 0 < m) : ∃ v, 0 ≤ v ∧ v < m ∧ ∀ k, (run theTab (k + 30)).C 36 [.ref 0, .int m] [.jug (.lst cs) n] = some (.ok (.int v), [.jug (.lst cs) (n + 1)]) := by
  have hl : cs.length ≤ 100000 := by have := hc.2; lia
  have hmz : m ≠ 0 := by lia
  have key : ∀ v : Int, (∀ k, ∃ ρ', (run theTab (k + 29)).Ss b_law_next [some (.ref 0), some (.int m), none] [.jug (.lst cs) n] = some (.ok (.ret (.int v)), ρ', [.jug (.lst cs) (n + 1)])) →
      ∀ k, (run theTab (k + 30)).C 36 [.ref 0, .int m] [.jug (.lst cs) n] = some (.ok (.int v), [.jug (.lst cs) (n + 1)]) := by
    intro v h k
    obtain ⟨ρ', h⟩ := h k
    have hr : noRefs [.ref 0, .int m] = false := by simp only [noRefs, noRef, Bool.false_and]
    have hf : theTab.FT[36]? = some ⟨Str.ofString "_law_next", 2, [Str.ofString "jug", Str.ofString "many", Str.ofString "turn"], b_law_next⟩ := rfl
    exact rC_ref (T := theTab) (n := k + 29) hf rfl hr h
  by_cases hn : n + 1 ≤ (cs.length : Int)
  · obtain ⟨i, hi⟩ : ∃ i, cs[(n + 1 - 1).toNat]? = some (.int i) := by
      have hlt : (n + 1 - 1).toNat < cs.length := by lia
      obtain ⟨i, hi⟩ := hc.1 _ (List.getElem_mem hlt)
      exact ⟨i, by rw [List.getElem?_eq_getElem hlt, hi]⟩
    refine ⟨(if i < 0 then -i else i).fmod m, Int.fmod_nonneg_of_pos _ hm, Int.fmod_lt_of_pos _ hm, key _ fun k => ?_⟩
    refine ⟨[some (.ref 0), some (.int m), some (.int (n + 1))], ?_⟩
    unfold b_law_next
    simp only [r_Ssc, r_Ssn, r_asgT, r_asg, r_aug, r_lstM, r_lstF, r_tup, r_call, r_bi, r_bin, r_cmp, r_ite, r_idx, r_chrs, r_Esc, r_Esn, r_var, r_lit, r_Tnot, r_Tcmp, r_Tcall, r_Tvar, r_Tlit, r_ife, r_ret, r_raise, r_expr, r_app, r_ext, opAdd, g0, gS, s0, sS, varO_ok, bO_ok, bO_err, some_map, tru_b, retO_some, tupO, sAn, sAc, List.length_cons, List.length_nil, seqK_next, seqK_ret, ilr, List.nil_append, if_true, if_false, Bool.false_eq_true, Bool.not_true, Bool.not_false, i0, i1, i2, i3, i4, i5, r_augJ, augJO_ok, idxCount, idxCells, lenL hl, opLeI, hn, decide_true, opSub, idxL (show 0 ≤ n + 1 - 1 by lia) (show n + 1 - 1 < 1000000 by lia) hi, absI, opMod hmz]
  · refine ⟨(3 * (n + 1) + (n + 1).fdiv 4 + 2).fmod m, Int.fmod_nonneg_of_pos _ hm, Int.fmod_lt_of_pos _ hm, key _ fun k => ?_⟩
    refine ⟨[some (.ref 0), some (.int m), some (.int (n + 1))], ?_⟩
    have hs : small (n + 1) = true := by unfold small; rw [Bool.and_eq_true, decide_eq_true_eq, decide_eq_true_eq]; lia
    unfold b_law_next
    simp only [r_Ssc, r_Ssn, r_asgT, r_asg, r_aug, r_lstM, r_lstF, r_tup, r_call, r_bi, r_bin, r_cmp, r_ite, r_idx, r_chrs, r_Esc, r_Esn, r_var, r_lit, r_Tnot, r_Tcmp, r_Tcall, r_Tvar, r_Tlit, r_ife, r_ret, r_raise, r_expr, r_app, r_ext, opAdd, g0, gS, s0, sS, varO_ok, bO_ok, bO_err, some_map, tru_b, retO_some, tupO, sAn, sAc, List.length_cons, List.length_nil, seqK_next, seqK_ret, ilr, List.nil_append, if_true, if_false, Bool.false_eq_true, Bool.not_true, Bool.not_false, i0, i1, i2, i3, i4, i5, r_augJ, augJO_ok, idxCount, idxCells, lenL hl, opLeI, hn, decide_false, opMul (show small 3 = true from rfl) hs, opDiv hs (show small 4 = true from rfl) rfl, opMod hmz]

noncomputable def pcV (p : Pc) : V := .tup [.str p.t, match p.g with | some g => .lst g | none => .none]
noncomputable def okPcs (m : Nat) : Bool := match (run theTab 30).C 37 [.int m] [] with
  | some (.ok v, []) => veq v (.lst ((pcs m).map pcV))
  | _ => false
theorem pieces_all : (okPcs 0 && okPcs 1 && okPcs 2 && okPcs 3) = true := by decide +kernel
theorem pieces {m : Nat} (hm : m < 4) (k : Nat) (σ : Mem) : (run theTab (k + 30)).C 37 [.int m] σ = some (.ok (.lst ((pcs m).map pcV)), σ) := by
  have : okPcs m = true := by
    have h := pieces_all
    simp only [Bool.and_eq_true] at h
    match m, hm with
    | 0, _ => exact h.1.1.1
    | 1, _ => exact h.1.1.2
    | 2, _ => exact h.1.2
    | 3, _ => exact h.2
  unfold okPcs at this
  split at this
  · rename_i v hv
    rw [veq_eq this] at hv
    exact rC_any rfl ((run_le theTab (show 30 ≤ k + 30 by lia)).C _ _ _ _ hv)
  · cases this
theorem pcs_len {m : Nat} : (pcs m).length = 8 := by
  unfold pcs; split <;> rfl
end Mine

end

section
open PySem PySem.W PyProof.Rows
set_option maxRecDepth 100000
set_option maxHeartbeats 4000000
namespace Mine

section
variable {T : Tab} {n : Nat} {ρ : Loc} {σ : Mem}
noncomputable def andK (T : Tab) (n : Nat) (r : List ME) : V → Loc → Mem → Out V := fun v ρ σ => match truthyV v with
      | some true => (run T n).E (.andL r) ρ σ
      | some false => some (.ok v, ρ, σ)
      | none => none
theorem andK_b {r : List ME} {b : Bool} : andK T n r (.bool b) ρ σ = if b then (run T n).E (.andL r) ρ σ else some (.ok (.bool false), ρ, σ) := by cases b <;> rfl
theorem r_and1 (e : ME) : (run T (n + 1)).E (.andL [e]) ρ σ = (run T n).E e ρ σ := rfl
theorem r_and2 (e e2 : ME) (r : List ME) : (run T (n + 1)).E (.andL (e :: e2 :: r)) ρ σ = bindO ((run T n).E e ρ σ) (andK T n (e2 :: r)) := rfl
noncomputable def orK (T : Tab) (n : Nat) (r : List ME) : V → Loc → Mem → Out V := fun v ρ σ => match truthyV v with
      | some false => (run T n).E (.orL r) ρ σ
      | some true => some (.ok v, ρ, σ)
      | none => none
theorem orK_b {r : List ME} {b : Bool} : orK T n r (.bool b) ρ σ = if b then some (.ok (.bool true), ρ, σ) else (run T n).E (.orL r) ρ σ := by cases b <;> rfl
theorem r_or1 (e : ME) : (run T (n + 1)).E (.orL [e]) ρ σ = (run T n).E e ρ σ := rfl
theorem r_or2 (e e2 : ME) (r : List ME) : (run T (n + 1)).E (.orL (e :: e2 :: r)) ρ σ = bindO ((run T n).E e ρ σ) (orK T n (e2 :: r)) := rfl
theorem r_Tand0 : (run T (n + 1)).T (.andL []) ρ σ = some (.ok true, ρ, σ) := rfl
theorem r_Tand (e : ME) (r : List ME) : (run T (n + 1)).T (.andL (e :: r)) ρ σ = bindO ((run T n).T e ρ σ) fun b ρ σ => if b then (run T n).T (.andL r) ρ σ else some (.ok false, ρ, σ) := rfl
theorem r_Tor0 : (run T (n + 1)).T (.orL []) ρ σ = some (.ok false, ρ, σ) := rfl
theorem r_Tor (e : ME) (r : List ME) : (run T (n + 1)).T (.orL (e :: r)) ρ σ = bindO ((run T n).T e ρ σ) fun b ρ σ => if b then some (.ok true, ρ, σ) else (run T n).T (.orL r) ρ σ := rfl
noncomputable def forK (T : Tab) (n i : Nat) (b : List MS) : V → Loc → Mem → Out Fl := fun v ρ σ => match v with
    | .int k => if 0 ≤ k ∧ k ≤ 1000 then forO ((run T n).Ss b) i ((List.range' 0 k.toNat).map Int.ofNat) ρ σ else none
    | _ => none
theorem r_for (i : Nat) (e : ME) (b : List MS) : (run T (n + 1)).S (.forR i e b) ρ σ = bindO ((run T n).E e ρ σ) (forK T n i b) := rfl
theorem forK_ok {i : Nat} {b : List MS} {k : Int} (h : 0 ≤ k ∧ k ≤ 1000) : forK T n i b (.int k) ρ σ = forO ((run T n).Ss b) i ((List.range' 0 k.toNat).map Int.ofNat) ρ σ := if_pos h
noncomputable def forG (g : Loc → Mem → Out Fl) (i : Nat) (r : List Int) : Fl → Loc → Mem → Out Fl := fun f ρ σ => match f with
    | .next => forO g i r ρ σ
    | .ret v => some (.ok (.ret v), ρ, σ)
theorem for_cons {g : Loc → Mem → Out Fl} {i : Nat} {k : Int} {r : List Int} : forO g i (k :: r) ρ σ = bindO (g (ρ.set i (some (.int k))) σ) (forG g i r) := rfl
theorem forG_next {g : Loc → Mem → Out Fl} {i : Nat} {r : List Int} : forG g i r .next ρ σ = forO g i r ρ σ := rfl
theorem opAddL {s t : List V} {σ : Mem} (h : s.length ≤ 1000) (ht : t.length ≤ 1000) : opBin .Add (deref σ (.lst s)) (deref σ (.lst t)) = some (.lst (s ++ t)) := by
  show (if s.length + t.length ≤ 100000 then some (V.lst (s ++ t)) else none) = _
  rw [if_pos (by lia)]
theorem isNotL {l : List V} : opCmp .IsNot (.lst l) .none = some true := rfl
theorem isNotN : opCmp .IsNot .none .none = some false := rfl
theorem opNeI {a b : Int} : opCmp .NotEq (.int a) (.int b) = some (!(a == b)) := rfl
end

noncomputable def gV (p : Pc) : V := match p.g with | some g => .lst g | none => .none
theorem pcV_eq (p : Pc) : pcV p = .tup [.str p.t, gV p] := rfl
noncomputable def sepS (o2 fst : Bool) : List Nat := if fst then [] else sepT o2
noncomputable def llB : List MS := [.asgT [8, 9] (.idx (.call 37 [(.var 1)]) (.call 36 [(.var 0), (.lit (.int 8))])), .asg 3 (.bin .Add (.bin .Add (.var 3) (.ite (.cmp .Eq (.var 2) (.lit (.int 0))) (.lit (.str [])) (.ite (.cmp .Eq (.var 7) (.lit (.int 2))) (.lit (.str [44, 44, 32])) (.lit (.str [32, 44]))))) (.var 8)), .asg 5 (.andL [(.var 5), (.cmp .IsNot (.var 9) (.lit .none)), (.orL [(.cmp .NotEq (.var 7) (.lit (.int 2))), (.cmp .Eq (.var 2) (.lit (.int 0)))])]), .asg 4 (.bin .Add (.var 4) (.ite (.cmp .IsNot (.var 9) (.lit .none)) (.var 9) (.lstF [])))]
noncomputable def llR (m : Nat) (s : Option V) (tx : List Nat) (f : List V) (b : Bool) (mn : Option V) (od : Int) (x y : Option V) : Loc := [some (.ref 0), some (.int m), s, some (.str tx), some (.lst f), some (.bool b), mn, some (.int od), x, y]

theorem ll_body {m : Nat} (hm : m < 4) {cs : List V} (hc : Ints cs) {n : Int} (h0 : 0 ≤ n) (h1 : n < 10000) (s od : Int) (tx : List Nat) (f : List V) (b : Bool) (mn x y : Option V) (htx : tx.length ≤ 900) (hf : f.length ≤ 900) :
    ∃ p ∈ pcs m, ∀ k, (run theTab (k + 60)).Ss llB (llR m (some (.int s)) tx f b mn od x y) [.jug (.lst cs) n] =
      some (.ok .next, llR m (some (.int s)) (tx ++ sepS (od == 2) (s == 0) ++ p.t) (f ++ p.g.getD []) (b && (p.g.isSome && (!(od == 2) || (s == 0)))) mn od (some (.str p.t)) (some (gV p)), [.jug (.lst cs) (n + 1)]) := by
  obtain ⟨v, v0, v8, hv⟩ := law_next hc h0 h1 (m := 8) (by decide)
  have hlt : v.toNat < (pcs m).length := by rw [pcs_len]; lia
  refine ⟨(pcs m)[v.toNat], List.getElem_mem hlt, fun k => ?_⟩
  have hi : ((pcs m).map pcV)[v.toNat]? = some (pcV (pcs m)[v.toNat]) := by rw [List.getElem?_map, List.getElem?_eq_getElem hlt]; rfl
  generalize hp : (pcs m)[v.toNat] = p at hi
  have hok : PcOk p := by rw [← hp]; exact pc_ok (List.getElem_mem hlt)
  rw [pcV_eq] at hi
  have hpt : p.t.length ≤ 1000 := by have := hok.t; lia
  have htx2 : ∀ z : List Nat, z.length ≤ 3 → (tx ++ z).length ≤ 1000 := fun z hz => by rw [List.length_append]; lia
  have hpc := fun k σ => pieces hm k σ
  unfold llB llR
  rw [r_Ssc]
  simp only [r_asgT, r_idx, r_call, r_Esc, r_Esn, r_var, r_lit, g0, gS, s0, sS, varO_ok, bO_ok, hpc, hv, some_map, idxL v0 (show v < 1000000 by lia) hi, retO_some, tupO, sAn, sAc, List.length_cons, List.length_nil, seqK_next]
  rw [r_Ssc]
  have e1 : ∀ (k : Nat) (σ : Mem) (a0 a1 a3 a4 a5 a6 : Option V) (l : Loc), (fun ρ : Loc => (run theTab (k + 10)).E (.ite (.cmp .Eq (.var 2) (.lit (.int 0))) (.lit (.str [])) (.ite (.cmp .Eq (.var 7) (.lit (.int 2))) (.lit (.str [44, 44, 32])) (.lit (.str [32, 44])))) ρ σ = some (.ok (.str (sepS (od == 2) (s == 0))), ρ, σ)) (a0 :: a1 :: some (.int s) :: a3 :: a4 :: a5 :: a6 :: some (.int od) :: l) := by
    intro k σ a0 a1 a3 a4 a5 a6 l
    show (run theTab (k + 10)).E _ _ σ = _
    simp only [r_ite, r_Tcmp, r_var, g0, gS, varO_ok, bO_ok, r_lit, opEqI, retO_some]
    cases hs : s == 0 with
    | true => rfl
    | false =>
      simp only [Bool.false_eq_true, if_false, r_ite, r_Tcmp, r_var, g0, gS, varO_ok, bO_ok, r_lit, opEqI, retO_some]
      cases ho : od == 2 <;> rfl
  simp only [r_asg, r_bin, r_var, g0, gS, s0, sS, varO_ok, bO_ok, e1, opAddS (show tx.length ≤ 1000 by lia) (show (sepS (od == 2) (s == 0)).length ≤ 1000 by unfold sepS sepT; split <;> (try split) <;> decide), retO_some]
  rw [opAddS (htx2 _ (by unfold sepS sepT; split <;> (try split) <;> decide)) hpt]
  simp only [bO_ok, retO_some, s0, sS, seqK_next]
  rw [r_Ssc]
  have e2 : ∀ (k : Nat) (σ : Mem) (a0 a1 a3 a4 a6 a8 : Option V), (fun ρ : Loc =>
      (run theTab (k + 10)).E (.andL [(.var 5), (.cmp .IsNot (.var 9) (.lit .none)), (.orL [(.cmp .NotEq (.var 7) (.lit (.int 2))), (.cmp .Eq (.var 2) (.lit (.int 0)))])]) ρ σ = some (.ok (.bool (b && (p.g.isSome && (!(od == 2) || (s == 0))))), ρ, σ)) [a0, a1, some (.int s), a3, a4, some (.bool b), a6, some (.int od), a8, some (gV p)] := by
    intro k σ a0 a1 a3 a4 a6 a8
    show (run theTab (k + 10)).E _ _ σ = _
    simp only [r_and2, r_and1, r_or1, r_or2, r_cmp, r_var, r_lit, g0, gS, varO_ok, bO_ok, andK_b]
    cases b with
    | false => rfl
    | true =>
      unfold gV
      cases p.g with
      | none => rfl
      | some g =>
        cases ho : od == 2 with
        | true =>
          simp only [if_true, isNotL, some_map, retO_some, bO_ok, andK_b, r_and2, r_and1, r_or1, r_or2, r_cmp, r_var, r_lit, g0, gS, varO_ok, opNeI, opEqI, orK_b, ho, Bool.not_true, Bool.false_eq_true, if_false]
          rfl
        | false =>
          simp only [if_true, isNotL, some_map, retO_some, bO_ok, andK_b, r_and2, r_and1, r_or1, r_or2, r_cmp, r_var, r_lit, g0, gS, varO_ok, opNeI, opEqI, orK_b, ho, Bool.not_false]
          rfl
  simp only [r_asg, e2, bO_ok, s0, sS, seqK_next]
  rw [r_Ssc]
  have e3 : ∀ (k : Nat) (σ : Mem) (a0 a1 a2 a3 a5 a6 a7 a8 : Option V), (fun ρ : Loc =>
      (run theTab (k + 10)).E (.bin .Add (.var 4) (.ite (.cmp .IsNot (.var 9) (.lit .none)) (.var 9) (.lstF []))) ρ σ = some (.ok (.lst (f ++ p.g.getD [])), ρ, σ)) [a0, a1, a2, a3, some (.lst f), a5, a6, a7, a8, some (gV p)] := by
    intro k σ a0 a1 a2 a3 a5 a6 a7 a8
    show (run theTab (k + 10)).E _ _ σ = _
    simp only [r_bin, r_var, g0, gS, varO_ok, bO_ok, r_ite, r_Tcmp, r_lit]
    cases hg : p.g with
    | none =>
      have : gV p = .none := by unfold gV; rw [hg]
      rw [this]
      simp only [isNotN, retO_some, bO_ok, Bool.false_eq_true, if_false, r_lstF, r_Esn, List.length_nil, i0, opAddL (show f.length ≤ 1000 by lia) (show ([] : List V).length ≤ 1000 by decide)]
      rfl
    | some g =>
      have : gV p = .lst g := by unfold gV; rw [hg]
      have hg3 := (hok.g g hg).2.2
      rw [this]
      simp only [isNotL, retO_some, bO_ok, if_true, r_var, g0, gS, varO_ok, opAddL (show f.length ≤ 1000 by lia) (show g.length ≤ 1000 by lia)]
      rfl
  simp only [r_asg, e3, bO_ok, s0, sS, seqK_next, r_Ssn]
section
variable {T : Tab} {n : Nat} {ρ ρ1 ρ2 : Loc} {σ σ1 σ2 : Mem}
theorem b_seq {s : MS} {r : List MS} (h : (run T n).S s ρ σ = some (.ok .next, ρ1, σ1)) : (run T (n + 1)).Ss (s :: r) ρ σ = (run T n).Ss r ρ1 σ1 := by rw [r_Ssc, h]; rfl
theorem e_var {i : Nat} {v : V} (h : ρ[i]? = some (some v)) : (run T (n + 1)).E (.var i) ρ σ = some (.ok v, ρ, σ) := by rw [r_var, h]; rfl
theorem s_asg {i : Nat} {e : ME} {v : V} (h : (run T n).E e ρ σ = some (.ok v, ρ1, σ1)) : (run T (n + 1)).S (.asg i e) ρ σ = some (.ok .next, ρ1.set i (some v), σ1) := by rw [r_asg, h]; rfl
theorem s_asgT {l : List Nat} {e : ME} {vs : List V} (h : (run T n).E e ρ σ = some (.ok (.tup vs), ρ1, σ1)) (hl : vs.length = l.length) : (run T (n + 1)).S (.asgT l e) ρ σ = some (.ok .next, setAll l vs ρ1, σ1) := by
  rw [r_asgT, h]; exact tupO vs l ρ1 σ1 hl
theorem s_ife {t : ME} {x y : List MS} {b : Bool} {o : Out Fl} (h : (run T n).T t ρ σ = some (.ok b, ρ1, σ1)) (h2 : (run T n).Ss (if b then x else y) ρ1 σ1 = o) : (run T (n + 1)).S (.ife t x y) ρ σ = o := by
  rw [r_ife, h, ← h2]; cases b <;> rfl
theorem e_call {f : Nat} {l : List ME} {vs : List V} {r : Except (List Nat) V} (h : (run T n).Es l ρ σ = some (.ok vs, ρ1, σ1)) (hc : (run T n).C f vs σ1 = some (r, σ2)) : (run T (n + 1)).E (.call f l) ρ σ = some (r, ρ1, σ2) := by
  rw [r_call, h]
  show ((run T n).C f vs σ1).map _ = _
  rw [hc]; rfl
theorem e_idx {e i : ME} {u v r : V} (h : (run T n).E e ρ σ = some (.ok u, ρ1, σ1)) (h2 : (run T n).E i ρ1 σ1 = some (.ok v, ρ2, σ2)) (hx : idxV u v σ2 = some r) : (run T (n + 1)).E (.idx e i) ρ σ = some (.ok r, ρ2, σ2) := by
  rw [r_idx, h]
  show bindO ((run T n).E i ρ1 σ1) _ = _
  rw [h2]
  show retO ρ2 σ2 (idxV u v σ2) = _
  rw [hx]; rfl
theorem e_bin {o : Operator} {e i : ME} {u v r : V} (h : (run T n).E e ρ σ = some (.ok u, ρ1, σ1)) (h2 : (run T n).E i ρ1 σ1 = some (.ok v, ρ2, σ2)) (hx : opBin o (deref σ2 u) (deref σ2 v) = some r) : (run T (n + 1)).E (.bin o e i) ρ σ = some (.ok r, ρ2, σ2) := by
  rw [r_bin, h]
  show bindO ((run T n).E i ρ1 σ1) _ = _
  rw [h2]
  show retO ρ2 σ2 (opBin o (deref σ2 u) (deref σ2 v)) = _
  rw [hx]; rfl
theorem t_cmp {o : CmpOp} {e i : ME} {u v : V} {r : Bool} (h : (run T n).E e ρ σ = some (.ok u, ρ1, σ1)) (h2 : (run T n).E i ρ1 σ1 = some (.ok v, ρ2, σ2)) (hx : opCmp o u v = some r) : (run T (n + 1)).T (.cmp o e i) ρ σ = some (.ok r, ρ2, σ2) := by
  rw [r_Tcmp, h]
  show bindO ((run T n).E i ρ1 σ1) _ = _
  rw [h2]
  show retO ρ2 σ2 (opCmp o u v) = _
  rw [hx]; rfl
theorem es_c {e : ME} {r : List ME} {v : V} {vs : List V} (h : (run T n).E e ρ σ = some (.ok v, ρ1, σ1)) (h2 : (run T n).Es r ρ1 σ1 = some (.ok vs, ρ2, σ2)) : (run T (n + 1)).Es (e :: r) ρ σ = some (.ok (v :: vs), ρ2, σ2) := by
  rw [r_Esc, h]
  show bindO ((run T n).Es r ρ1 σ1) _ = _
  rw [h2]; rfl
theorem e_tup {l : List ME} {vs : List V} (h : (run T n).Es l ρ σ = some (.ok vs, ρ1, σ1)) (hz : vs.length ≤ 1000) : (run T (n + 1)).E (.tup l) ρ σ = some (.ok (.tup vs), ρ1, σ1) := by
  rw [r_tup, h]; exact if_pos hz
theorem e_ite {t a b : ME} {c : Bool} {v : V} (h : (run T n).T t ρ σ = some (.ok c, ρ, σ)) (h2 : (run T n).E (if c then a else b) ρ σ = some (.ok v, ρ, σ)) : (run T (n + 1)).E (.ite t a b) ρ σ = some (.ok v, ρ, σ) := by
  rw [r_ite, h, ← h2]; cases c <;> rfl
theorem e_bi {b : Nat} {l : List ME} {vs : List V} {r : V} (h : (run T n).Es l ρ σ = some (.ok vs, ρ1, σ1)) (hx : biAll b vs σ1 = some r) : (run T (n + 1)).E (.bi b l) ρ σ = some (.ok r, ρ1, σ1) := by
  rw [r_bi, h]
  show retO ρ1 σ1 (biAll b vs σ1) = _
  rw [hx]; rfl
theorem s_for {i : Nat} {e : ME} {b : List MS} {k : Int} {o : Out Fl} (h : (run T n).E e ρ σ = some (.ok (.int k), ρ1, σ1)) (hk : 0 ≤ k ∧ k ≤ 1000) (h2 : forO ((run T n).Ss b) i ((List.range' 0 k.toNat).map Int.ofNat) ρ1 σ1 = o) : (run T (n + 1)).S (.forR i e b) ρ σ = o := by
  rw [r_for, h, ← h2]; exact forK_ok hk
theorem s_ret {e : ME} {v : V} (h : (run T n).E e ρ σ = some (.ok v, ρ1, σ1)) : (run T (n + 1)).S (.ret e) ρ σ = some (.ok (.ret v), ρ1, σ1) := by rw [r_ret, h]; rfl
theorem b_ret {s : MS} {r : List MS} {v : V} (h : (run T n).S s ρ σ = some (.ok (.ret v), ρ1, σ1)) : (run T (n + 1)).Ss (s :: r) ρ σ = some (.ok (.ret v), ρ1, σ1) := by rw [r_Ssc, h]; rfl
theorem t_var {i : Nat} {b : Bool} (h : ρ[i]? = some (some (.bool b))) : (run T (n + 2)).T (.var i) ρ σ = some (.ok b, ρ, σ) := by rw [r_Tvar, e_var h]; rfl
theorem t_and2 {a b : ME} {c d : Bool} (h1 : (run T (n + 2)).T a ρ σ = some (.ok c, ρ, σ)) (h2 : (run T (n + 1)).T b ρ σ = some (.ok d, ρ, σ)) : (run T (n + 3)).T (.andL [a, b]) ρ σ = some (.ok (c && d), ρ, σ) := by
  rw [r_Tand, h1]
  cases c with
  | false => rfl
  | true =>
    show (run T (n + 2)).T (.andL [b]) ρ σ = _
    rw [r_Tand, h2]
    cases d <;> rfl
theorem t_or2 {a b : ME} {c d : Bool} (h1 : (run T (n + 2)).T a ρ σ = some (.ok c, ρ, σ)) (h2 : (run T (n + 1)).T b ρ σ = some (.ok d, ρ, σ)) : (run T (n + 3)).T (.orL [a, b]) ρ σ = some (.ok (c || d), ρ, σ) := by
  rw [r_Tor, h1]
  cases c with
  | true => rfl
  | false =>
    show (run T (n + 2)).T (.orL [b]) ρ σ = _
    rw [r_Tor, h2]
    cases d <;> rfl
end

end Mine

end

section
open PySem PySem.W PyProof.Rows
set_option maxRecDepth 100000
set_option maxHeartbeats 4000000
namespace Mine

noncomputable def moreT (o2 : Bool) : Bool → List Pc → List Nat
  | _, [] => []
  | fst, q :: qs => sepS o2 fst ++ q.t ++ moreT o2 false qs
noncomputable def moreF : List Pc → List V
  | [] => []
  | q :: qs => q.g.getD [] ++ moreF qs
noncomputable def moreR (o2 : Bool) : Bool → List Pc → Bool
  | _, [] => true
  | fst, q :: qs => (q.g.isSome && (!o2 || fst)) && moreR o2 false qs

theorem ll_loop {m : Nat} (hm : m < 4) {cs : List V} (hc : Ints cs) (od : Int) (mn : Option V) : ∀ (j s : Nat) (n : Int) (tx : List Nat) (f : List V) (b : Bool) (x2 x y : Option V), 0 ≤ n → n + j < 10000 → tx.length + 9 * j ≤ 900 → f.length + 9 * j ≤ 900 →
    ∃ qs, (∀ q ∈ qs, q ∈ pcs m) ∧ qs.length = j ∧ ∀ k, ∃ x2' x' y', forO ((run theTab (k + 60)).Ss llB) 2 ((List.range' s j).map Int.ofNat) (llR m x2 tx f b mn od x y) [.jug (.lst cs) n] =
      some (.ok .next, llR m x2' (tx ++ moreT (od == 2) ((s : Int) == 0) qs) (f ++ moreF qs) (b && moreR (od == 2) ((s : Int) == 0) qs) mn od x' y', [.jug (.lst cs) (n + j)])
  | 0, s, n, tx, f, b, x2, x, y, h0, h1, h2, h3 => by
    refine ⟨[], fun _ q => (nomatch q), rfl, fun k => ⟨x2, x, y, ?_⟩⟩
    show some _ = _
    simp only [moreT, moreF, moreR, List.append_nil, Bool.and_true]
    rw [show n + ((0 : Nat) : Int) = n from Int.add_zero n]
  | j + 1, s, n, tx, f, b, x2, x, y, h0, h1, h2, h3 => by
    obtain ⟨p, hp, hb⟩ := ll_body hm hc h0 (by lia) (s : Int) od tx f b mn x y (by lia) (by lia)
    have hok := pc_ok hp
    have hpt := hok.t
    have hsl : (sepS (od == 2) ((s : Int) == 0)).length ≤ 3 := by unfold sepS sepT; split <;> (try split) <;> decide
    have hgl : (p.g.getD []).length ≤ 3 := by
      cases hg : p.g with
      | none => exact Nat.zero_le _
      | some g => exact (hok.g g hg).2.2
    obtain ⟨qs, hq, hj, hl⟩ := ll_loop hm hc od mn j (s + 1) (n + 1) (tx ++ sepS (od == 2) ((s : Int) == 0) ++ p.t) (f ++ p.g.getD []) (b && (p.g.isSome && (!(od == 2) || ((s : Int) == 0)))) (some (.int s)) (some (.str p.t)) (some (gV p))
      (by lia) (by lia) (by simp only [List.length_append]; lia) (by simp only [List.length_append]; lia)
    refine ⟨p :: qs, fun q hq' => ?_, by rw [List.length_cons, hj], fun k => ?_⟩
    · cases hq' with
      | head => exact hp
      | tail _ h => exact hq q h
    · obtain ⟨x2', x', y', hl⟩ := hl k
      refine ⟨x2', x', y', ?_⟩
      rw [List.range'_succ, List.map_cons, for_cons]
      have e : (llR m x2 tx f b mn od x y).set 2 (some (.int (Int.ofNat s))) = llR m (some (.int s)) tx f b mn od x y := rfl
      rw [e, hb k, bO_ok, forG_next, hl]
      have hz : (((s + 1 : Nat) : Int) == 0) = false := by
        rw [beq_eq_false_iff_ne]; lia
      rw [hz]
      simp only [moreT, moreF, moreR, List.append_assoc, Bool.and_assoc]
      rw [show n + 1 + (j : Int) = n + ((j + 1 : Nat) : Int) by lia]

theorem moreT_rest (o2 o1 : Bool) : ∀ qs : List Pc, moreT o2 false qs ++ (if o1 then [44] else []) = restT o2 o1 [] qs
  | [] => by unfold moreT restT; simp
  | q :: qs => by
    unfold moreT restT
    rw [← moreT_rest o2 o1 qs]
    unfold sepS
    simp only [Bool.false_eq_true, if_false, List.append_assoc]
theorem moreT_row (o2 o1 : Bool) (qs : List Pc) : moreT o2 true qs ++ (if o1 then [44] else []) = rowT o2 o1 [] qs := by
  unfold rowT
  cases qs with
  | nil => unfold moreT restT; simp
  | cons q qs =>
    unfold moreT
    dsimp only
    rw [← moreT_rest o2 o1 qs]
    unfold sepS
    simp only [if_true, List.nil_append, List.append_assoc]
theorem coll_eq (o2 o1 : Bool) : ∀ qs : List Pc, coll o2 o1 qs = if moreR o2 false qs && !o1 then some (moreF qs) else none
  | [] => by unfold coll moreR moreF; cases o1 <;> rfl
  | q :: qs => by
    unfold coll moreR moreF
    cases o2 with
    | true => cases q.g <;> rfl
    | false =>
      cases q.g with
      | none => rfl
      | some g =>
        rw [coll_eq false o1 qs]
        simp only [Bool.false_eq_true, if_false, Option.isSome_some, Bool.not_false, Bool.true_or, Bool.and_true, Bool.true_and, Option.getD_some]
        cases moreR false false qs && !o1 <;> rfl
noncomputable def specV (o : Option (List V)) : V := match o with
  | none => .none
  | some gs => .lst gs
theorem spec_eq (m : Nat) (o2 o1 : Bool) (qs : List Pc) : specV (spec m o2 o1 qs) = if (moreR o2 true qs && !o1) && (decide (0 < (qs.length : Int)) || decide (m = 0)) then .lst (moreF qs) else .none := by
  unfold spec
  cases qs with
  | nil =>
    unfold moreR moreF
    cases o1 with
    | true => rfl
    | false =>
      by_cases hm : m = 0
      · subst hm; rfl
      · simp [hm, specV]
  | cons q qs =>
    dsimp only
    unfold collA moreR moreF
    have h : (0 < ((q :: qs).length : Int)) := by rw [List.length_cons]; lia
    simp only [h, decide_true, Bool.true_or, Bool.and_true, Bool.or_true]
    rw [coll_eq o2 o1 qs]
    cases q.g with
    | none => rfl
    | some g =>
      simp only [Option.isSome_some, Bool.true_and, Option.getD_some]
      cases moreR o2 false qs && !o1 <;> rfl

theorem beq_natInt (m : Nat) : ((m : Int) == 0) = decide (m = 0) := by
  by_cases h : m = 0
  · subst h; rfl
  · rw [decide_eq_false h, beq_eq_false_iff_ne]; lia

noncomputable def liI : MS := .ife (.cmp .Eq (.var 7) (.lit (.int 1))) [.asgT [3, 5] (.tup [(.bin .Add (.var 3) (.lit (.str [44]))), (.lit (.bool false))])] []
noncomputable def liR : MS := .ret (.tup [(.var 3), (.ite (.andL [(.var 5), (.orL [(.cmp .Gt (.var 6) (.lit (.int 0))), (.cmp .Eq (.var 1) (.lit (.int 0)))])]) (.var 4) (.lit .none))])
section
variable {cs : List V} {m : Nat} {σ : Mem} {T : List Nat} {fs : List V} {R : Bool} {mn od : Int} {a2 a8 a9 : Option V} {k : Nat}
theorem li_ret : (run theTab (k + 75)).Ss [liR] (llR m a2 T fs R (some (.int mn)) od a8 a9) σ =
    some (.ok (.ret (.tup [.str T, if (R && (decide (0 < mn) || ((m : Int) == 0))) = true then .lst fs else .none])), llR m a2 T fs R (some (.int mn)) od a8 a9, σ) := by
  refine b_ret (s_ret (e_tup (es_c (e_var rfl) (es_c (e_ite (t_and2 (t_var rfl) (t_or2 (t_cmp (e_var rfl) (r_lit _) opGtI) (t_cmp (e_var rfl) (r_lit _) opEqI))) ?_) rfl)) (Nat.le_of_ble_eq_true rfl)))
  cases (R && (decide (0 < mn) || ((m : Int) == 0)) : Bool) <;> rfl
theorem li_if {c : Bool} (hc : (od == 1) = c) (hT : T.length ≤ 1000) : (run theTab (k + 75)).S liI (llR m a2 T fs R (some (.int mn)) od a8 a9) σ =
    some (.ok .next, llR m a2 (T ++ if c = true then [44] else []) fs (R && !c) (some (.int mn)) od a8 a9, σ) := by
  cases c with
  | true =>
    refine s_ife (b := true) (t_cmp (e_var rfl) (r_lit _) (opEqI.trans (congrArg some hc))) ?_
    refine (b_seq (s_asgT (e_tup (es_c (e_bin (e_var rfl) (r_lit _) (opAddS hT (show [44].length ≤ 1000 by decide))) (es_c (r_lit _) rfl)) (Nat.le_of_ble_eq_true rfl)) rfl)).trans ?_
    rw [Bool.not_true, Bool.and_false]; rfl
  | false =>
    refine s_ife (b := false) (t_cmp (e_var rfl) (r_lit _) (opEqI.trans (congrArg some hc))) ?_
    rw [Bool.not_false, Bool.and_true, show (if false = true then [44] else ([] : List Nat)) = [] from rfl, List.append_nil]; rfl
theorem li_eval {n n2 : Int} {a2' a8' a9' : Option V} (hmn : ∀ k, (run theTab (k + 30)).C 36 [.ref 0, .int 5] [.jug (.lst cs) n] = some (.ok (.int mn), [.jug (.lst cs) (n + 1)])) (hod : ∀ k, (run theTab (k + 30)).C 36 [.ref 0, .int 6] [.jug (.lst cs) (n + 1)] = some (.ok (.int od), [.jug (.lst cs) (n + 1 + 1)]))
    (hk : 0 ≤ mn ∧ mn ≤ 1000) (hl : forO ((run theTab (k + 15 + 60)).Ss llB) 2 ((List.range' 0 mn.toNat).map Int.ofNat) (llR m none [] [] true (some (.int mn)) od none none) [.jug (.lst cs) (n + 1 + 1)] = some (.ok .next, llR m a2' T fs R (some (.int mn)) od a8' a9', [.jug (.lst cs) n2]))
    {c : Bool} (hc : (od == 1) = c) (hT : T.length ≤ 1000) :
    (run theTab (k + 79)).Ss b_law_list [some (.ref 0), some (.int m), none, none, none, none, none, none, none, none] [.jug (.lst cs) n] =
      some (.ok (.ret (.tup [.str (T ++ if c = true then [44] else []), if ((R && !c) && (decide (0 < mn) || ((m : Int) == 0))) = true then .lst fs else .none])), llR m a2' (T ++ if c = true then [44] else []) fs (R && !c) (some (.int mn)) od a8' a9', [.jug (.lst cs) n2]) :=
  (b_seq (s_asgT rfl rfl)).trans ((b_seq (s_asgT (e_tup (es_c (e_call rfl (hmn _)) (es_c (e_call rfl (hod _)) rfl)) (Nat.le_of_ble_eq_true rfl)) rfl)).trans ((b_seq (s_for (e_var rfl) hk hl)).trans ((b_seq (li_if hc hT)).trans li_ret)))
end

theorem law_list {m : Nat} (hm : m < 4) {cs : List V} (hc : Ints cs) {n : Int} (h0 : 0 ≤ n) (h1 : n < 9000) :
    ∃ qs o2 o1, (∀ q ∈ qs, q ∈ pcs m) ∧ qs.length ≤ 4 ∧ ∃ n', n ≤ n' ∧ n' ≤ n + 6 ∧ ∀ k, (run theTab (k + 80)).C 38 [.ref 0, .int m] [.jug (.lst cs) n] = some (.ok (.tup [.str (rowT o2 o1 [] qs), specV (spec m o2 o1 qs)]), [.jug (.lst cs) n']) := by
  obtain ⟨mn, m0, m5, hmn⟩ := law_next hc h0 (by lia) (m := 5) (by decide)
  obtain ⟨od, d0, d6, hod⟩ := law_next hc (show 0 ≤ n + 1 by lia) (by lia) (m := 6) (by decide)
  obtain ⟨qs, hq, hj, hl⟩ := ll_loop hm hc od (some (.int mn)) mn.toNat 0 (n + 1 + 1) [] [] true none none none (by lia) (by lia) (by rw [List.length_nil]; lia) (by rw [List.length_nil]; lia)
  have h4 : qs.length ≤ 4 := by lia
  have hlen : mn = (qs.length : Int) := by lia
  have eT := moreT_row (od == 2) (od == 1) qs
  have eS := spec_eq m (od == 2) (od == 1) qs
  have h9 := (row_small hm (t := ([], [])) (.head _) hq h4 (o2 := (od == 2)) (o1 := (od == 1))).1
  have hTl : (moreT (od == 2) true qs).length ≤ 1000 := by
    rw [← eT, List.length_append] at h9
    lia
  refine ⟨qs, od == 2, od == 1, hq, h4, n + 1 + 1 + (mn.toNat : Int), by lia, by lia, fun k => ?_⟩
  obtain ⟨x2', x', y', hl⟩ := hl (k + 15)
  have hb := li_eval (k := k) (m := m) hmn hod ⟨m0, by lia⟩ hl rfl hTl
  rw [eS, ← eT]
  have hf : theTab.FT[38]? = some ⟨Str.ofString "_law_list", 2, [Str.ofString "jug", Str.ofString "form", Str.ofString "spot", Str.ofString "text", Str.ofString "found", Str.ofString "is_right", Str.ofString "many", Str.ofString "odd", Str.ofString "told", Str.ofString "gives"], b_law_list⟩ := rfl
  have hr : noRefs [.ref 0, .int m] = false := rfl
  have e0 : ((m : Int) == 0) = decide (m = 0) := beq_natInt m
  rw [e0, hlen] at hb
  rw [hlen]
  exact rC_ref (T := theTab) (n := k + 79) hf rfl hr hb
end Mine

end

section
open PySem PySem.W PyProof.Rows
set_option maxRecDepth 100000
set_option maxHeartbeats 4000000
namespace Mine

mutual
theorem veq_refl : ∀ (n : Nat) (v : V), okV n v = true → veq v v = true
  | _, .none, _ => by simp [veq]
  | _, .int i, _ => by simp [veq]
  | _, .str s, _ => by simp [veq]
  | n + 1, .tup l, h => by
    simp only [veq]
    exact veqs_refl n l (by simpa [okV] using h)
  | n + 1, .lst l, h => by
    simp only [veq]
    exact veqs_refl n l (by simpa [okV] using h)
  | 0, .tup l, h => by simp [okV] at h
  | 0, .lst l, h => by simp [okV] at h
  | n, .bool _, h => by simp [okV] at h
  | n, .ref _, h => by simp [okV] at h
  | n, .lvl .., h => by simp [okV] at h
  | n, .tab _, h => by simp [okV] at h
theorem veqs_refl : ∀ (n : Nat) (l : List V), (∀ v ∈ l, okV n v = true) → veqs l l = true
  | _, [], _ => by simp [veqs]
  | n, v :: r, h => by
    simp only [veqs, Bool.and_eq_true]
    exact ⟨veq_refl n v (h v (.head _)), veqs_refl n r (fun x hx => h x (.tail _ hx))⟩
end

noncomputable def dueV (m : Nat) (e : Int) (o : Option (List V)) : V := match o with
  | none => .str SN
  | some gs => .tup [dueW m gs, .int e]
theorem heard_due (m : Nat) (e : Int) (o : Option (List V)) : heardV m (o.map fun g => (g, e)) = dueV m e o := by cases o <;> rfl
theorem due_ok {m : Nat} {e : Int} {gs : List V} (h : gs.all (okV 5) = true) : okV 8 (.tup [dueW m gs, .int e]) = true := by
  have h2 : okV 6 (.lst gs) = true := h
  unfold dueW
  split <;> simp only [okV, List.all_cons, List.all_nil, h, Bool.and_true, Bool.true_and] <;> decide
theorem due_ne {m : Nat} {e : Int} {o : Option (List V)} (h : ∀ gs, o = some gs → gs.all (okV 5) = true) : opCmp .NotEq (dueV m e o) (dueV m e o) = some false := by
  show (veqT (dueV m e o) (dueV m e o)).map (!·) = _
  cases o with
  | none => rfl
  | some gs =>
    have h1 := due_ok (m := m) (e := e) (h gs rfl)
    have h2 := veq_refl 8 _ h1
    show (veqT (.tup [dueW m gs, .int e]) (.tup [dueW m gs, .int e])).map (!·) = _
    show (if (okV 8 (.tup [dueW m gs, .int e]) && okV 8 (.tup [dueW m gs, .int e])) = true then some (veq (.tup [dueW m gs, .int e]) (.tup [dueW m gs, .int e])) else none).map (!·) = _
    rw [h1, h2]; rfl

theorem rest_app (o2 o1 : Bool) (tl : List Nat) : ∀ qs : List Pc, restT o2 o1 tl qs = restT o2 o1 [] qs ++ tl
  | [] => by unfold restT; simp
  | q :: qs => by unfold restT; rw [rest_app o2 o1 tl qs]; simp
theorem row_app (o2 o1 : Bool) (tl : List Nat) (qs : List Pc) : rowT o2 o1 tl qs = rowT o2 o1 [] qs ++ tl := by
  unfold rowT
  cases qs with
  | nil => exact rest_app o2 o1 tl []
  | cons q qs => dsimp only; rw [rest_app o2 o1 tl qs, List.append_assoc]
theorem restK_app (o2 o1 : Bool) (tl : List V) : ∀ qs : List Pc, restK o2 o1 tl qs = restK o2 o1 [] qs ++ tl
  | [] => by unfold restK; simp
  | q :: qs => by unfold restK; rw [restK_app o2 o1 tl qs]; simp
theorem rowK_app (o2 o1 : Bool) (tl : List V) (qs : List Pc) : rowK o2 o1 tl qs = rowK o2 o1 [] qs ++ tl := by
  unfold rowK
  cases qs with
  | nil => exact restK_app o2 o1 tl []
  | cons q qs => dsimp only; rw [restK_app o2 o1 tl qs, List.append_assoc]

noncomputable def tailL : List V := [.str [], .str [58, 80, 82, 73, 78, 84], .str [32, 69, 76, 83, 69, 32, 55], .str [32, 82, 69, 77, 32, 120], .str [32, 39, 121]]
theorem tails_get {v : Int} (h0 : 0 ≤ v) (h5 : v < 5) : ∃ t ∈ tls, tailL[v.toNat]? = some (.str t.1) := by
  have h : v.toNat < 5 := by lia
  generalize v.toNat = j at h
  have e : tailL = tls.map (fun t => V.str t.1) := rfl
  have hl : j < tls.length := h
  exact ⟨tls[j], List.getElem_mem hl, by rw [e, List.getElem?_map, List.getElem?_eq_getElem hl]; rfl⟩
noncomputable def wordL : List V := [.str [67, 76, 79, 83, 69], .str [68, 69, 70, 75, 73, 78, 68], .str [67, 79, 77, 77, 79, 78], .str [69, 82, 65, 83, 69]]
theorem due_word {m : Nat} (hm : m < 4) (gs : List V) : ∃ w, wordL[m]? = some w ∧ dueW m gs = if ((m : Int) == 1) then .tup [.str [68, 69, 70, 75, 73, 78, 68], .str [119, 104, 111, 108, 101], .lst gs] else .tup [w, .lst gs] := by
  match m, hm with
  | 0, _ => exact ⟨_, rfl, rfl⟩
  | 1, _ => exact ⟨_, rfl, rfl⟩
  | 2, _ => exact ⟨_, rfl, rfl⟩
  | 3, _ => exact ⟨_, rfl, rfl⟩

noncomputable def lwI : MS := .ife (.cmp .IsNot (.var 7) (.lit .none)) [.asg 8 (.idx (.lstF [(.lit (.str [67, 76, 79, 83, 69])), (.lit (.str [68, 69, 70, 75, 73, 78, 68])), (.lit (.str [67, 79, 77, 77, 79, 78])), (.lit (.str [69, 82, 65, 83, 69]))]) (.var 3)), .asg 5 (.tup [(.ite (.cmp .Eq (.var 3) (.lit (.int 1))) (.tup [(.lit (.str [68, 69, 70, 75, 73, 78, 68])), (.lit (.str [119, 104, 111, 108, 101])), (.var 7)]) (.tup [(.var 8), (.var 7)])), (.bi 0 [(.call 13 [(.var 6)])])])] []
noncomputable def lwF : MS := .ife (.cmp .NotEq (.call 39 [(.var 3), (.call 13 [(.bin .Add (.var 6) (.var 4))])]) (.var 5)) [.ret (.lit (.bool false))] []
noncomputable def lwB : List MS := [.asg 3 (.call 36 [(.var 1), (.lit (.int 4))]), .asgT [6, 7] (.call 38 [(.var 1), (.var 3)]), .asg 4 (.idx (.lstF [(.lit (.str [])), (.lit (.str [58, 80, 82, 73, 78, 84])), (.lit (.str [32, 69, 76, 83, 69, 32, 55])), (.lit (.str [32, 82, 69, 77, 32, 120])), (.lit (.str [32, 39, 121]))]) (.call 36 [(.var 1), (.lit (.int 5))])), .asg 5 (.lit (.str [83, 78])), lwI, lwF]

section
variable {cs : List V} {m : Nat} {σ : Mem} {sc x2 x4 y8 : Option V} {xt : List Nat} {k : Nat}
theorem turn_none : (run theTab (k + 245)).S lwI [sc, some (.ref 0), x2, some (.int m), x4, some (.str [83, 78]), some (.str xt), some .none, y8] σ =
    some (.ok .next, [sc, some (.ref 0), x2, some (.int m), x4, some (.str [83, 78]), some (.str xt), some .none, y8], σ) := s_ife (b := false) (t_cmp (e_var rfl) (r_lit _) rfl) rfl
theorem turn_some {gs row : List V} {w : V} (hix : idxV (.lst wordL) (.int m) σ = some w) (tk : ∀ k, (run theTab (k + 150)).C 13 [.str xt] σ = some (.ok (.lst row), σ)) (hl : row.length ≤ 100000)
    (hdw : dueW m gs = if ((m : Int) == 1) then .tup [.str [68, 69, 70, 75, 73, 78, 68], .str [119, 104, 111, 108, 101], .lst gs] else .tup [w, .lst gs]) :
    (run theTab (k + 245)).S lwI [sc, some (.ref 0), x2, some (.int m), x4, some (.str [83, 78]), some (.str xt), some (.lst gs), y8] σ =
      some (.ok .next, [sc, some (.ref 0), x2, some (.int m), x4, some (.tup [dueW m gs, .int row.length]), some (.str xt), some (.lst gs), some w], σ) := by
  refine s_ife (b := true) (t_cmp (e_var rfl) (r_lit _) rfl) ?_
  refine (b_seq (s_asg (e_idx rfl (e_var rfl) hix))).trans ?_
  rw [hdw]
  refine (b_seq (s_asg (v := .tup [if ((m : Int) == 1) then V.tup [.str [68, 69, 70, 75, 73, 78, 68], .str [119, 104, 111, 108, 101], .lst gs] else .tup [w, .lst gs], .int row.length]) (e_tup (es_c (e_ite (c := ((m : Int) == 1)) (t_cmp (e_var rfl) (r_lit _) opEqI) ?_) (es_c (e_bi (es_c (e_call (es_c (e_var rfl) rfl) (tk _)) rfl) (lenL hl)) rfl)) (Nat.le_of_ble_eq_true rfl)))).trans rfl
  cases ((m : Int) == 1) <;> rfl
theorem turn_last {row : List V} {tt xtt : List Nat} {d du : V} {x7 : Option V} (hadd : opBin .Add (deref σ (.str xt)) (deref σ (.str tt)) = some (.str xtt)) (tk : ∀ k, (run theTab (k + 150)).C 13 [.str xtt] σ = some (.ok (.lst row), σ))
    (hd : ∀ k, (run theTab (k + 200)).C 39 [.int m, .lst row] σ = some (.ok d, σ)) (hne : opCmp .NotEq d du = some false) :
    (run theTab (k + 244)).S lwF [sc, some (.ref 0), x2, some (.int m), some (.str tt), some du, some (.str xt), x7, y8] σ = some (.ok .next, [sc, some (.ref 0), x2, some (.int m), some (.str tt), some du, some (.str xt), x7, y8], σ) :=
  s_ife (b := false) (t_cmp (e_call (es_c (e_var rfl) (es_c (e_call (es_c (e_bin (e_var rfl) (e_var rfl) hadd) rfl) (tk _)) rfl)) (hd _)) (e_var rfl) hne) rfl
theorem turn_eval {n n2 v : Int} {tt : List Nat} {f du : V} {x3 x5 x6 x7 y8' : Option V}
    (hmi : ∀ k, (run theTab (k + 30)).C 36 [.ref 0, .int 4] [.jug (.lst cs) n] = some (.ok (.int m), [.jug (.lst cs) (n + 1)]))
    (hll : ∀ k, (run theTab (k + 80)).C 38 [.ref 0, .int m] [.jug (.lst cs) (n + 1)] = some (.ok (.tup [.str xt, f]), [.jug (.lst cs) n2]))
    (hv : ∀ k, (run theTab (k + 30)).C 36 [.ref 0, .int 5] [.jug (.lst cs) n2] = some (.ok (.int v), σ)) (htl : idxV (.lst tailL) (.int v) σ = some (.str tt))
    (h5 : ∀ k, (run theTab (k + 245)).S lwI [sc, some (.ref 0), x2, some (.int m), some (.str tt), some (.str [83, 78]), some (.str xt), some f, y8] σ = some (.ok .next, [sc, some (.ref 0), x2, some (.int m), some (.str tt), some du, some (.str xt), some f, y8'], σ))
    (h6 : ∀ k, (run theTab (k + 244)).S lwF [sc, some (.ref 0), x2, some (.int m), some (.str tt), some du, some (.str xt), some f, y8'] σ = some (.ok .next, [sc, some (.ref 0), x2, some (.int m), some (.str tt), some du, some (.str xt), some f, y8'], σ)) :
    (run theTab (k + 250)).Ss lwB [sc, some (.ref 0), x2, x3, x4, x5, x6, x7, y8] [.jug (.lst cs) n] = some (.ok .next, [sc, some (.ref 0), x2, some (.int m), some (.str tt), some du, some (.str xt), some f, y8'], σ) :=
  (b_seq (s_asg (e_call rfl (hmi _)))).trans ((b_seq (s_asgT (e_call rfl (hll _)) rfl)).trans ((b_seq (s_asg (e_idx rfl (e_call rfl (hv _)) htl))).trans ((b_seq (s_asg (r_lit _))).trans ((b_seq (h5 k)).trans ((b_seq (h6 k)).trans rfl)))))
end

theorem law_turn {cs : List V} (hc : Ints cs) {n : Int} (h0 : 0 ≤ n) (h1 : n < 8000) : ∃ n', n ≤ n' ∧ n' ≤ n + 8 ∧ ∀ (sc x2 x3 x4 x5 x6 x7 x8 : Option V) (k : Nat), ∃ y3 y4 y5 y6 y7 y8,
    (run theTab (k + 250)).Ss lwB [sc, some (.ref 0), x2, x3, x4, x5, x6, x7, x8] [.jug (.lst cs) n] = some (.ok .next, [sc, some (.ref 0), x2, y3, y4, y5, y6, y7, y8], [.jug (.lst cs) n']) := by
  obtain ⟨mi, m0, m4, hmi⟩ := law_next hc h0 (by lia) (m := 4) (by decide)
  obtain ⟨m, rfl⟩ : ∃ m : Nat, mi = m := ⟨mi.toNat, by lia⟩
  have hm : m < 4 := by lia
  obtain ⟨qs, o2, o1, hq, hl, n2, hn1, hn2, hll⟩ := law_list hm hc (n := n + 1) (by lia) (by lia)
  obtain ⟨v, v0, v5, hv⟩ := law_next hc (n := n2) (by lia) (by lia) (m := 5) (by decide)
  obtain ⟨t, ht, htl⟩ := tails_get v0 v5
  refine ⟨n2 + 1, by lia, by lia, fun sc x2 x3 x4 x5 x6 x7 x8 k => ?_⟩
  have h00 : (rowT o2 o1 [] qs).length ≤ 60 ∧ (rowK o2 o1 [] qs).length ≤ 60 ∧ noRefs (rowK o2 o1 [] qs) = true := row_small hm (t := ([], [])) (.head _) hq hl (o2 := o2) (o1 := o1)
  have hs := row_small hm ht hq hl (o2 := o2) (o1 := o1)
  obtain ⟨t0, ht0, e1, e2⟩ : ∃ t0 ∈ tls, t0.1 = [] ∧ t0.2 = [] := ⟨([], []), .head _, rfl, rfl⟩
  have tk0 : ∀ k σ, (run theTab (k + 150)).C 13 [.str (rowT o2 o1 t0.1 qs)] σ = some (.ok (.lst (rowK o2 o1 t0.2 qs)), σ) := toks_row hm ht0 hq hl
  rw [e1, e2] at tk0
  have tk1 : ∀ k σ, (run theTab (k + 150)).C 13 [.str (rowT o2 o1 t.1 qs)] σ = some (.ok (.lst (rowK o2 o1 t.2 qs)), σ) := toks_row hm ht hq hl
  have sp : ∀ gs, spec m o2 o1 qs = some gs → noRefs gs = true ∧ gs.all (okV 5) = true ∧ gs.length ≤ 15 := spec_small hm ht hq hl
  have hd : ∀ k σ, (run theTab (k + 200)).C 39 [.int m, .lst (rowK o2 o1 t.2 qs)] σ = some (.ok (dueV m (((rowK o2 o1 t.2 qs).length : Int) - t.2.length) (spec m o2 o1 qs)), σ) := by
    intro k σ
    rw [← heard_due]
    refine heard hm hs.2.2 ?_ (read_row hm ht hq hl) k σ
    intro gs e h
    cases hx : spec m o2 o1 qs with
    | none => rw [hx] at h; cases h
    | some g => rw [hx] at h; cases h; exact (sp gs hx).1
  have hne : opCmp .NotEq (dueV m (((rowK o2 o1 t.2 qs).length : Int) - t.2.length) (spec m o2 o1 qs)) (dueV m (((rowK o2 o1 t.2 qs).length : Int) - t.2.length) (spec m o2 o1 qs)) = some false := due_ne (fun gs h => (sp gs h).2.1)
  have hlen : (((rowK o2 o1 t.2 qs).length : Int) - t.2.length) = (rowK o2 o1 [] qs).length := by
    rw [rowK_app o2 o1 t.2 qs, List.length_append]; lia
  rw [hlen] at hd hne
  have hadd : ∀ σ, opBin .Add (deref σ (.str (rowT o2 o1 [] qs))) (deref σ (.str t.1)) = some (.str (rowT o2 o1 t.1 qs)) := by
    intro σ
    rw [row_app o2 o1 t.1 qs]
    have := (tl_ok ht).tt
    exact opAddS (by have := h00.1; lia) (by lia)
  have hkl : (rowK o2 o1 [] qs).length ≤ 100000 := by have := h00.2.1; lia
  have hix0 := idxL (σ := [.jug (.lst cs) (n2 + 1)]) v0 (by lia) htl
  cases hx : spec m o2 o1 qs with
  | none =>
    rw [hx] at hd hne hll
    exact ⟨_, _, _, _, _, _, turn_eval hmi hll hv hix0 (fun k => turn_none) (fun k => turn_last (hadd _) (fun k => tk1 k _) (fun k => hd k _) hne)⟩
  | some gs =>
    rw [hx] at hd hne hll
    obtain ⟨w, hw, hdw⟩ := due_word hm gs
    exact ⟨_, _, _, _, _, _, turn_eval hmi hll hv hix0 (fun k => turn_some (idxL (by lia) (by lia) hw) (fun k => tk0 k _) hkl hdw) (fun k => turn_last (hadd _) (fun k => tk1 k _) (fun k => hd k _) hne)⟩

theorem law_loop {cs : List V} (hc : Ints cs) (sc : Option V) : ∀ (j s : Nat) (n : Int), 0 ≤ n → n + 8 * j < 8000 → ∀ (x2 x3 x4 x5 x6 x7 x8 : Option V) (k : Nat), ∃ ρ' σ',
    forO ((run theTab (k + 250)).Ss lwB) 2 ((List.range' s j).map Int.ofNat) [sc, some (.ref 0), x2, x3, x4, x5, x6, x7, x8] [.jug (.lst cs) n] = some (.ok .next, ρ', σ')
  | 0, s, n, h0, h1, x2, x3, x4, x5, x6, x7, x8, k => ⟨_, _, rfl⟩
  | j + 1, s, n, h0, h1, x2, x3, x4, x5, x6, x7, x8, k => by
    obtain ⟨n', h2, h3, h⟩ := law_turn hc h0 (by lia)
    obtain ⟨y3, y4, y5, y6, y7, y8, h⟩ := h sc (some (.int (Int.ofNat s))) x3 x4 x5 x6 x7 x8 k
    obtain ⟨ρ', σ', hl⟩ := law_loop hc sc j (s + 1) n' (by lia) (by lia) (some (.int (Int.ofNat s))) y3 y4 y5 y6 y7 y8 k
    refine ⟨ρ', σ', ?_⟩
    rw [List.range'_succ, List.map_cons, for_cons]
    simp only [s0, sS]
    rw [h, bO_ok, forG_next, hl]

theorem r_jug {T : Tab} {n : Nat} {ρ : Loc} {σ : Mem} {i k : Nat} : (run T (n + 1)).E (.jug i k) ρ σ = jugO i k ρ σ := rfl
/-- the law holds, in the small interpreter -/
theorem law_plain (is : List Int) (hl : is.length ≤ 63) (k : Nat) : ∃ ρ' σ', (run theTab (k + 300)).Ss b_law (some (.lst (is.map .int)) :: List.replicate 8 none) [] = some (.ok (.ret (.bool true)), ρ', σ') := by
  have hc : Ints ((is.map V.int).take 40) := by
    refine ⟨fun v hv => ?_, by rw [List.length_take]; lia⟩
    obtain ⟨i, _, rfl⟩ := List.mem_map.mp (List.mem_of_mem_take hv)
    exact ⟨i, rfl⟩
  obtain ⟨v, v0, v4, hv⟩ := law_next hc (n := 0) (by decide) (by decide) (m := 4) (by decide)
  obtain ⟨ρ', σ', h⟩ := law_loop hc (some (.lst (is.map .int))) (1 + v).toNat 0 (0 + 1) (by decide) (by lia) none none none none none none none (k + 47)
  refine ⟨ρ', σ', ?_⟩
  have hj : jugO 0 40 [some (.lst (is.map .int)), none, none, none, none, none, none, none, none] [] = some (.ok (.ref 0), [some (.lst (is.map .int)), none, none, none, none, none, none, none, none], [.jug (.lst ((is.map V.int).take 40)) 0]) := by
    show (if (is.map V.int).length ≤ 100000 then _ else none) = _
    rw [if_pos (by rw [List.length_map]; lia)]; rfl
  rw [show List.replicate 8 (none : Option V) = [none, none, none, none, none, none, none, none] from rfl]
  unfold b_law
  unfold lwB lwI lwF at h
  rw [r_Ssc]
  simp only [r_asg, r_jug, hj, bO_ok, s0, sS, seqK_next]
  rw [r_Ssc]
  simp only [r_for, r_bin, r_lit, r_call, r_Esc, r_Esn, r_var, g0, gS, varO_ok, hv, some_map, bO_ok, opAdd, retO_some, forK_ok (show 0 ≤ 1 + v ∧ 1 + v ≤ 1000 by lia)]
  rw [show k + 297 = k + 47 + 250 by lia, h]
  simp only [bO_ok, seqK_next, r_Ssc, r_ret, r_lit, seqK_ret]
end Mine

end

section
set_option genInjectivity false
open PySem PySem.W PyProof.Rows
set_option maxRecDepth 100000
namespace Mine

noncomputable def litC : V → Option Const
  | .none => some .none
  | .bool b => some (.bool b)
  | .int i => some (.int i)
  | .str s => some (.str ⟨s.toArray⟩)
  | _ => none
noncomputable def litOk (c : Const) (v : V) : Bool := decide (litC v = some c)

section
variable {G : Gx} {X : Fx} {n : Nat} {ds : List V} {vs : List Value} {ρ : Loc} {σ : Mem}

theorem tr_some {α β : Type} {t : Sem α} {rel : Heap → Lay → β → α → Prop} {x : Option β} (h : ∀ b, x = some b → Tr G X n ds vs t rel ρ σ (some (.ok b, ρ, σ))) : Tr G X n ds vs t rel ρ σ (retO ρ σ x) := by
  cases x with
  | none => trivial
  | some b => exact h b rfl

theorem tr_const {c : Const} {v : V} {k : Nat} {pos : Pos} (h : litOk c v = true) :
    Tr G X n ds vs (eval (.Constant c k pos) X.env) (RV G) ρ σ (some (.ok v, ρ, σ)) := by
  have e := of_decide_eq_true h
  clear h
  cases v with
  | none => rw [← Option.some.inj e]; exact Tr.one fun A s Y Q E hA hD hR kk => Constant_none (kk s.toks _ .none)
  | bool b => rw [← Option.some.inj e]; exact Tr.one fun A s Y Q E hA hD hR kk => Constant_bool (kk s.toks _ (.bool b))
  | int b => rw [← Option.some.inj e]; exact Tr.one fun A s Y Q E hA hD hR kk => wpAny_Constant_int (kk _ _ (.int b _))
  | str b => rw [← Option.some.inj e]; exact Tr.one fun A s Y Q E hA hD hR kk => Calls.Constant_str (kk _ _ (.str b _))
  | _ => cases e

theorem tr_var {i : Nat} {x : Str} {pos : Pos} (hk : X.sc.kind = .function) (hx : X.ns[i]? = some x) (hl : X.sc.names.lookup x = some .local) (hd : (x == ("__debug__" : Str)) = false) :
    Tr G X n ds vs (eval (.Name x pos) X.env) (RV G) ρ σ (match ρ[i]? with | some (some v) => some (.ok v, ρ, σ) | _ => none) := by
  split
  · rename_i v hv
    refine Tr.one fun A s Y Q E hA hD hR kk => ?_
    obtain ⟨m, hm, hloc⟩ := hD.loc
    obtain ⟨x', u, hx', hu, hr⟩ := hloc i v hv
    rw [hx] at hx'; cases hx'
    exact wpAny_Name (wpAny_loadName_local hk hl hm hu (kk s.toks u hr)) hd
  · trivial

theorem Rps.head {D : Dd} {h : Heap} {Y : Lay} {d : V} {v : Value} {ds : List V} {vs : List Value} : Rps D h Y (d :: ds) (v :: vs) → Rp D h Y d v
  | .cons h _ => h
theorem Rps.tail {D : Dd} {h : Heap} {Y : Lay} {d : V} {v : Value} {ds : List V} {vs : List Value} : Rps D h Y (d :: ds) (v :: vs) → Rps D h Y ds vs
  | .cons _ h => h

theorem tr_neg {e : Expr} {pos : Pos} {o : Out V} (h : Tr G X n ds vs (eval e X.env) (RV G) ρ σ o) :
    Tr G X n ds vs (eval (.UnaryOp .USub e pos) X.env) (RV G) ρ σ (bindO o fun v ρ σ => match v with | .int i => some (.ok (.int (-i)), ρ, σ) | _ => none) := by
  refine Tr.seqV (k := fun v => unaryOp .USub v) (fun A Q E s _ h => UnaryOp_ h) h fun b ρ₁ σ₁ a _ => ?_
  cases b with
  | int i =>
    refine Tr.one fun A s Y Q E hA hD hR kk => ?_
    cases hR.head
    exact neg_int (kk _ _ (.int _ _))
  | _ => trivial

theorem tr_IfExp {test body orelse : Expr} {pos : Pos} {o : Out Bool} {f g : Loc → Mem → Out V} (ht : Tr G X n ds vs (isTrue test X.env (eval test X.env)) RB ρ σ o)
    (hb : ∀ ρ σ, Tr G X n ds vs (eval body X.env) (RV G) ρ σ (f ρ σ)) (he : ∀ ρ σ, Tr G X n ds vs (eval orelse X.env) (RV G) ρ σ (g ρ σ)) :
    Tr G X n ds vs (eval (.IfExp test body orelse pos) X.env) (RV G) ρ σ (bindO o fun x ρ σ => if x then f ρ σ else g ρ σ) := by
  refine Tr.seqB (k := fun c => if c then eval body X.env else eval orelse X.env) (fun A Q E s _ h => IfExp_ (wpAny_mono h (fun c s' h' => ?_) fun _ _ e => e)) ht fun b ρ₁ σ₁ => ?_
  · cases c <;> exact h'
  · cases b
    · exact he _ _
    · exact hb _ _

theorem tr_isIf {test body orelse : Expr} {pos : Pos} {w : Sem Value} {o : Out Bool} {f g : Loc → Mem → Out Bool} (ht : Tr G X n ds vs (isTrue test X.env (eval test X.env)) RB ρ σ o)
    (hb : ∀ ρ σ, Tr G X n ds vs (isTrue body X.env (eval body X.env)) RB ρ σ (f ρ σ)) (he : ∀ ρ σ, Tr G X n ds vs (isTrue orelse X.env (eval orelse X.env)) RB ρ σ (g ρ σ)) :
    Tr G X n ds vs (isTrue (.IfExp test body orelse pos) X.env w) RB ρ σ (bindO o fun x ρ σ => if x then f ρ σ else g ρ σ) := by
  refine Tr.seqB (k := fun c => if c then isTrue body X.env (eval body X.env) else isTrue orelse X.env (eval orelse X.env)) (fun A Q E s _ h => isTrue_IfExp (wpAny_mono h (fun c s' h' => ?_) fun _ _ e => e)) ht fun b ρ₁ σ₁ => ?_
  · cases c <;> exact h'
  · cases b
    · exact he _ _
    · exact hb _ _

theorem tr_isNot {e : Expr} {pos : Pos} {w : Sem Value} {o : Out Bool} (h : Tr G X n ds vs (isTrue e X.env (eval e X.env)) RB ρ σ o) :
    Tr G X n ds vs (isTrue (.UnaryOp .Not e pos) X.env w) RB ρ σ (bindO o fun b ρ σ => some (.ok !b, ρ, σ)) := by
  refine Tr.seqB (k := fun c => pure (!c)) (fun A Q E s _ h => ?_) h fun b ρ₁ σ₁ => ?_
  · show wpAny _ A (isTrue e X.env (eval e X.env) >>= fun c => pure (!c)) Q E s
    exact wpAny_bind h
  · exact Tr.one fun A s Y Q E hA hD hR kk => wpAny_pure (kk s.toks _ rfl)
end
end Mine

end

section
set_option genInjectivity false
open PySem PySem.W PyProof.Rows
set_option maxRecDepth 100000
namespace Mine

noncomputable abbrev Keeps (h h' : Heap) : Prop := ∀ b o, h.get? b = some o → h'.get? b = some o

theorem Step.of_keeps {L : Addr} {h h' : Heap} {Y : Lay} (k : Keeps h h') : Step L h Y h' Y :=
  ⟨fun _ _ e => e, rfl, rfl, fun _ o e => ⟨o, k _ _ e⟩, fun _ a n => absurd a n, fun _ _ e _ _ => k _ _ e, fun _ o e _ _ => ⟨o.slots, k _ _ e⟩⟩

theorem CellAt.mono {G : Gx} {h h' : Heap} {Y Y' : Lay} {a : Addr} {c : Cell} (m : Moves G.lvl h Y h' Y') (k : ∀ o, h.get? a = some o → h'.get? a = some o) (x : CellAt G.lvl h Y a c) : CellAt G.lvl h' Y' a c := by
  cases c with
  | list l => obtain ⟨vs, n, e, r⟩ := x; exact ⟨vs, n, k _ e, r.mono m⟩
  | jug c j => obtain ⟨vc, tk, e, r⟩ := x; exact ⟨vc, tk, e.at k, r.mono m⟩

section
variable {G : Gx} {X : Fx} {n : Nat} {ds : List V} {vs : List Value} {ρ : Loc} {σ : Mem}

theorem Dyn.of_keeps {h h' : Heap} {Y : Lay} (d : Dyn G X h Y ρ σ) (k : Keeps h h') : Dyn G X h' Y ρ σ := by
  have m := (Step.of_keeps (L := X.L) (Y := Y) k).moves d
  refine ⟨fun b o e => k b o (d.stays b o e), d.funs.of_keeps fun b o e _ => ⟨o, k b o e, rfl⟩, d.fr, fun a ha => ?_, ⟨d.mem.len, d.mem.nodup, d.mem.new, d.mem.apart, fun i a c hi hc => (d.mem.cell i a c hi hc).mono m fun o e => k a o e⟩, fun a ha => ⟨(d.no a ha).1, (d.no a ha).2.imp fun o e => k a o e⟩, ?_⟩
  · obtain ⟨o, es, n, e, r⟩ := d.frs a ha
    exact ⟨o, es, n, k _ _ e, r⟩
  · obtain ⟨mm, hm, hl⟩ := d.loc
    refine ⟨mm, hm.keeps k, fun i v e => ?_⟩
    obtain ⟨x, u, e1, e2, r⟩ := hl i v e
    exact ⟨x, u, e1, e2, r.mono m⟩

theorem Dyn.mu_live {h : Heap} {Y : Lay} (d : Dyn G X h Y ρ σ) {a : Addr} (ha : a ∈ Y.mu) : ∃ o, h.get? a = some o := by
  obtain ⟨i, hi⟩ := List.getElem?_of_mem ha
  have hl : i < σ.length := by rw [← d.mem.len]; exact (List.getElem?_eq_some_iff.mp hi).1
  have hc := d.mem.cell i a _ hi (List.getElem?_eq_getElem hl)
  cases q : σ[i] with
  | list l => rw [q] at hc; obtain ⟨vs, n, g, _⟩ := hc; exact ⟨_, g⟩
  | jug c k => rw [q] at hc; obtain ⟨vc, tk, ⟨o', es, ep, g, _⟩, _⟩ := hc; exact ⟨_, g⟩
theorem Dyn.new_mu {h : Heap} {Y : Lay} (d : Dyn G X h Y ρ σ) : h.objs.size ∉ Y.mu ∧ h.objs.size ∉ Y.no := by
  refine ⟨fun hm => ?_, fun hm => ?_⟩
  · obtain ⟨o, e⟩ := d.mu_live hm
    exact absurd (Heap.lt_size e) (Nat.lt_irrefl _)
  · obtain ⟨_, o, e⟩ := d.no _ hm
    exact absurd (Heap.lt_size e) (Nat.lt_irrefl _)
theorem Dyn.new_fr {h : Heap} {Y : Lay} (d : Dyn G X h Y ρ σ) : h.objs.size ∉ Y.fr := fun hm => by
  obtain ⟨o, es, n, e, _⟩ := d.frs _ hm
  exact absurd (Heap.lt_size e) (Nat.lt_irrefl _)

/-- a tree that only adds things -/
theorem Tr.grow {α β : Type} {t : Sem α} {rel : Heap → Lay → β → α → Prop} {b : β}
    (h : ∀ A s Y Q E, AOk X A n → Dyn G X s.heap Y ρ σ → Rps G.lvl s.heap Y ds vs → (∀ h' tk a, Keeps s.heap h' → rel h' Y b a → Q a { s with heap := h', toks := tk }) → wpAny (model G.prog G.w) A t Q E s) :
    Tr G X n ds vs t rel ρ σ (some (.ok b, ρ, σ)) := by
  intro A s Y Q E hA hD hR k
  refine h A s Y Q E hA hD hR fun h' tk a hk ha => ?_
  exact (k h' tk Y (.of_keeps hk) (hD.of_keeps hk)).1 b rfl a ha

theorem Tr.growW {α β : Type} {W : PT α} {rel : Heap → Lay → β → α → Prop} {b : β}
    (h : ∀ A s Y Q E, AOk X A n → Dyn G X s.heap Y ρ σ → Rps G.lvl s.heap Y ds vs → (∀ h' tk a, Keeps s.heap h' → rel h' Y b a → Q a { s with heap := h', toks := tk }) → W A Q E s) :
    TrW G X n ds vs W rel ρ σ (some (.ok b, ρ, σ)) := by
  intro A s Y Q E hA hD hR k
  refine h A s Y Q E hA hD hR fun h' tk a hk ha => ?_
  exact (k h' tk Y (.of_keeps hk) (hD.of_keeps hk)).1 b rfl a ha

theorem Rp.deref {h : Heap} {Y : Lay} (d : Dyn G X h Y ρ σ) {v : V} {u : Value} (x : Rp G.lvl h Y v u) {l : List V} (e : deref σ v = .lst l) : ∃ a vs, u = .ref a ∧ h.IsList a vs.toArray ∧ Rps G.lvl h Y l vs := by
  cases x with
  | lst ha hn hr => cases e; exact ⟨_, _, rfl, ha, hr⟩
  | @ref i a hi =>
    unfold Mine.deref at e
    dsimp only at e
    split at e
    · rename_i l' hc
      cases e
      obtain ⟨vs, n, g, r⟩ := d.mem.cell i a _ hi hc
      exact ⟨_, vs, rfl, ⟨_, g, rfl, n, rfl⟩, r⟩
    · cases e
  | _ => cases e

theorem deref_of {σ : Mem} {v w : V} (e : deref σ v = w) (h : ∀ l, w ≠ .lst l) : v = w := by
  cases v <;> try exact e
  rename_i r
  unfold deref at e
  dsimp only at e
  split at e
  · exact absurd e.symm (h _)
  · exact e

theorem small_abs {a : Int} (h : small a = true) : a.natAbs < 1000000 := by
  unfold small at h
  simp only [Bool.and_eq_true, decide_eq_true_eq] at h
  omega

theorem two_ints {D : Dd} {h : Heap} {Y : Lay} {u v : V} {x y : Int} {a b : Value} (e1 : deref σ u = .int x) (e2 : deref σ v = .int y) (ru : Rp D h Y u a) (rv : Rp D h Y v b) : ∃ t1 t2, a = .int x t1 ∧ b = .int y t2 := by
  have f1 := deref_of e1 nofun
  have f2 := deref_of e2 nofun
  rw [f1] at ru
  rw [f2] at rv
  obtain ⟨t1, g1⟩ := ru.isInt
  obtain ⟨t2, g2⟩ := rv.isInt
  exact ⟨t1, t2, g1, g2⟩
theorem two_strs {D : Dd} {h : Heap} {Y : Lay} {u v : V} {x y : List Nat} {a b : Value} (e1 : deref σ u = .str x) (e2 : deref σ v = .str y) (ru : Rp D h Y u a) (rv : Rp D h Y v b) : ∃ t1 t2, a = .str ⟨x.toArray⟩ t1 ∧ b = .str ⟨y.toArray⟩ t2 := by
  have f1 := deref_of e1 nofun
  have f2 := deref_of e2 nofun
  rw [f1] at ru
  rw [f2] at rv
  obtain ⟨t1, g1⟩ := ru.isStr
  obtain ⟨t2, g2⟩ := rv.isStr
  exact ⟨t1, t2, g1, g2⟩
theorem rv_int {h : Heap} {Y : Lay} {i : Int} {r : V} {t : Tok} (e : some (V.int i) = some r) : RV G h Y r (.int i t) := by cases e; exact .int _ _

section
variable {op : Operator} {u v r : V} {a b : Value} {A : Around} {s : Shared} {Y : Lay} {Q : Value → Shared → Prop} {E : Value → Shared → Prop}
noncomputable def BinK (G : Gx) (op : Operator) (r : V) (a b : Value) (A : Around) (s : Shared) (Y : Lay) : Prop := ∀ {Q : Value → Shared → Prop} {E : Value → Shared → Prop},
  (∀ h' tk a, Keeps s.heap h' → RV G h' Y r a → Q a { s with heap := h', toks := tk }) → wpAny (model G.prog G.w) A (binaryOp op a b) Q E s
theorem bin_int {k : Int → Int → Option V} (ru : Rp G.lvl s.heap Y u a) (rv : Rp G.lvl s.heap Y v b) (hr : ii (deref σ u) (deref σ v) k = some r) (h : ∀ x y t1 t2, k x y = some r → BinK G op r (.int x t1) (.int y t2) A s Y) : BinK G op r a b A s Y := by
  obtain ⟨x, y, e1, e2, e3⟩ := ii_of hr
  obtain ⟨t1, t2, g1, g2⟩ := two_ints e1 e2 ru rv
  rw [g1, g2]
  exact h x y t1 t2 e3
theorem small_bits {x : Int} (h : small x = true) : PySem.Builtin.Int.intBits x ≤ 64 := by
  have := small_abs h
  exact PySem.intBits_le_64 (by omega) (by omega)
theorem small_p {x : Int} (h : small x = true) : x.natAbs < 1073741824 := Nat.lt_of_lt_of_le (small_abs h) (by decide)
theorem bin_add (hD : Dyn G X s.heap Y ρ σ) (ru : Rp G.lvl s.heap Y u a) (rv : Rp G.lvl s.heap Y v b) (hr : opBin .Add (deref σ u) (deref σ v) = some r) : BinK G .Add r a b A s Y := by
  rcases orO_of hr with hr | hr
  · exact bin_int ru rv hr fun x y t1 t2 e Q E kk => add_int (kk _ _ _ (fun _ _ e => e) (rv_int e))
  rcases orO_of hr with hr | hr
  · obtain ⟨x, y, e1, e2, e3⟩ := ss_of hr
    obtain ⟨hs, e4⟩ := if_of e3
    obtain ⟨t1, t2, g1, g2⟩ := two_strs e1 e2 ru rv
    rw [g1, g2, e4]
    intro Q E kk
    refine PyProof.Rows.add_str (fun t' tk => ?_) (by show x.toArray.size + y.toArray.size ≤ sizeLine; rw [sizeLine_eq, List.size_toArray, List.size_toArray]; lia)
    have e : (⟨x.toArray⟩ : Str) ++ ⟨y.toArray⟩ = ⟨(x ++ y).toArray⟩ := congrArg Str.mk (by simp)
    rw [e]
    exact kk _ _ _ (fun _ _ e => e) (.str _ _)
  · obtain ⟨x, y, hu, hv, e3⟩ := ll_of hr
    obtain ⟨hs, e4⟩ := if_of e3
    obtain ⟨a1, v1, g1', g1, r1⟩ := ru.deref hD hu
    obtain ⟨a2, v2, g2', g2, r2⟩ := rv.deref hD hv
    rw [g1', g2', e4]
    intro Q E kk
    obtain ⟨⟨c1, d1, t1, sl1⟩, ho1, hc1, n1, hd1⟩ := g1
    obtain ⟨⟨c2, d2, t2, sl2⟩, ho2, hc2, n2, hd2⟩ := g2
    dsimp only at hc1 hd1 hc2 hd2
    subst hc1 hd1 hc2 hd2
    refine concat_meets ⟨_, ho1, rfl⟩ ⟨_, ho2, rfl⟩ noFill_list_add seq_list_add PySem.F.slot_list_add PySem.F.entry_list_add (PySem.F.args_list_add_2 _ _) (list_addW a1 a2 v1.toArray v2.toArray n1 n2 d1 d2 sl1 sl2 (by rw [sizeLine_eq, List.size_toArray, List.size_toArray, r1.length, r2.length]; lia)) ⟨ho1, ho2, ?_⟩
    have kp : Keeps s.heap (s.heap.push { cls := .type "list", data := .seq (v1.toArray ++ v2.toArray) }) := fun b o e => Heap.get?_push_of_some _ e
    have m := (Step.of_keeps (L := X.L) (Y := Y) kp).moves hD
    refine kk _ s.toks _ kp (.lst (vs := v1 ++ v2) ⟨{ cls := .type "list", data := .seq (v1 ++ v2).toArray 0 }, ?_, rfl, 0, rfl⟩ hD.new_mu ((r2.mono m).append (r1.mono m)))
    rw [Heap.get?_push_size _ rfl]; simp
theorem bin_core (hD : Dyn G X s.heap Y ρ σ) (ru : Rp G.lvl s.heap Y u a) (rv : Rp G.lvl s.heap Y v b) (hr : opBin op (deref σ u) (deref σ v) = some r) : BinK G op r a b A s Y := by
  cases op with
  | Add => exact bin_add hD ru rv hr
  | Sub => exact bin_int ru rv hr fun x y t1 t2 e Q E kk => sub_int (kk _ _ _ (fun _ _ e => e) (rv_int e))
  | Mult => exact bin_int ru rv hr fun x y t1 t2 e Q E kk => mul_int (kk _ _ _ (fun _ _ e => e) (rv_int (congrArg some (if_of e).2.symm))) (.of_left (small_bits (Bool.and_eq_true_iff.mp (if_of e).1).1))
  | FloorDiv => exact bin_int ru rv hr fun x y t1 t2 e Q E kk => floordiv_int (by simpa using (Bool.and_eq_true_iff.mp (if_of e).1).2) (kk _ _ _ (fun _ _ e => e) (rv_int (congrArg some (if_of e).2.symm))) (.inl (PyProof.noPylong_small (small_p (Bool.and_eq_true_iff.mp (Bool.and_eq_true_iff.mp (if_of e).1).1).2)))
  | Mod => exact bin_int ru rv hr fun x y t1 t2 e Q E kk => mod_int (if_of e).1 (kk _ _ _ (fun _ _ e => e) (rv_int (congrArg some (if_of e).2.symm)))
  | _ => cases hr
end
theorem tr_binop {op : Operator} {u v : V} {a b : Value} : Tr G X n (v :: u :: ds) (b :: a :: vs) (binaryOp op a b) (RV G) ρ σ (retO ρ σ (opBin op (deref σ u) (deref σ v))) :=
  tr_some fun r hr => Tr.grow fun A s Y Q E hA hD hR kk => bin_core hD hR.tail.head hR.head hr kk
end
end Mine

end

section
set_option genInjectivity false
open PySem PySem.W PyProof.Rows
set_option maxRecDepth 100000
namespace Mine

theorem arr_beq (s t : List Nat) : ((⟨s.toArray⟩ : Str) == ⟨t.toArray⟩) = (s == t) := by
  by_cases z : s = t
  · subst z; simp
  · rw [show (s == t) = false from by simpa using z]; simpa using z

theorem okV_is {n : Nat} {v : V} (h : okV n v = true) : v = .none ∨ (∃ i, v = .int i) ∨ (∃ s, v = .str s ∧ (s.all fun c => decide (c < 0x110000)) = true) ∨ (∃ l k, v = .tup l ∧ n = k + 1 ∧ ∀ x ∈ l, okV k x = true) ∨ (∃ l k, v = .lst l ∧ n = k + 1 ∧ ∀ x ∈ l, okV k x = true) := by
  cases n with
  | zero => cases v <;> first | exact .inl rfl | exact .inr (.inl ⟨_, rfl⟩) | exact .inr (.inr (.inl ⟨_, rfl, h⟩)) | cases h
  | succ k => cases v <;> first | exact .inl rfl | exact .inr (.inl ⟨_, rfl⟩) | exact .inr (.inr (.inl ⟨_, rfl, h⟩)) | exact .inr (.inr (.inr (.inl ⟨_, _, rfl, rfl, List.all_eq_true.mp h⟩))) | exact .inr (.inr (.inr (.inr ⟨_, _, rfl, rfl, List.all_eq_true.mp h⟩))) | cases h
theorem veqs_py {n m : Nat} (ih : ∀ a b : V, okV n a = true → okV m b = true → PyData.eqv (toPy a) (toPy b) = veq a b) (a : List V) : ∀ b : List V, (∀ v ∈ a, okV n v = true) → (∀ v ∈ b, okV m v = true) → PyData.eqvAll (toPys a) (toPys b) = veqs a b := by
  induction a with
  | nil =>
    intro b ha hb
    cases b with
    | nil => rfl
    | cons _ _ => rfl
  | cons x r hr =>
    intro b ha hb
    cases b with
    | nil => rfl
    | cons y t =>
      show (PyData.eqv (toPy x) (toPy y) && PyData.eqvAll (toPys r) (toPys t)) = (veq x y && veqs r t)
      rw [ih x y (ha _ (.head _)) (hb _ (.head _)), hr t (fun v hv => ha v (.tail _ hv)) (fun v hv => hb v (.tail _ hv))]
theorem veq_py (n : Nat) : ∀ (m : Nat) (a b : V), okV n a = true → okV m b = true → PyData.eqv (toPy a) (toPy b) = veq a b := by
  induction n with
  | zero =>
    intro m a b ha hb
    rcases okV_is ha with rfl | ⟨i, rfl⟩ | ⟨s, rfl, _⟩ | ⟨l, k, rfl, hk, _⟩ | ⟨l, k, rfl, hk, _⟩
    · rcases okV_is hb with rfl | ⟨i, rfl⟩ | ⟨s, rfl, _⟩ | ⟨l, k, rfl, hk, _⟩ | ⟨l, k, rfl, hk, _⟩ <;> rfl
    · rcases okV_is hb with rfl | ⟨i, rfl⟩ | ⟨s, rfl, _⟩ | ⟨l, k, rfl, hk, _⟩ | ⟨l, k, rfl, hk, _⟩ <;> rfl
    · rcases okV_is hb with rfl | ⟨i, rfl⟩ | ⟨s, rfl, _⟩ | ⟨l, k, rfl, hk, _⟩ | ⟨l, k, rfl, hk, _⟩ <;> first | rfl | exact arr_beq _ _
    · cases hk
    · cases hk
  | succ n ih =>
    intro m a b ha hb
    rcases okV_is ha with rfl | ⟨i, rfl⟩ | ⟨s, rfl, _⟩ | ⟨l, k, rfl, hk, hl⟩ | ⟨l, k, rfl, hk, hl⟩
    · rcases okV_is hb with rfl | ⟨i, rfl⟩ | ⟨s, rfl, _⟩ | ⟨l, k, rfl, hk, _⟩ | ⟨l, k, rfl, hk, _⟩ <;> rfl
    · rcases okV_is hb with rfl | ⟨i, rfl⟩ | ⟨s, rfl, _⟩ | ⟨l, k, rfl, hk, _⟩ | ⟨l, k, rfl, hk, _⟩ <;> rfl
    · rcases okV_is hb with rfl | ⟨i, rfl⟩ | ⟨s, rfl, _⟩ | ⟨l, k, rfl, hk, _⟩ | ⟨l, k, rfl, hk, _⟩ <;> first | rfl | exact arr_beq _ _
    · cases hk
      rcases okV_is hb with rfl | ⟨i, rfl⟩ | ⟨s, rfl, _⟩ | ⟨l', k', rfl, hk', hl'⟩ | ⟨l', k', rfl, hk', hl'⟩ <;> first | rfl | exact veqs_py (ih k') l l' hl hl'
    · cases hk
      rcases okV_is hb with rfl | ⟨i, rfl⟩ | ⟨s, rfl, _⟩ | ⟨l', k', rfl, hk', hl'⟩ | ⟨l', k', rfl, hk', hl'⟩ <;> first | rfl | exact veqs_py (ih k') l l' hl hl'

theorem okVs_lay {n : Nat} (ih : ∀ d, okV n d = true → (toPy d).canLay0 = true ∧ (toPy d).depth ≤ n) (l : List V) : (∀ d ∈ l, okV n d = true) → PyData.canLayAll0 (toPys l) = true ∧ PyData.depthAll (toPys l) ≤ n := by
  induction l with
  | nil => intro _; exact ⟨rfl, Nat.zero_le _⟩
  | cons d l hi =>
    intro h
    have h1 := ih d (h d (.head _))
    have h2 := hi fun e he => h e (.tail _ he)
    exact ⟨Bool.and_eq_true_iff.mpr ⟨h1.1, h2.1⟩, Nat.max_le.mpr ⟨h1.2, h2.2⟩⟩
theorem okV_lay (n : Nat) : ∀ (d : V), okV n d = true → (toPy d).canLay0 = true ∧ (toPy d).depth ≤ n := by
  induction n with
  | zero =>
    intro d h
    rcases okV_is h with rfl | ⟨i, rfl⟩ | ⟨s, rfl, hs⟩ | ⟨l, k, rfl, hk, _⟩ | ⟨l, k, rfl, hk, _⟩
    · exact ⟨rfl, Nat.le_refl _⟩
    · exact ⟨rfl, Nat.le_refl _⟩
    · exact ⟨by simpa [toPy, PyData.canLay0, PyData.strOk] using hs, Nat.le_refl _⟩
    · cases hk
    · cases hk
  | succ n ih =>
    intro d h
    rcases okV_is h with rfl | ⟨i, rfl⟩ | ⟨s, rfl, hs⟩ | ⟨l, k, rfl, hk, hl⟩ | ⟨l, k, rfl, hk, hl⟩
    · exact ⟨rfl, Nat.zero_le _⟩
    · exact ⟨rfl, Nat.zero_le _⟩
    · exact ⟨by simpa [toPy, PyData.canLay0, PyData.strOk] using hs, Nat.zero_le _⟩
    · cases hk
      have q := okVs_lay ih l hl
      exact ⟨q.1, Nat.succ_le_succ q.2⟩
    · cases hk
      have q := okVs_lay ih l hl
      exact ⟨q.1, Nat.succ_le_succ q.2⟩

theorem Rp.isNn {D : Dd} {h : Heap} {Y : Lay} {u : Value} (x : Rp D h Y .none u) : u = .none := by cases x; rfl
theorem Rps.reads {D : Dd} {h : Heap} {Y : Lay} {n : Nat} (ih : ∀ {v : V} {u : Value}, Rp D h Y v u → okV n v = true → ∃ as, Reads h u (toPy v) as) (ds : List V) : ∀ {vs : List Value}, Rps D h Y ds vs → (∀ d ∈ ds, okV n d = true) → ∃ as, ReadsAll h vs (toPys ds) as := by
  induction ds with
  | nil => intro vs x _; cases x; exact ⟨_, ReadsAll.nil⟩
  | cons d ds hi =>
    intro vs x hk
    cases x with
    | cons hd hr =>
    obtain ⟨as, q⟩ := ih hd (hk _ (.head _))
    obtain ⟨bs, p⟩ := hi hr fun d hm => hk d (.tail _ hm)
    exact ⟨_, ReadsAll.cons q p⟩
theorem Rp.reads {D : Dd} {h : Heap} {Y : Lay} (n : Nat) : ∀ {v : V} {u : Value}, Rp D h Y v u → okV n v = true → ∃ as, Reads h u (toPy v) as := by
  induction n with
  | zero =>
    intro v u x hk
    rcases okV_is hk with rfl | ⟨i, rfl⟩ | ⟨s, rfl, hs⟩ | ⟨l, k, rfl, hk, _⟩ | ⟨l, k, rfl, hk, _⟩
    · cases x.isNn; exact ⟨_, Reads.none⟩
    · obtain ⟨t, rfl⟩ := x.isInt; exact ⟨_, Reads.int _ _⟩
    · obtain ⟨t, rfl⟩ := x.isStr; exact ⟨_, Reads.str _ _⟩
    · cases hk
    · cases hk
  | succ n ih =>
    intro v u x hk
    rcases okV_is hk with rfl | ⟨i, rfl⟩ | ⟨s, rfl, hs⟩ | ⟨l, k, rfl, hk, hl⟩ | ⟨l, k, rfl, hk, hl⟩
    · cases x.isNn; exact ⟨_, Reads.none⟩
    · obtain ⟨t, rfl⟩ := x.isInt; exact ⟨_, Reads.int _ _⟩
    · obtain ⟨t, rfl⟩ := x.isStr; exact ⟨_, Reads.str _ _⟩
    · cases hk
      obtain ⟨a, us, rfl, ⟨o, ho, hc, m, hd⟩, hr⟩ := x.isTup
      obtain ⟨as, q⟩ := Rps.reads ih l hr hl
      exact ⟨as, Reads.tuple ho hc hd (by simpa using q)⟩
    · cases hk
      obtain ⟨a, us, rfl, ⟨o, ho, hc, m, hd⟩, hr⟩ := x.isLst
      obtain ⟨as, q⟩ := Rps.reads ih l hr hl
      exact ⟨_, Reads.list ho hc hd (by simpa using q)⟩

theorem isStrs_are {D : Dd} {h : Heap} {Y : Lay} {l : List V} : ∀ {vs : List Value} {ss : List (List Nat)}, Rps D h Y l vs → isStrs l = some ss → StrsAre vs (ss.map fun s => ⟨s.toArray⟩) := by
  induction l with
  | nil => intro vs ss x e; cases x; cases e; exact .nil
  | cons d l ih =>
    intro vs ss x e
    cases x with
    | cons hd hr =>
    obtain ⟨s, rfl, e1⟩ := isStrs_cons e
    obtain ⟨r, e2, rfl⟩ := Option.map_eq_some_iff.mp e1
    obtain ⟨t, rfl⟩ := hd.isStr
    exact .cons _ t (ih hr e2)

theorem any_contains (a : List Nat) : ∀ ss : List (List Nat), (ss.map fun s => (⟨s.toArray⟩ : Str)).any (· == ⟨a.toArray⟩) = ss.contains a
  | [] => rfl
  | s :: r => by
    rw [List.map_cons, List.any_cons, List.contains_cons, any_contains a r]
    congr 1
    by_cases h : a = s
    · subst h; simp
    · have h' : ¬ s = a := fun e => h e.symm
      rw [show (a == s) = false from by simpa using h]
      simpa using h'

theorem tab_find (x : List Nat) : ∀ {es : List DictEntry} {l : List (List Nat × Int)}, TabAre es l → match l.lookup x with
    | some i => ∃ u, findBy Value.isStrOf es.toArray ⟨x.toArray⟩ = some (.int i u)
    | none => findBy Value.isStrOf es.toArray ⟨x.toArray⟩ = none
  | _, _, .nil => rfl
  | _, _, .cons (hs := hs) (s := s) (t := t) (u := u) (i := i) (es := es) (l := l) h => by
    have ih := tab_find x h
    have e : findBy Value.isStrOf (⟨hs, .str ⟨s.toArray⟩ t, .int i u⟩ :: es : List DictEntry).toArray ⟨x.toArray⟩ = if s = x then some (.int i u) else findBy Value.isStrOf es.toArray ⟨x.toArray⟩ := by
      unfold findBy
      rw [List.find?_toArray, List.find?_toArray, List.find?_cons]
      have q : Value.isStrOf ⟨x.toArray⟩ (.str ⟨s.toArray⟩ t) = decide (s = x) := by
        rw [← isStr_of]
        show ((⟨s.toArray⟩ : Str) == ⟨x.toArray⟩) = _
        by_cases z : s = x
        · subst z; simp
        · simp [z]
      dsimp only
      rw [q]
      by_cases z : s = x <;> simp [z]
    rw [List.lookup_cons]
    by_cases z : s = x
    · subst z
      simp only [beq_self_eq_true]
      exact ⟨u, by rw [e, if_pos rfl]⟩
    · have z' : (x == s) = false := by simpa using fun q => z q.symm
      rw [z']
      rw [e, if_neg z]
      exact ih
theorem any_lookup (x : List Nat) : ∀ l : List (List Nat × Int), (l.any fun p => p.1 == x) = (l.lookup x).isSome
  | [] => rfl
  | (s, i) :: r => by
    rw [List.any_cons, List.lookup_cons, any_lookup x r]
    by_cases z : s = x
    · subst z; simp
    · have z' : (x == s) = false := by simpa using fun q => z q.symm
      have z'' : (s == x) = false := by simpa using z
      rw [z', z'']; rfl

section
variable {G : Gx} {X : Fx} {n : Nat} {ds : List V} {vs : List Value} {ρ : Loc} {σ : Mem}

noncomputable def CmpK (G : Gx) (op : CmpOp) (r : Bool) (a b : Value) (A : Around) (s : Shared) : Prop := ∀ {Q : Value → Shared → Prop} {E : Value → Shared → Prop},
  (∀ tk, Q (.bool r) { s with toks := tk }) → wpAny (model G.prog G.w) A (compareOp op a b) Q E s
section
variable {op : CmpOp} {u v : V} {r : Bool} {A : Around} {s : Shared} {Y : Lay} {a b : Value}
theorem cmp_ii {r' : Bool} {k : Int → Int → Option Bool} (ru : Rp G.lvl s.heap Y u a) (rv : Rp G.lvl s.heap Y v b) (hr : ii u v k = some r) (h : ∀ x y t1 t2, k x y = some r → CmpK G op r' (.int x t1) (.int y t2) A s) : CmpK G op r' a b A s := by
  obtain ⟨x, y, e1, e2, e3⟩ := ii_of hr
  rw [e1] at ru
  rw [e2] at rv
  obtain ⟨t1, g1⟩ := ru.isInt
  obtain ⟨t2, g2⟩ := rv.isInt
  rw [g1, g2]
  exact h x y t1 t2 e3
theorem cmp_ss {r' : Bool} {k : List Nat → List Nat → Option Bool} (ru : Rp G.lvl s.heap Y u a) (rv : Rp G.lvl s.heap Y v b) (hr : ss u v k = some r) (h : ∀ x y t1 t2, k x y = some r → CmpK G op r' (.str ⟨x.toArray⟩ t1) (.str ⟨y.toArray⟩ t2) A s) : CmpK G op r' a b A s := by
  obtain ⟨x, y, e1, e2, e3⟩ := ss_of hr
  rw [e1] at ru
  rw [e2] at rv
  obtain ⟨t1, g1⟩ := ru.isStr
  obtain ⟨t2, g2⟩ := rv.isStr
  rw [g1, g2]
  exact h x y t1 t2 e3
theorem data_of (h : (okV 8 u && okV 8 v) = true) (ru : Rp G.lvl s.heap Y u a) (rv : Rp G.lvl s.heap Y v b) : (∃ as, Reads s.heap a (toPy u) as) ∧ (∃ bs, Reads s.heap b (toPy v) bs) ∧ SeqAt.shaped (toPy u) = true ∧ SeqAt.shaped (toPy v) = true ∧ PyData.eqv (toPy u) (toPy v) = veq u v := by
  obtain ⟨h1, h2⟩ := Bool.and_eq_true_iff.mp h
  have l1 := okV_lay 8 u h1
  have l2 := okV_lay 8 v h2
  refine ⟨ru.reads 8 h1, rv.reads 8 h2, ?_, ?_, veq_py 8 8 u v h1 h2⟩
  · unfold SeqAt.shaped; rw [l1.1, Bool.true_and]; exact decide_eq_true (Nat.le_trans l1.2 (by decide))
  · unfold SeqAt.shaped; rw [l2.1, Bool.true_and]; exact decide_eq_true (Nat.le_trans l2.2 (by decide))
theorem veqT_eq (h : veqT u v = some r) (hu : A.units + 64 < cLine) (ru : Rp G.lvl s.heap Y u a) (rv : Rp G.lvl s.heap Y v b) : CmpK G .Eq r a b A s := by
  rcases orO_of h with h | h
  · exact cmp_ss ru rv h fun x y t1 t2 e Q E kk => PyProof.Rows.eq_str (by rw [arr_beq, Option.some.inj e]; exact kk s.toks)
  rcases orO_of h with h | h
  · exact cmp_ii ru rv h fun x y t1 t2 e Q E kk => eq_int (by rw [Option.some.inj e]; exact kk s.toks)
  · obtain ⟨h1, h2⟩ := if_of h
    obtain ⟨⟨as, ra⟩, ⟨bs, rb⟩, s1, s2, e⟩ := data_of h1 ru rv
    intro Q E kk
    exact eq_dataH ra rb s1 s2 hu (by rw [e, ← h2]; exact kk s.toks)
theorem veqT_ne (h : veqT u v = some r) (hu : A.units + 64 < cLine) (ru : Rp G.lvl s.heap Y u a) (rv : Rp G.lvl s.heap Y v b) : CmpK G .NotEq (!r) a b A s := by
  rcases orO_of h with h | h
  · exact cmp_ss ru rv h fun x y t1 t2 e Q E kk => PyProof.Rows.ne_str (by rw [bne, arr_beq, Option.some.inj e]; exact kk s.toks)
  rcases orO_of h with h | h
  · exact cmp_ii ru rv h fun x y t1 t2 e Q E kk => ne_int (by rw [bne, Option.some.inj e]; exact kk s.toks)
  · obtain ⟨h1, h2⟩ := if_of h
    obtain ⟨⟨as, ra⟩, ⟨bs, rb⟩, s1, s2, e⟩ := data_of h1 ru rv
    intro Q E kk
    exact ne_dataH ra rb s1 s2 hu (by rw [e, ← h2]; exact kk s.toks)
theorem isnot_core (hr : (if isNone v = true then some (!isNone u) else none) = some r) (ru : Rp G.lvl s.heap Y u a) (rv : Rp G.lvl s.heap Y v b) : CmpK G .IsNot r a b A s := by
  obtain ⟨h1, h2⟩ := if_of hr
  have e : v = .none := by cases v <;> first | rfl | cases h1
  rw [e] at rv
  rw [rv.isNn, h2]
  intro Q E kk
  rcases ru.isNon with ⟨q1, q2⟩ | ⟨q1, q2⟩
  · rw [q1] at kk
    rw [q2]
    exact isnot_none_gen (kk s.toks)
  · have e2 : isNone u = false := by cases u <;> first | rfl | exact absurd rfl q1
    rw [e2] at kk
    exact isnot_none_gen (by rw [show (a == Value.none) = false from by simpa using q2]; exact kk s.toks)
theorem in_core (hr : opIn false u v = some r) (ru : Rp G.lvl s.heap Y u a) (rv : Rp G.lvl s.heap Y v b) : CmpK G .In r a b A s := by
  obtain ⟨x, e1, hr⟩ := onS_of hr
  rw [e1] at ru
  obtain ⟨t1, g1⟩ := ru.isStr
  rw [g1]
  intro Q E kk
  rcases orO_of hr with hr | hr
  · obtain ⟨y, e2, e3⟩ := onS_of hr
    rw [e2] at rv
    obtain ⟨t2, g2⟩ := rv.isStr
    rw [g2]
    rw [← Option.some.inj e3] at kk
    exact PyProof.Rows.in_str (by simpa [Str.length, ng] using kk s.toks)
  · obtain ⟨l, e2, e3⟩ := onT_of hr
    obtain ⟨ss, h1, e4⟩ := Option.map_eq_some_iff.mp e3
    rw [e2] at rv
    obtain ⟨c, us, g2, ha, hl⟩ := rv.isTup
    rw [g2]
    rw [← e4] at kk
    exact in_tuple_strs ha (by simpa using isStrs_are hl h1) (by rw [any_contains]; exact kk s.toks)
theorem notin_core (hr : opIn true u v = some r) (ru : Rp G.lvl s.heap Y u a) (rv : Rp G.lvl s.heap Y v b) : CmpK G .NotIn r a b A s := by
  obtain ⟨x, e1, hr⟩ := onS_of hr
  rw [e1] at ru
  obtain ⟨t1, g1⟩ := ru.isStr
  rw [g1]
  intro Q E kk
  rcases orO_of hr with hr | hr
  · obtain ⟨y, e2, e3⟩ := onS_of hr
    rw [e2] at rv
    obtain ⟨t2, g2⟩ := rv.isStr
    rw [g2]
    rw [← Option.some.inj e3] at kk
    exact PyProof.Rows.notIn_str (by simpa [Str.length, ng] using kk s.toks)
  · obtain ⟨l, e2, e3⟩ := onT_of hr
    obtain ⟨ss, h1, e4⟩ := Option.map_eq_some_iff.mp e3
    rw [e2] at rv
    obtain ⟨c, us, g2, ha, hl⟩ := rv.isTup
    rw [g2]
    rw [← e4] at kk
    exact notin_tuple_strs ha (by simpa using isStrs_are hl h1) (by rw [any_contains]; exact kk s.toks)
theorem in2_core (hr : opIn2 u v = some r) (hp : G.lvl.pr = G.w.params) (ru : Rp G.lvl s.heap Y u a) (rv : Rp G.lvl s.heap Y v b) : CmpK G .In r a b A s := by
  obtain ⟨xs, e1, hr⟩ := onS_of hr
  rw [e1] at ru
  obtain ⟨t1, g1⟩ := ru.isStr
  rw [g1]
  intro Q E kk
  rcases orO_of hr with hr | hr
  · obtain ⟨l, e2, e3⟩ := onL_of hr
    obtain ⟨ss, h1, e4⟩ := Option.map_eq_some_iff.mp e3
    rw [e2] at rv
    obtain ⟨c, us, g2, ha, hl⟩ := rv.isLst
    rw [g2]
    rw [← e4] at kk
    exact in_list_strs ha (isStrs_are hl h1) (by rw [any_contains]; exact kk s.toks)
  · obtain ⟨l, e2, e3⟩ := onB_of hr
    rw [e2] at rv
    obtain ⟨d, es, g2, ⟨nn, hd⟩, ht, hk, hs⟩ := rv.isTab
    rw [g2]
    rw [← Option.some.inj e3, any_lookup] at kk
    have hm : s.heap.MapOf (strKind G.prog G.w) d (fun k => findBy Value.isStrOf es.toArray k) :=
        mapOf_K (K := [(d, dictOf es nn)]) (fun b o e => by
          simp only [List.lookup_cons, List.lookup_nil] at e
          split at e
          · rename_i q; cases e; rw [beq_iff_eq.mp q]; exact hd
          · cases e) (by simp [List.lookup_cons]; rfl) (by rw [← hp]; simpa using hk)
    refine wpAny_in_of (strKind_is G.prog G.w _ _) hs hm ?_
    have q := tab_find xs ht
    cases e : l.lookup xs with
    | some i => rw [e] at q; obtain ⟨u, q⟩ := q; rw [q]; rw [e] at kk; exact kk _
    | none => rw [e] at q; dsimp only at q ⊢; rw [q]; rw [e] at kk; exact kk _
theorem cmp_core (hr : opCmp op u v = some r) (hp : G.lvl.pr = G.w.params) (hu : A.units + 64 < cLine) (ru : Rp G.lvl s.heap Y u a) (rv : Rp G.lvl s.heap Y v b) : CmpK G op r a b A s := by
  cases op with
  | Lt => exact (orO_of hr).elim (fun hr => cmp_ii ru rv hr fun x y t1 t2 e Q E kk => lt_int (by rw [Option.some.inj e]; exact kk s.toks)) fun hr => cmp_ss ru rv hr fun x y t1 t2 e Q E kk => PyProof.Rows.lt_str (by rw [← Option.some.inj e] at kk; exact kk s.toks)
  | LtE => exact (orO_of hr).elim (fun hr => cmp_ii ru rv hr fun x y t1 t2 e Q E kk => le_int (by rw [Option.some.inj e]; exact kk s.toks)) fun hr => cmp_ss ru rv hr fun x y t1 t2 e Q E kk => PySem.P.le_str (by rw [← Option.some.inj e] at kk; exact kk s.toks)
  | Gt => exact cmp_ii ru rv hr fun x y t1 t2 e Q E kk => gt_int (by rw [← Option.some.inj e] at kk; exact kk s.toks)
  | GtE => exact cmp_ii ru rv hr fun x y t1 t2 e Q E kk => ge_int (by rw [← Option.some.inj e] at kk; exact kk s.toks)
  | Eq => exact veqT_eq hr hu ru rv
  | NotEq =>
    obtain ⟨r', h1, h2⟩ := Option.map_eq_some_iff.mp hr
    rw [← h2]
    exact veqT_ne h1 hu ru rv
  | IsNot => exact isnot_core hr ru rv
  | In => exact (orO_of hr).elim (fun hr => in_core hr ru rv) fun hr => in2_core hr hp ru rv
  | NotIn => exact notin_core hr ru rv
  | _ => cases hr
end

theorem tr_cmp {op : CmpOp} {u v : V} {a b : Value} (hp : G.lvl.pr = G.w.params) : Tr G X n (v :: u :: ds) (b :: a :: vs) (compareOp op a b) (RV G) ρ σ (retO ρ σ ((opCmp op u v).map .bool)) := by
  refine tr_some fun r hr => ?_
  simp only [Option.map_eq_some_iff] at hr
  obtain ⟨r, hr, rfl⟩ := hr
  refine Tr.one fun A s Y Q E hA hD hR kk => ?_
  exact cmp_core hr hp (by have := hA.units; lia) hR.tail.head hR.head fun tk => kk tk _ (.bool r)
end
end Mine

end

section
set_option genInjectivity false
open PySem PySem.W PyProof.Rows
set_option maxRecDepth 100000
namespace Mine

noncomputable def plainArg : Expr → Bool
  | .Starred .. => false
  | .Slice .. => false
  | _ => true
noncomputable def plainArgs : List Expr → Bool
  | [] => true
  | e :: r => plainArg e && plainArgs r

theorem plain_sub {e : Expr} (h : plainArg e = true) (o i : Value) : subscripted e false o i = operate [o, i] (getItem o i) := by
  cases e <;> first | rfl | cases h

theorem star_plain {env : Env} {pos : Pos} : ∀ {es : List Expr}, plainArgs es = true → backTo pos (starEach es env) = es.map fun e => (false, eval e env)
  | [], _ => rfl
  | e :: r, h => by
    obtain ⟨h1, h2⟩ := Bool.and_eq_true_iff.mp h
    have ih := star_plain (env := env) (pos := pos) h2
    have q : starEach (e :: r) env = (false, eval e env) :: starEach r env := by cases e <;> first | rfl | cases h1
    rw [q]
    show (false, eval e env) :: backTo pos (starEach r env) = _
    rw [ih]; rfl
theorem any_plain {env : Env} : ∀ es : List Expr, (es.map fun e => (false, eval e env)).any (·.1) = false
  | [] => rfl
  | e :: r => by show (false || (r.map fun e => (false, eval e env)).any (·.1)) = false; rw [any_plain r]; rfl

theorem Rps.split {D : Dd} {h : Heap} {Y : Lay} {ds : List V} {vs : List Value} : ∀ {bs : List V} {as : List Value}, as.length = bs.length → Rps D h Y (bs ++ ds) (as ++ vs) → Rps D h Y bs as ∧ Rps D h Y ds vs
  | [], [], _, x => ⟨.nil, x⟩
  | [], _ :: _, e, _ => by cases e
  | _ :: _, [], e, _ => by cases e
  | b :: bs, a :: as, e, x => by
    have y := Rps.split (bs := bs) (as := as) (by simpa using e) x.tail
    exact ⟨.cons x.head y.1, y.2⟩

theorem wp_mapInv {α β : Type} {M : Model} {A : Around} {E : Value → Shared → Prop} {s : Shared} {m : Sem α} {g : α → β} {Q : β → Shared → Prop} (h : wpAny M A (m >>= fun x => pure (g x)) Q E s) : wpAny M A m (fun x s' => Q (g x) s') E s := fun Γ p hΓ => by
  have z := h Γ p hΓ
  rw [Sem.wp_bind'] at z
  simpa only [Sem.wp_pure'] using z
theorem wp_bindInv {α β : Type} {M : Model} {A : Around} {E : Value → Shared → Prop} {s : Shared} {m : Sem α} {f : α → Sem β} {Q : β → Shared → Prop} (h : wpAny M A (m >>= f) Q E s) (Γ : Ctx) (p : Pos) (hΓ : Γ.In A) : Sem.wp M Γ m (fun x p' s' => Sem.wp M Γ (f x) (fun a _ s' => Q a s') (fun e _ s' => E e s') p' s') (fun e _ s' => E e s') p s := by
  have z := h Γ p hΓ
  rwa [Sem.wp_bind'] at z

section
variable {G : Gx} {X : Fx} {n : Nat} {ds : List V} {vs : List Value} {ρ : Loc} {σ : Mem}

theorem tr_args_nil : Tr G X n ds vs (spliced []) (RVs G) ρ σ (some (.ok [], ρ, σ)) :=
  Tr.one fun A s Y Q E hA hD hR kk => Calls.spliced_nil (kk s.toks _ .nil)
theorem tr_args_cons {t : Sem Value} {r : List (Bool × Sem Value)} {o : Out V} {f : V → Loc → Mem → Out (List V)} (h1 : Tr G X n ds vs t (RV G) ρ σ o)
    (h2 : ∀ b ρ₁ σ₁ a, Tr G X n (b :: ds) (a :: vs) (spliced r) (RVs G) ρ₁ σ₁ (f b ρ₁ σ₁)) :
    Tr G X n ds vs (spliced ((false, t) :: r)) (RVs G) ρ σ (bindO o fun v ρ σ => bindO (f v ρ σ) fun vs ρ σ => some (.ok (v :: vs), ρ, σ)) := by
  refine Tr.seqV (k := fun v => spliced r >>= fun vs => pure (v :: vs)) (fun A Q E s _ h => Calls.spliced_cons (wpAny_mono h (fun v s' h' => ?_) fun _ _ e => e)) h1 fun b ρ₁ σ₁ a _ => ?_
  · exact wp_mapInv h'
  · refine Tr.seq (ds1 := fun bs => bs ++ b :: ds) (vs1 := fun as => as ++ a :: vs) (k := fun vs => pure (a :: vs)) (fun A Q E s _ h => wpAny_bind h) (h2 b ρ₁ σ₁ a) (fun _ _ _ _ x y => Rps.append y x) fun bs ρ₂ σ₂ as ⟨_, _, hl⟩ => ?_
    exact Tr.one fun A s Y Q E hA hD hR kk => wpAny_pure (kk s.toks _ (by
      obtain ⟨x, y⟩ := hR.split hl.length
      exact .cons y.head x))

theorem Dyn.push_list {h : Heap} {Y : Lay} {l : List V} {us : List Value} (d : Dyn G X h Y ρ σ) (hr : Rps G.lvl h Y l us) (hb : G.base.get? h.objs.size = none) :
    Step X.L h Y (h.push (listOf us.toArray 0)) ⟨Y.mu ++ [h.objs.size], Y.fr, Y.no⟩ ∧ Dyn G X (h.push (listOf us.toArray 0)) ⟨Y.mu ++ [h.objs.size], Y.fr, Y.no⟩ ρ (σ ++ [.list l]) ∧ (Y.mu ++ [h.objs.size])[σ.length]? = some h.objs.size := by
  have kp : Keeps h (h.push (listOf us.toArray 0)) := fun b o e => Heap.get?_push_of_some _ e
  have d' := d.of_keeps kp
  have fresh : h.get? h.objs.size = none := Heap.get?_none_of_le (Nat.le_refl _)
  have st : Step X.L h Y (h.push (listOf us.toArray 0)) ⟨Y.mu ++ [h.objs.size], Y.fr, Y.no⟩ := by
    refine ⟨fun i a e => ?_, rfl, rfl, fun b o e => ⟨o, kp b o e⟩, fun a hm hn => ?_, fun b o e _ _ => kp b o e, fun b o e _ _ => ⟨o.slots, kp b o e⟩⟩
    · show (Y.mu ++ [h.objs.size])[i]? = some a
      rw [List.getElem?_append_left (List.getElem?_eq_some_iff.mp e).1]; exact e
    · rcases List.mem_append.mp hm with q | q
      · exact absurd q hn
      · rw [List.mem_singleton.mp q]; exact fresh
  have m := st.moves d
  have hlen : (Y.mu ++ [h.objs.size])[σ.length]? = some h.objs.size := by rw [← d.mem.len]; simp
  refine ⟨st, ⟨d'.stays, d'.funs, d'.fr, d'.frs, ⟨?_, ?_, ?_, ?_, ?_⟩, d'.no, ?_⟩, hlen⟩
  · show (Y.mu ++ [h.objs.size]).length = (σ ++ [Cell.list l]).length
    rw [List.length_append, List.length_append, d.mem.len]; rfl
  · show (Y.mu ++ [h.objs.size]).Nodup
    rw [List.nodup_append]
    refine ⟨d.mem.nodup, by simp, fun a ha b hb e => ?_⟩
    rw [List.mem_singleton.mp hb] at e
    exact d.new_mu.1 (e ▸ ha)
  · intro a ha
    rcases List.mem_append.mp ha with q | q
    · exact d.mem.new a q
    · rw [List.mem_singleton.mp q]; exact hb
  · intro a ha
    rcases List.mem_append.mp ha with q | q
    · exact d.mem.apart a q
    · rw [List.mem_singleton.mp q]; exact d.new_fr
  · intro i a c hi hc
    change (Y.mu ++ [h.objs.size])[i]? = some a at hi
    by_cases hlt : i < Y.mu.length
    · rw [List.getElem?_append_left hlt] at hi
      rw [List.getElem?_append_left (by rw [← d.mem.len]; exact hlt)] at hc
      exact (d.mem.cell i a c hi hc).mono m fun o e => kp a o e
    · have hi' := (List.getElem?_eq_some_iff.mp hi).1
      rw [List.length_append] at hi'
      have e : i = Y.mu.length := by simp at hi'; lia
      subst e
      rw [List.getElem?_append_right (Nat.le_refl _), Nat.sub_self] at hi
      rw [d.mem.len, List.getElem?_append_right (Nat.le_refl _), Nat.sub_self] at hc
      cases hi; cases hc
      exact ⟨us, 0, Heap.get?_push_size _ rfl, hr.mono m⟩
  · obtain ⟨mm, hm, hl⟩ := d.loc
    refine ⟨mm, hm.keeps kp, fun i v e => ?_⟩
    obtain ⟨x, u, e1, e2, r⟩ := hl i v e
    exact ⟨x, u, e1, e2, r.mono m⟩

theorem Dyn.fresh_base {h : Heap} {Y : Lay} (d : Dyn G X h Y ρ σ) : G.base.get? h.objs.size = none := d.stays.fresh

theorem tr_tuple {elts : List Expr} {k : Nat} {pos : Pos} {o : Out (List V)} (h : Tr G X n ds vs (spliced (backTo pos (starEach elts X.env))) (RVs G) ρ σ o) :
    Tr G X n ds vs (eval (.Tuple elts k pos) X.env) (RV G) ρ σ (bindO o fun vs ρ σ => if vs.length ≤ 1000 then some (.ok (.tup vs), ρ, σ) else none) := by
  refine Tr.seq (ds1 := fun bs => bs ++ ds) (vs1 := fun as => as ++ vs) (k := fun as => newTuple as) (fun A Q E s _ h => Tuple_ h) h (fun _ _ _ _ x y => Rps.append y x) fun bs ρ₂ σ₂ as ⟨_, _, hl⟩ => ?_
  split
  · rename_i hz
    refine Tr.grow fun A s Y Q E hA hD hR kk => ?_
    obtain ⟨x, _⟩ := hR.split hl.length
    have kp : Keeps s.heap (s.heap.push { cls := .type "tuple", data := .seq as.toArray }) := fun b o e => Heap.get?_push_of_some _ e
    refine wpAny_newObj_type (kk _ s.toks _ kp (.tup ⟨_, Heap.get?_push_size _ rfl, rfl, 0, rfl⟩ (x.mono ((Step.of_keeps (L := X.L) kp).moves hD)))) ?_
    show as.toArray.size ≤ sizeLine
    rw [List.size_toArray, hl.length, sizeLine_eq]; lia
  · trivial
theorem tr_listF {elts : List Expr} {pos : Pos} {o : Out (List V)} (h : Tr G X n ds vs (spliced (backTo pos (starEach elts X.env))) (RVs G) ρ σ o) :
    Tr G X n ds vs (eval (.List elts pos) X.env) (RV G) ρ σ (bindO o fun vs ρ σ => if vs.length ≤ 1000 then some (.ok (.lst vs), ρ, σ) else none) := by
  refine Tr.seq (ds1 := fun bs => bs ++ ds) (vs1 := fun as => as ++ vs) (k := fun as => newList as) (fun A Q E s _ h => List_ h) h (fun _ _ _ _ x y => Rps.append y x) fun bs ρ₂ σ₂ as ⟨_, _, hl⟩ => ?_
  split
  · rename_i hz
    refine Tr.grow fun A s Y Q E hA hD hR kk => ?_
    obtain ⟨x, _⟩ := hR.split hl.length
    have kp : Keeps s.heap (s.heap.push { cls := .type "list", data := .seq as.toArray }) := fun b o e => Heap.get?_push_of_some _ e
    refine wpAny_newObj_type (kk _ s.toks _ kp (.lst ⟨_, Heap.get?_push_size _ rfl, rfl, 0, rfl⟩ hD.new_mu (x.mono ((Step.of_keeps (L := X.L) kp).moves hD)))) ?_
    show as.toArray.size ≤ sizeLine
    rw [List.size_toArray, hl.length, sizeLine_eq]; lia
  · trivial
theorem tr_listM {elts : List Expr} {pos : Pos} {o : Out (List V)} (h : Tr G X n ds vs (spliced (backTo pos (starEach elts X.env))) (RVs G) ρ σ o) :
    Tr G X n ds vs (eval (.List elts pos) X.env) (RV G) ρ σ (bindO o fun vs ρ σ => if vs.length ≤ 1000 then some (.ok (.ref σ.length), ρ, σ ++ [.list vs]) else none) := by
  refine Tr.seq (ds1 := fun bs => bs ++ ds) (vs1 := fun as => as ++ vs) (k := fun as => newList as) (fun A Q E s _ h => List_ h) h (fun _ _ _ _ x y => Rps.append y x) fun bs ρ₂ σ₂ as ⟨_, _, hl⟩ => ?_
  split
  · rename_i hz
    intro A s Y Q E hA hD hR kk
    obtain ⟨x, _⟩ := hR.split hl.length
    obtain ⟨st, d', hi⟩ := hD.push_list x hD.fresh_base
    refine wpAny_newObj_type ((kk _ s.toks _ st d').1 _ rfl _ (.ref hi)) ?_
    show as.toArray.size ≤ sizeLine
    rw [List.size_toArray, hl.length, sizeLine_eq]; lia
  · trivial

theorem seqIndex_nonneg {k : Int} {n : Nat} (h0 : 0 ≤ k) (h1 : k.toNat < n) : seqIndex? k n = some k.toNat := by
  unfold seqIndex?
  have : ¬ k < 0 := by lia
  simp only [this, if_false]
  rw [if_pos (by simp; lia)]
theorem seqIndex_last {n : Nat} (h : 0 < n) : seqIndex? (-1) n = some (n - 1) := by
  unfold seqIndex?
  simp only [show (-1 : Int) < 0 by lia, if_true]
  rw [if_pos (by simp; lia)]
  congr 1; lia

theorem atList_of {h : Heap} {Y : Lay} {l : List V} {us : List Value} (hr : Rps G.lvl h Y l us) {k : Int} {v : V} (e : atList l k = some v) : -(2 ^ 63) ≤ k ∧ k < 2 ^ 63 ∧ ∃ j u, seqIndex? k us.length = some j ∧ us[j]? = some u ∧ Rp G.lvl h Y v u := by
  unfold atList at e
  split at e
  · rename_i h0
    split at e
    · rename_i h1
      obtain ⟨u, hu, r⟩ := hr.get e
      exact ⟨by lia, by lia, k.toNat, u, seqIndex_nonneg h0 (List.getElem?_eq_some_iff.mp hu).1, hu, r⟩
    · cases e
  · split at e
    · rename_i h1
      subst h1
      rw [List.getLast?_eq_getElem?] at e
      obtain ⟨u, hu, r⟩ := hr.get e
      have hlt := (List.getElem?_eq_some_iff.mp e).1
      refine ⟨by lia, by lia, us.length - 1, u, seqIndex_last (by rw [hr.length]; lia), by rw [hr.length]; exact hu, r⟩
    · cases e

theorem getItem_list_neg {prog : Program} {w : World} {A : Around} {s : Shared} {l : Addr} {items : Array Value} {k : Int} {t : Tok} {j : Nat} {x : Value} {Q : Value → Shared → Prop} {E : Value → Shared → Prop} (hl : s.heap.IsList l items)
    (hn : k < 0) (hfit : Builtin.List.listFitsIndex k = true) (hj : seqIndex? k items.size = some j) (hx : items[j]? = some x) (h : Q x s) : wpAny (model prog w) A (getItem (.ref l) (.int k t)) Q E s := by
  obtain ⟨o, ho, hc, ne, hd⟩ := id hl
  unfold getItem
  try with_reducible refine wpAny_holding ?_
  first | refine wpAny_bind (wpAny_pure ?_) | skip
  refine wpAny_bind (wpAny_sequenceKey hl.typeIs (by decide) ?_)
  refine wpAny_bind (wpAny_callSpecial?_slot (name := Str.ofString "__getitem__") hl.typeIs slot_list_getitem
    (wpAny_call_entry slot_list_getitem hl.typeIs entry_list_getitem ?_ (args_list_getitem _ _)))
  show wpAny _ _ (Builtin.List.listSubscript? (.int k t) >>= _) _ _ s
  refine wpAny_bind (wpAny_listSubscript_int hfit ?_)
  clear hfit
  obtain ⟨m, rfl⟩ : ∃ m, k = Int.negSucc m := ⟨(-k - 1).toNat, by lia⟩
  show wpAny _ _ ((Builtin.List.listItems (.ref l) >>= fun xs => pure ((seqIndex? (Int.negSucc m) xs.size).bind fun j => xs[j]?.map (j, ·))) >>= _) _ _ s
  unfold Builtin.List.listItems
  refine wpAny_bind (wpAny_bind (wpAny_bind (wpAny_seqItems ho hd (wpAny_pure (wpAny_pure ?_)))))
  rw [hj]
  show wpAny _ _ (match (items[j]?).map (j, ·) with | some (_, x) => _ | none => _) _ _ s
  rw [hx]
  first
    | exact wpAny_bind (wpAny_pure (wpAny_pure ⟨x, rfl, wpAny_pure h⟩))
    | exact wpAny_pure ⟨x, rfl, wpAny_pure h⟩

theorem getItem_list_at {prog : Program} {w : World} {A : Around} {s : Shared} {a : Addr} {us : List Value} {k : Int} {t : Tok} {j : Nat} {u : Value} {Q : Value → Shared → Prop} {E : Value → Shared → Prop}
    (ha : s.heap.IsList a us.toArray) (h1 : -(2 ^ 63) ≤ k) (h2 : k < 2 ^ 63) (hj : seqIndex? k us.length = some j) (hu : us[j]? = some u) (h : Q u s) : wpAny (model prog w) A (getItem (.ref a) (.int k t)) Q E s := by
  by_cases h0 : 0 ≤ k
  · have e : j = k.toNat := by
      unfold seqIndex? at hj
      have : ¬ k < 0 := by lia
      simp only [this, if_false] at hj
      split at hj
      · exact (Option.some.inj hj).symm
      · cases hj
    subst e
    exact wpAny_getItem_list ha h0 h2 (by simpa using hu) h
  · exact getItem_list_neg ha (by lia) (by unfold Builtin.List.listFitsIndex; simp only [Bool.and_eq_true, decide_eq_true_eq]; lia) (by simpa using hj) (by simpa using hu) h
end
end Mine

end

section
set_option genInjectivity false
open PySem PySem.W PyProof.Rows
set_option maxRecDepth 100000
namespace Mine

noncomputable def notSet : Expr → Bool
  | .Set .. => false
  | _ => true
theorem notSet_marks {op : CmpOp} {e : Expr} (h : notSet e = true) : behindInMarks op e = false := by cases e <;> first | rfl | cases h

theorem map_of {prog : Program} {w : World} {h : Heap} {d : Addr} {es : List DictEntry} {n : Nat} (hd : h.get? d = some (dictOf es n)) (hk : KeysLit w.params es) : h.MapOf (strKind prog w) d (fun k => findBy Value.isStrOf es.toArray k) :=
  mapOf_K (K := [(d, dictOf es n)]) (fun b o e => by
    simp only [List.lookup_cons, List.lookup_nil] at e
    split at e
    · rename_i q; cases e; rw [beq_iff_eq.mp q]; exact hd
    · cases e) (by simp; rfl) (by simpa using hk)
section
variable {G : Gx} {X : Fx} {n : Nat} {ds : List V} {vs : List Value} {ρ : Loc} {σ : Mem}

theorem truthy_core {v : V} {r : Bool} {A : Around} {s : Shared} {Y : Lay} {a : Value} (hr : truthyV v = some r) (rv : Rp G.lvl s.heap Y v a) {Q : Bool → Shared → Prop} {E : Value → Shared → Prop}
    (kk : ∀ tk, Q r { s with toks := tk }) : wpAny (model G.prog G.w) A (truthy a) Q E s := by
  cases rv with
  | none => cases hr; exact truthy_none (kk s.toks)
  | bool b => cases hr; exact wpAny_truthy_bool (kk s.toks)
  | int i t => cases hr; exact truthy_int (kk s.toks)
  | _ => cases hr

theorem tr_truthy {v : V} {a : Value} : Tr G X n (v :: ds) (a :: vs) (truthy a) RB ρ σ (retO ρ σ (truthyV v)) := by
  refine tr_some fun r hr => ?_
  refine Tr.one fun A s Y Q E hA hD hR kk => ?_
  exact truthy_core hr hR.head fun tk => kk tk _ rfl

theorem tr_Compare1 {l r : Expr} {op : CmpOp} {pos : Pos} {o : Out V} {f : Loc → Mem → Out V} (hp : G.lvl.pr = G.w.params) (hm : notSet r = true)
    (h1 : Tr G X n ds vs (eval l X.env) (RV G) ρ σ o) (h2 : ∀ ds vs ρ σ, Tr G X n ds vs (eval r X.env) (RV G) ρ σ (f ρ σ)) :
    Tr G X n ds vs (eval (.Compare l [op] [r] pos) X.env) (RV G) ρ σ (bindO o fun u ρ σ => bindO (f ρ σ) fun v ρ σ => retO ρ σ ((opCmp op u v).map .bool)) :=
  (TrW.bindV h1 fun b ρ₁ σ₁ a _ => TrW.bindV (h2 (b :: ds) (a :: vs) ρ₁ σ₁) fun c ρ₂ σ₂ d _ => tr_cmp (op := op) hp).into fun A Q E s _ h => wpAny_Compare1 h (notSet_marks hm)

theorem tr_testCompare1 {l r : Expr} {op : CmpOp} {pos : Pos} {w : Sem Value} {o : Out V} {f : Loc → Mem → Out V} (hp : G.lvl.pr = G.w.params) (hm : notSet r = true)
    (h1 : Tr G X n ds vs (eval l X.env) (RV G) ρ σ o) (h2 : ∀ ds vs ρ σ, Tr G X n ds vs (eval r X.env) (RV G) ρ σ (f ρ σ)) :
    Tr G X n ds vs (isTrue (.Compare l [op] [r] pos) X.env w) RB ρ σ (bindO o fun u ρ σ => bindO (f ρ σ) fun v ρ σ => retO ρ σ (opCmp op u v)) := by
  refine (TrW.bindV (K := fun a => fun A Q E s => wpAny (model G.prog G.w) A (eval r X.env) (fun b s₂ => wpAny (model G.prog G.w) A (compareOp op a b) (fun c s₃ => wpAny (model G.prog G.w) A (truthy c) Q E s₃) E s₂) E s) h1 fun b ρ₁ σ₁ a _ => TrW.bindV (K := fun d => fun A Q E s => wpAny (model G.prog G.w) A (compareOp op a d) (fun c s₃ => wpAny (model G.prog G.w) A (truthy c) Q E s₃) E s) (h2 (b :: ds) (a :: vs) ρ₁ σ₁) fun c ρ₂ σ₂ d _ => ?_).into fun A Q E s _ h => wpAny_isTrue_Compare1 h (notSet_marks hm)
  cases q : opCmp op b c with
  | none => trivial
  | some r' =>
    refine TrW.one fun A s Y Q E hA hD hR kk => ?_
    exact cmp_core q hp (by have := hA.units; lia) hR.tail.head hR.head fun tk => wpAny_truthy_bool (kk tk _ rfl)

noncomputable abbrev tw {α : Type} (G : Gx) (t : Sem α) : PT α := tree G t

theorem tr_and {e₁ e₂ : Expr} {rest : List Expr} {pos : Pos} {o : Out V} {g : Loc → Mem → Out V} (h1 : Tr G X n ds vs (eval e₁ X.env) (RV G) ρ σ o)
    (h2 : ∀ ds vs ρ σ, Tr G X n ds vs (eval (.BoolOp .And (e₂ :: rest) pos) X.env) (RV G) ρ σ (g ρ σ)) :
    Tr G X n ds vs (eval (.BoolOp .And (e₁ :: e₂ :: rest) pos) X.env) (RV G) ρ σ (bindO o fun v ρ σ => match truthyV v with | some true => g ρ σ | some false => some (.ok v, ρ, σ) | none => none) := by
  refine (TrW.bindV (K := fun a => fun A Q E s => wpAny (model G.prog G.w) A (truthy a) (fun c s₂ => if c then wpAny (model G.prog G.w) A (eval (.BoolOp .And (e₂ :: rest) pos) X.env) Q E s₂ else Q a s₂) E s) h1 fun b ρ₁ σ₁ a _ => ?_).into fun A Q E s _ h => BoolOp_and h
  cases q : truthyV b with
  | none => trivial
  | some r =>
    cases r with
    | false =>
      refine TrW.one fun A s Y Q E hA hD hR kk => ?_
      exact truthy_core q hR.head fun tk => kk tk _ hR.head
    | true =>
      refine (h2 (b :: ds) (a :: vs) ρ₁ σ₁).pre fun A s Y Q E hA hD hR kk => ?_
      exact truthy_core q hR.head fun tk => kk tk

theorem tr_or {e₁ e₂ : Expr} {rest : List Expr} {pos : Pos} {o : Out V} {g : Loc → Mem → Out V} (h1 : Tr G X n ds vs (eval e₁ X.env) (RV G) ρ σ o)
    (h2 : ∀ ds vs ρ σ, Tr G X n ds vs (eval (.BoolOp .Or (e₂ :: rest) pos) X.env) (RV G) ρ σ (g ρ σ)) :
    Tr G X n ds vs (eval (.BoolOp .Or (e₁ :: e₂ :: rest) pos) X.env) (RV G) ρ σ (bindO o fun v ρ σ => match truthyV v with | some false => g ρ σ | some true => some (.ok v, ρ, σ) | none => none) := by
  refine (TrW.bindV (K := fun a => fun A Q E s => wpAny (model G.prog G.w) A (truthy a) (fun c s₂ => if c then Q a s₂ else wpAny (model G.prog G.w) A (eval (.BoolOp .Or (e₂ :: rest) pos) X.env) Q E s₂) E s) h1 fun b ρ₁ σ₁ a _ => ?_).into fun A Q E s _ h => BoolOp_or h
  cases q : truthyV b with
  | none => trivial
  | some r =>
    cases r with
    | true =>
      refine TrW.one fun A s Y Q E hA hD hR kk => ?_
      exact truthy_core q hR.head fun tk => kk tk _ hR.head
    | false =>
      refine (h2 (b :: ds) (a :: vs) ρ₁ σ₁).pre fun A s Y Q E hA hD hR kk => ?_
      exact truthy_core q hR.head fun tk => kk tk

theorem tr_isAnd {e₁ : Expr} {rest : List Expr} {pos : Pos} {w : Sem Value} {o : Out Bool} {g : Loc → Mem → Out Bool} (h1 : Tr G X n ds vs (isTrue e₁ X.env (eval e₁ X.env)) RB ρ σ o)
    (h2 : ∀ ρ σ, Tr G X n ds vs (isTrue (.BoolOp .And rest pos) X.env w) RB ρ σ (g ρ σ)) :
    Tr G X n ds vs (isTrue (.BoolOp .And (e₁ :: rest) pos) X.env w) RB ρ σ (bindO o fun b ρ σ => if b then g ρ σ else some (.ok false, ρ, σ)) := by
  refine (TrW.bindB (K := fun c => fun A Q E s => if c then wpAny (model G.prog G.w) A (isTrue (.BoolOp .And rest pos) X.env w) Q E s else Q false s) h1 fun b ρ₁ σ₁ => ?_).into fun A Q E s _ h => isTrue_and h
  cases b with
  | false => exact TrW.one fun A s Y Q E hA hD hR kk => kk s.toks _ rfl
  | true => exact h2 _ _
theorem tr_isOr {e₁ : Expr} {rest : List Expr} {pos : Pos} {w : Sem Value} {o : Out Bool} {g : Loc → Mem → Out Bool} (h1 : Tr G X n ds vs (isTrue e₁ X.env (eval e₁ X.env)) RB ρ σ o)
    (h2 : ∀ ρ σ, Tr G X n ds vs (isTrue (.BoolOp .Or rest pos) X.env w) RB ρ σ (g ρ σ)) :
    Tr G X n ds vs (isTrue (.BoolOp .Or (e₁ :: rest) pos) X.env w) RB ρ σ (bindO o fun b ρ σ => if b then some (.ok true, ρ, σ) else g ρ σ) := by
  refine (TrW.bindB (K := fun c => fun A Q E s => if c then Q true s else wpAny (model G.prog G.w) A (isTrue (.BoolOp .Or rest pos) X.env w) Q E s) h1 fun b ρ₁ σ₁ => ?_).into fun A Q E s _ h => isTrue_or h
  cases b with
  | true => exact TrW.one fun A s Y Q E hA hD hR kk => kk s.toks _ rfl
  | false => exact h2 _ _
theorem tr_isAndNil {pos : Pos} {w : Sem Value} : Tr G X n ds vs (isTrue (.BoolOp .And [] pos) X.env w) RB ρ σ (some (.ok true, ρ, σ)) :=
  TrW.one fun A s Y Q E hA hD hR kk => isTrue_and_nil (kk s.toks _ rfl)
theorem tr_isOrNil {pos : Pos} {w : Sem Value} : Tr G X n ds vs (isTrue (.BoolOp .Or [] pos) X.env w) RB ρ σ (some (.ok false, ρ, σ)) :=
  TrW.one fun A s Y Q E hA hD hR kk => isTrue_or_nil (kk s.toks _ rfl)

theorem tr_isPlain {e : Expr} {o : Out V} (he : ∀ w, isTrue e X.env w = (do let v ← w; standAt e.pos; holding [v] (truthy v))) (h : Tr G X n ds vs (eval e X.env) (RV G) ρ σ o) :
    Tr G X n ds vs (isTrue e X.env (eval e X.env)) RB ρ σ (bindO o fun v ρ σ => retO ρ σ (truthyV v)) :=
  (TrW.bindV (K := fun a => tree G (truthy a)) h fun b ρ₁ σ₁ a _ => tr_truthy).into fun A Q E s _ h => isTrue_plain h (he _)

theorem tr_Compare2 {l r₁ r₂ : Expr} {op₁ op₂ : CmpOp} {pos : Pos} {o : Out V} {f g : Loc → Mem → Out V} (hp : G.lvl.pr = G.w.params) (hm : notSet r₂ = true)
    (h1 : Tr G X n ds vs (eval l X.env) (RV G) ρ σ o) (h2 : ∀ ds vs ρ σ, Tr G X n ds vs (eval r₁ X.env) (RV G) ρ σ (f ρ σ)) (h3 : ∀ ds vs ρ σ, Tr G X n ds vs (eval r₂ X.env) (RV G) ρ σ (g ρ σ)) :
    Tr G X n ds vs (eval (.Compare l [op₁, op₂] [r₁, r₂] pos) X.env) (RV G) ρ σ (bindO o fun u ρ σ => bindO (f ρ σ) fun v ρ σ => match opCmp op₁ u v with
      | some true => bindO (g ρ σ) fun x ρ σ => retO ρ σ ((opCmp op₂ v x).map .bool)
      | some false => some (.ok (.bool false), ρ, σ)
      | none => none) := by
  have hm' : lastMarks [op₁, op₂] [r₁, r₂] = false := notSet_marks hm
  refine (TrW.bindV (K := fun a => fun A Q E s => wpAny (model G.prog G.w) A (eval r₁ X.env) (fun b s₁ => wpAny (model G.prog G.w) A (compareOp op₁ a b) (fun c s₂ => wpAny (model G.prog G.w) A (truthy c)
      (fun t s₃ => if t then wpAny (model G.prog G.w) A (eval r₂ X.env) (fun d s₄ => wpAny (model G.prog G.w) A (compareOp op₂ b d) Q E s₄) E s₃ else Q c s₃) E s₂) E s₁) E s) h1 fun b ρ₁ σ₁ a _ =>
    TrW.bindV (K := fun b' => fun A Q E s => wpAny (model G.prog G.w) A (compareOp op₁ a b') (fun c s₂ => wpAny (model G.prog G.w) A (truthy c)
      (fun t s₃ => if t then wpAny (model G.prog G.w) A (eval r₂ X.env) (fun d s₄ => wpAny (model G.prog G.w) A (compareOp op₂ b' d) Q E s₄) E s₃ else Q c s₃) E s₂) E s) (h2 (b :: ds) (a :: vs) ρ₁ σ₁) fun c ρ₂ σ₂ d _ => ?_).into
    fun A Q E s _ h => Compare_chain (rs := []) (wpAny_mono h (fun a s₁ h₁ => chain_link (wpAny_mono h₁ (fun b s₂ h₂ => wpAny_mono h₂ (fun c s₃ h₃ => wpAny_mono h₃ (fun t s₄ h₄ => by
      cases t with
      | false => exact h₄
      | true => exact chain_last h₄) fun _ _ e => e) fun _ _ e => e) fun _ _ e => e)) fun _ _ e => e) hm'
  cases q : opCmp op₁ b c with
  | none => trivial
  | some t =>
    cases t with
    | false =>
      refine TrW.one fun A s Y Q E hA hD hR kk => ?_
      exact cmp_core q hp (by have := hA.units; lia) hR.tail.head hR.head fun tk => wpAny_truthy_bool (kk tk _ (.bool false))
    | true =>
      refine (TrW.bindV (K := fun e => tree G (compareOp op₂ d e)) (h3 (c :: b :: ds) (d :: a :: vs) ρ₂ σ₂) fun x ρ₃ σ₃ y _ => (tr_cmp (op := op₂) hp (ds := b :: ds) (vs := a :: vs))).pre fun A s Y Q E hA hD hR kk => ?_
      exact cmp_core q hp (by have := hA.units; lia) hR.tail.head hR.head fun tk => wpAny_truthy_bool (kk tk)

theorem tr_testCompare2 {l r₁ r₂ : Expr} {op₁ op₂ : CmpOp} {pos : Pos} {w : Sem Value} {o : Out V} {f g : Loc → Mem → Out V} (hp : G.lvl.pr = G.w.params) (hm : notSet r₂ = true)
    (h1 : Tr G X n ds vs (eval l X.env) (RV G) ρ σ o) (h2 : ∀ ds vs ρ σ, Tr G X n ds vs (eval r₁ X.env) (RV G) ρ σ (f ρ σ)) (h3 : ∀ ds vs ρ σ, Tr G X n ds vs (eval r₂ X.env) (RV G) ρ σ (g ρ σ)) :
    Tr G X n ds vs (isTrue (.Compare l [op₁, op₂] [r₁, r₂] pos) X.env w) RB ρ σ (bindO o fun u ρ σ => bindO (f ρ σ) fun v ρ σ => match opCmp op₁ u v with
      | some true => bindO (g ρ σ) fun x ρ σ => retO ρ σ (opCmp op₂ v x)
      | some false => some (.ok false, ρ, σ)
      | none => none) := by
  have hm' : lastMarks [op₁, op₂] [r₁, r₂] = false := notSet_marks hm
  refine (TrW.bindV (K := fun a => fun A Q E s => wpAny (model G.prog G.w) A (eval r₁ X.env) (fun b s₁ => wpAny (model G.prog G.w) A (compareOp op₁ a b) (fun c s₂ => wpAny (model G.prog G.w) A (truthy c)
      (fun t s₃ => if t then wpAny (model G.prog G.w) A (eval r₂ X.env) (fun d s₄ => wpAny (model G.prog G.w) A (compareOp op₂ b d) (fun c s₅ => wpAny (model G.prog G.w) A (truthy c) Q E s₅) E s₄) E s₃ else Q false s₃) E s₂) E s₁) E s) h1 fun b ρ₁ σ₁ a _ =>
    TrW.bindV (K := fun b' => fun A Q E s => wpAny (model G.prog G.w) A (compareOp op₁ a b') (fun c s₂ => wpAny (model G.prog G.w) A (truthy c)
      (fun t s₃ => if t then wpAny (model G.prog G.w) A (eval r₂ X.env) (fun d s₄ => wpAny (model G.prog G.w) A (compareOp op₂ b' d) (fun c s₅ => wpAny (model G.prog G.w) A (truthy c) Q E s₅) E s₄) E s₃ else Q false s₃) E s₂) E s) (h2 (b :: ds) (a :: vs) ρ₁ σ₁) fun c ρ₂ σ₂ d _ => ?_).into
    fun A Q E s _ h => isTrue_chain (rs := []) (wpAny_mono h (fun a s₁ h₁ => test_link (wpAny_mono h₁ (fun b s₂ h₂ => wpAny_mono h₂ (fun c s₃ h₃ => wpAny_mono h₃ (fun t s₄ h₄ => by
      cases t with
      | false => exact h₄
      | true => exact test_last h₄) fun _ _ e => e) fun _ _ e => e) fun _ _ e => e)) fun _ _ e => e) hm'
  cases q : opCmp op₁ b c with
  | none => trivial
  | some t =>
    cases t with
    | false =>
      refine TrW.one fun A s Y Q E hA hD hR kk => ?_
      exact cmp_core q hp (by have := hA.units; lia) hR.tail.head hR.head fun tk => wpAny_truthy_bool (kk tk _ rfl)
    | true =>
      refine (TrW.bindV (K := fun e => fun A Q E s => wpAny (model G.prog G.w) A (compareOp op₂ d e) (fun c s₅ => wpAny (model G.prog G.w) A (truthy c) Q E s₅) E s) (h3 (c :: b :: ds) (d :: a :: vs) ρ₂ σ₂) fun x ρ₃ σ₃ y _ => ?_).pre fun A s Y Q E hA hD hR kk => ?_
      · cases q2 : opCmp op₂ c x with
        | none => trivial
        | some r' =>
          refine TrW.one fun A s Y Q E hA hD hR kk => ?_
          exact cmp_core q2 hp (by have := hA.units; lia) hR.tail.head hR.head fun tk => wpAny_truthy_bool (kk tk _ rfl)
      · exact cmp_core q hp (by have := hA.units; lia) hR.tail.head hR.head fun tk => wpAny_truthy_bool (kk tk)

noncomputable def SubK (G : Gx) (r : V) (value slice : Expr) (a b : Value) (A : Around) (s : Shared) (Y : Lay) : Prop := ∀ {Q : Value → Shared → Prop} {E : Value → Shared → Prop},
  (∀ tk a, RV G s.heap Y r a → Q a { s with toks := tk }) → wpAny (model G.prog G.w) A (subscriptTail value slice a b) Q E s
section
variable {value slice : Expr} {u v r : V} {a b : Value} {A : Around} {s : Shared} {Y : Lay}
theorem sub_str {x : List Nat} (hs : plainArg slice = true) (ru : Rp G.lvl s.heap Y (.str x) a) (rv : Rp G.lvl s.heap Y v b) (hr : onI v (fun k => if 0 ≤ k ∧ k < 1000000 then (x[k.toNat]?).map fun c => V.str [c] else none) = some r) : SubK G r value slice a b A s Y := by
  obtain ⟨k, e1, hr⟩ := onI_of hr
  rw [e1] at rv
  obtain ⟨t1, g1⟩ := ru.isStr
  obtain ⟨t2, g2⟩ := rv.isInt
  rw [g1, g2]
  rcases Decidable.em (0 ≤ k ∧ k < 1000000) with hk | hk
  · rw [if_pos hk] at hr
    obtain ⟨ch, hc, e2⟩ := Option.map_eq_some_iff.mp hr
    rw [← e2]
    intro Q E kk
    refine tail_any (typeIs_str s _ _) PySem.F.slot_str_getitem.lookup ?_ (plain_sub hs _ _)
    refine PyProof.Rows.getItem_str (c := ch) (by simp; lia) ?_ (kk _ _ (.str [ch] _))
    rw [show (⟨x.toArray⟩ : Str).length = x.length from by simp [Str.length], seqIndex_nonneg hk.1 (List.getElem?_eq_some_iff.mp hc).1]
    simpa using hc
  · rw [if_neg hk] at hr; cases hr
theorem sub_tup {l : List V} (hs : plainArg slice = true) (ru : Rp G.lvl s.heap Y (.tup l) a) (rv : Rp G.lvl s.heap Y v b) (hr : onI v (fun k => atList l k) = some r) : SubK G r value slice a b A s Y := by
  obtain ⟨k, e1, hr⟩ := onI_of hr
  rw [e1] at rv
  obtain ⟨t2, g2⟩ := rv.isInt
  obtain ⟨x, us, g1, ha, hl⟩ := ru.isTup
  rw [g1, g2]
  obtain ⟨h1, h2, j, u, hj, hu, hh⟩ := atList_of hl hr
  intro Q E kk
  refine tail_any (IsTup.typeIs ha) slot_tuple_getitem.lookup ?_ (plain_sub hs _ _)
  exact PyProof.Rows.getItem_tuple ha h1 h2 (by simpa using hj) (by simpa using hu) (kk s.toks _ hh)
theorem sub_lst {x : Addr} {us : List Value} {l : List V} {k : Int} {t : Tok} (hs : plainArg slice = true) (ha : s.heap.IsList x us.toArray) (hl : Rps G.lvl s.heap Y l us) (hr : atList l k = some r) : SubK G r value slice (.ref x) (.int k t) A s Y := by
  obtain ⟨h1, h2, j, u, hj, hu, hh⟩ := atList_of hl hr
  intro Q E kk
  exact tail_any (have ⟨o, ho, hc, _⟩ := ha; ⟨o, ho, hc⟩) slot_list_getitem.lookup (getItem_list_at ha h1 h2 hj hu (kk s.toks _ hh)) (plain_sub hs _ _)
theorem sub_tab {l : List (List Nat × Int)} (hp : G.lvl.pr = G.w.params) (hs : plainArg slice = true) (ru : Rp G.lvl s.heap Y (.tab l) a) (rv : Rp G.lvl s.heap Y v b) (hr : onS v (fun s => (l.lookup s).map V.int) = some r) : SubK G r value slice a b A s Y := by
  obtain ⟨x, e1, hr⟩ := onS_of hr
  rw [e1] at rv
  obtain ⟨t2, g2⟩ := rv.isStr
  obtain ⟨dd, es, g1, ⟨nn, hd⟩, ht, hk, _⟩ := ru.isTab
  obtain ⟨i, hi, e2⟩ := Option.map_eq_some_iff.mp hr
  rw [g1, g2, ← e2]
  have hm := map_of (prog := G.prog) (w := G.w) hd (hp ▸ hk)
  have q := tab_find x ht
  rw [hi] at q
  obtain ⟨u, q⟩ := q
  intro Q E kk
  exact tail_any hm.typeIs slot_dict_getitem.lookup (wpAny_getItem_of (strKind_is G.prog G.w _ _) hm q (kk _ _ (.int i u))) (plain_sub hs _ _)
theorem sub_jug {x : Addr} {y : List Nat} {t : Tok} {c : V} {m : Int} {vc : Value} {tk : Tok} (hs : plainArg slice = true) (g : s.heap.DictOf (strKind G.prog G.w) x [(sCells, vc), (sCount, .int m tk)]) (rc : Rp G.lvl s.heap Y c vc)
    (hr : (if y = [99, 101, 108, 108, 115] then some c else if y = [99, 111, 117, 110, 116] then some (.int m) else none) = some r) : SubK G r value slice (.ref x) (.str ⟨y.toArray⟩ t) A s Y := by
  have hm := g.mapOf
  rcases Decidable.em (y = [99, 101, 108, 108, 115]) with q | q
  · rw [if_pos q] at hr
    rw [q, ← Option.some.inj hr]
    intro Q E kk
    exact tail_any hm.typeIs slot_dict_getitem.lookup (wpAny_getItem_of (strKind_is G.prog G.w _ _) hm rfl (kk _ _ rc)) (plain_sub hs _ _)
  · rw [if_neg q] at hr
    obtain ⟨q2, e⟩ := if_of hr
    rw [q2, e]
    intro Q E kk
    exact tail_any hm.typeIs slot_dict_getitem.lookup (wpAny_getItem_of (strKind_is G.prog G.w _ _) hm rfl (kk _ _ (.int m tk))) (plain_sub hs _ _)
theorem sub_core (hp : G.lvl.pr = G.w.params) (hpw : G.lvl.prog = G.prog ∧ G.lvl.w = G.w) (hs : plainArg slice = true) (hD : Dyn G X s.heap Y ρ σ) (ru : Rp G.lvl s.heap Y u a) (rv : Rp G.lvl s.heap Y v b) (hr : idxV u v σ = some r) : SubK G r value slice a b A s Y := by
  cases u with
  | str x => exact sub_str hs ru rv hr
  | tup l => exact sub_tup hs ru rv hr
  | lst l =>
    obtain ⟨k, e1, hr⟩ := onI_of (show onI v (fun k => atList l k) = some r from hr)
    rw [e1] at rv
    obtain ⟨t2, g2⟩ := rv.isInt
    obtain ⟨x, us, g1, ha, hl⟩ := ru.isLst
    rw [g1, g2]
    exact sub_lst hs ha hl hr
  | tab l => exact sub_tab hp hs ru rv hr
  | ref i =>
    obtain ⟨x, g1, hi⟩ := ru.isRef
    rw [g1]
    cases v with
    | int k =>
      obtain ⟨t2, g2⟩ := rv.isInt
      obtain ⟨l, hc, hr⟩ := memL_of (show memL σ i (fun l => atList l k) = some r from hr)
      obtain ⟨us, m, g, rl⟩ := hD.mem.cell _ _ _ hi hc
      rw [g2]
      exact sub_lst hs ⟨_, g, rfl, m, rfl⟩ rl hr
    | str y =>
      obtain ⟨t2, g2⟩ := rv.isStr
      obtain ⟨c, m, hc, hr⟩ := memJ_of (show memJ σ i (fun c n => if y = [99, 101, 108, 108, 115] then some c else if y = [99, 111, 117, 110, 116] then some (V.int n) else none) = some r from hr)
      obtain ⟨vc, tk, g, rc⟩ := hD.mem.cell _ _ _ hi hc
      rw [hpw.1, hpw.2] at g
      rw [g2]
      exact sub_jug hs g rc hr
    | _ => cases hr
  | _ => cases hr
end
theorem tr_subscript {value slice : Expr} {pos : Pos} {o : Out V} {f : Loc → Mem → Out V} (hp : G.lvl.pr = G.w.params) (hpw : G.lvl.prog = G.prog ∧ G.lvl.w = G.w) (hs : plainArg slice = true)
    (h1 : Tr G X n ds vs (eval value X.env) (RV G) ρ σ o) (h2 : ∀ ds vs ρ σ, Tr G X n ds vs (eval slice X.env) (RV G) ρ σ (f ρ σ)) :
    Tr G X n ds vs (eval (.Subscript value slice pos) X.env) (RV G) ρ σ (bindO o fun u ρ σ => bindO (f ρ σ) fun v ρ σ => retO ρ σ (idxV u v σ)) := by
  refine (TrW.bindV (K := fun a => fun A Q E s => wpAny (model G.prog G.w) A (eval slice X.env) (fun b s₂ => wpAny (model G.prog G.w) A (subscriptTail value slice a b) Q E s₂) E s) h1 fun b ρ₁ σ₁ a hb9 => TrW.bindV (K := fun d => tree G (subscriptTail value slice a d)) (h2 (b :: ds) (a :: vs) ρ₁ σ₁) fun c ρ₂ σ₂ d hc9 => ?_).into fun A Q E s _ h => Subscript_ h
  exact tr_some fun r hr => TrW.one fun A s Y Q E hA hD hR kk => sub_core hp hpw hs hD hR.tail.head hR.head hr kk
end
end Mine

end

section
set_option genInjectivity false
open PySem PySem.W PyProof.Rows
set_option maxRecDepth 100000
namespace Mine

noncomputable def biTab : List (Str × Value) := [(Str.ofString "len", .builtin "len"), (Str.ofString "ord", .builtin "ord"), (Str.ofString "chr", .builtin "chr"), (Str.ofString "abs", .builtin "abs"), (Str.ofString "range", .type "range")]

structure GF (G : Gx) : Prop where
  top : Top G.p G.loose G.mean G.mg G.mb G.base
  pr : G.lvl.pr = G.w.params
  pw : G.lvl.prog = G.prog ∧ G.lvl.w = G.w
  bi : ∀ (b : Nat) (x : Str) (v : Value), biTab[b]? = some (x, v) → G.mg x = none ∧ G.mb x = some v

noncomputable def RO : Heap → Lay → Option Int → Value → Prop := fun _ _ o v => ∃ l : Option (Int × Tok), v = partValue l ∧ l.map (·.1) = o

theorem slice_post {x : Str} {t : Tok} {l u : Option (Int × Tok)} {Q : Value → Shared → Prop} {s : Shared} (hz : x.length ≤ sizeLine)
    (h : ∀ t' k, Q (.str (Txt.slice x (l.map (·.1)) (u.map (·.1))) t') { s with toks := k }) : (sliceMade x t l u none).post Q s := by
  have hz' := Nat.le_trans (Txt.slice_le x (l.map (·.1)) (u.map (·.1))) hz
  unfold Txt.slice at h hz'
  unfold sliceMade slicePicked
  exact post_val_or_str ⟨hz', h⟩

section
variable {G : Gx} {X : Fx} {n : Nat} {ds : List V} {vs : List Value} {ρ : Loc} {σ : Mem}

theorem tr_part_none : TrW G X n ds vs (tree G (evalPart none X.env)) RO ρ σ (some (.ok none, ρ, σ)) :=
  TrW.one fun A s Y Q E hA hD hR kk => evalPart_none_step (kk s.toks _ ⟨none, rfl, rfl⟩)
theorem tr_part_some {e : Expr} {o : Out V} (h : Tr G X n ds vs (eval e X.env) (RV G) ρ σ o) : TrW G X n ds vs (tree G (evalPart (some e) X.env)) RO ρ σ (bindO o fun v ρ σ => match v with
    | .int i => if small i then some (.ok (some i), ρ, σ) else none
    | _ => none) := by
  refine (TrW.bindV (K := fun a => fun A Q E s => Q a s) h fun b ρ₁ σ₁ a hb9 => ?_).into fun A Q E s _ h => evalPart_some_step h
  cases b with
  | int i =>
    dsimp only
    split
    · refine TrW.one fun A s Y Q E hA hD hR kk => ?_
      cases hR.head
      exact kk s.toks _ ⟨some (i, _), rfl, rfl⟩
    · trivial
  | _ => trivial

theorem tr_slice {value : Expr} {lo hi : Option Expr} {p pos : Pos} {o : Out V} {f g : Loc → Mem → Out (Option Int)}
    (h1 : Tr G X n ds vs (eval value X.env) (RV G) ρ σ o) (h2 : ∀ ds vs ρ σ, TrW G X n ds vs (tree G (evalPart lo X.env)) RO ρ σ (f ρ σ)) (h3 : ∀ ds vs ρ σ, TrW G X n ds vs (tree G (evalPart hi X.env)) RO ρ σ (g ρ σ)) :
    Tr G X n ds vs (eval (.Subscript value (.Slice lo hi none p) pos) X.env) (RV G) ρ σ (bindO o fun u ρ σ => bindO (f ρ σ) fun l ρ σ => bindO (g ρ σ) fun h ρ σ => match u with
      | .str s => if s.length ≤ 100000 then some (.ok (.str (slice s l h)), ρ, σ) else none
      | .lst s => match l, h with
        | none, some k => if 0 ≤ k ∧ s.length ≤ 100000 then some (.ok (.lst (s.take k.toNat)), ρ, σ) else none
        | _, _ => none
      | _ => none) := by
  let TL : Value → Value → Value → PT Value := fun a vl vu => fun A Q E s => wpAny (model G.prog G.w) A (subscriptTail value (.Slice lo hi none p) a (.ref s.heap.objs.size)) Q E { s with heap := s.heap.push { cls := .type "slice", data := .fields #[vl, vu, .none] } }
  refine (TrW.bindV (K := fun a => fun A Q E s => wpAny (model G.prog G.w) A (evalPart lo X.env) (fun vl s₁ => wpAny (model G.prog G.w) A (evalPart hi X.env) (fun vu s₂ => TL a vl vu A Q E s₂) E s₁) E s) h1 fun b ρ₁ σ₁ a hb9 =>
    TrW.bind (ds1 := fun _ => b :: ds) (vs1 := fun _ => a :: vs) (K := fun vl => fun A Q E s => wpAny (model G.prog G.w) A (evalPart hi X.env) (fun vu s₂ => TL a vl vu A Q E s₂) E s) (h2 (b :: ds) (a :: vs) ρ₁ σ₁) (fun _ _ _ _ _ y => y) fun l ρ₂ σ₂ vl ⟨_, _, lp, e1, e2⟩ =>
    TrW.bind (ds1 := fun _ => b :: ds) (vs1 := fun _ => a :: vs) (K := fun vu => TL a vl vu) (h3 (b :: ds) (a :: vs) ρ₂ σ₂) (fun _ _ _ _ _ y => y) fun u ρ₃ σ₃ vu ⟨_, _, up, e3, e4⟩ => ?_).into
    fun A Q E s _ h => Subscript_ (wpAny_mono h (fun a s₁ h₁ => wpAny_Slice (wpAny_mono h₁ (fun vl s₂ h₂ => wpAny_mono h₂ (fun vu s₃ h₃ => evalPart_none_step h₃) fun _ _ e => e) fun _ _ e => e)) fun _ _ e => e)
  subst e1 e2 e3 e4
  cases b with
  | str x =>
    dsimp only
    split
    · rename_i hz
      refine Tr.growW fun A s Y Q E hA hD hR kk => ?_
      obtain ⟨tx, gx⟩ := hR.head.isStr
      rw [gx]
      have hq : ∀ t' k, Q (.str (Txt.slice ⟨x.toArray⟩ (lp.map (·.1)) (up.map (·.1))) t') { s with heap := s.heap.push { cls := .type "slice", data := .fields #[partValue lp, partValue up, .none] }, toks := k } := fun t' k => by
        have r : Rp G.lvl (s.heap.push { cls := .type "slice", data := .fields #[partValue lp, partValue up, .none] }) Y (.str (slice x (lp.map (·.1)) (up.map (·.1)))) (.str (Txt.slice ⟨x.toArray⟩ (lp.map (·.1)) (up.map (·.1))) t') := by
          have q := Rp.str (D := G.lvl) (h := s.heap.push { cls := .type "slice", data := .fields #[partValue lp, partValue up, .none] }) (Y := Y) (slice x (lp.map (·.1)) (up.map (·.1))) t'
          have e : (⟨(slice x (lp.map (·.1)) (up.map (·.1))).toArray⟩ : Str) = Txt.slice ⟨x.toArray⟩ (lp.map (·.1)) (up.map (·.1)) := by
            unfold slice
            rw [Array.toArray_toList]
          rwa [e] at q
        have kp : Keeps s.heap (s.heap.push { cls := .type "slice", data := .fields #[partValue lp, partValue up, .none] }) := fun b o e => Heap.get?_push_of_some _ e
        exact kk (s.heap.push { cls := .type "slice", data := .fields #[partValue lp, partValue up, .none] }) k _ kp r
      refine tail_any (typeIs_str _ _ _) PySem.F.slot_str_getitem.lookup ?_ rfl
      refine wpAny_getItem_str_slice (l := lp) (u := up) (st := none) ⟨_, Heap.get?_push_size _ rfl, rfl, rfl⟩ rfl ?_
      refine slice_post ?_ hq
      show x.toArray.size ≤ sizeLine
      rw [List.size_toArray, sizeLine_eq]; lia
    · trivial
  | lst l =>
    dsimp only
    split
    · rename_i k q1 q2
      split
      · rename_i hz
        cases lp with
        | some x => cases q1
        | none =>
        cases up with
        | none => cases q2
        | some y =>
        obtain ⟨k', tk⟩ := y
        cases q2
        refine Tr.growW fun A s Y Q E hA hD hR kk => ?_
        refine Classical.byContradiction fun ng => ?_
        obtain ⟨aa, us, gx, ⟨oo, ho, hc, nn, hd⟩, hl⟩ := hR.head.isLst
        rw [gx] at ng
        refine ng ?_
        clear ng
        have kp1 : Keeps s.heap (s.heap.push { cls := .type "slice", data := .fields #[.none, .int k' tk, .none] }) := fun b o e => Heap.get?_push_of_some _ e
        refine tail_any (T := "list") ⟨_, kp1 _ _ ho, hc⟩ slot_list_getitem.lookup ?_ rfl
        refine wpAny_getItem_list_slice (lo := none) (hi := some k') (st := none) ⟨_, kp1 _ _ ho, hc, nn, hd⟩ (Heap.IsSliceOf.new ..) .none (.int k' tk) .none (by simp) ?_ ?_
        · have hz0 : 0 ≤ k' := hz.1
          have ek : k' = (k'.toNat : Int) := by lia
          have e9 : slicePick us.toArray none (some k') none = (us.take k'.toNat).toArray := by
            conv => lhs; rw [ek]
            rw [slicePick_upto']
          rw [e9]
          have kp : Keeps s.heap ((s.heap.push { cls := .type "slice", data := .fields #[.none, .int k' tk, .none] }).push { cls := .type "list", data := .seq (us.take k'.toNat).toArray }) := fun b o e => Heap.get?_push_of_some _ (kp1 _ _ e)
          have d1 := hD.of_keeps kp1
          exact kk _ s.toks _ kp (.lst ⟨_, Heap.get?_push_size _ rfl, rfl, 0, rfl⟩ d1.new_mu ((hl.take _).mono ((Step.of_keeps (L := X.L) kp).moves hD)))
        · rw [List.size_toArray, hl.length, sizeLine_eq]; lia
      · trivial
    · trivial
  | _ => trivial

theorem tr_biName {b : Nat} {x : Str} {v : Value} {pos : Pos} {α β : Type} {W : PT α} {rel : Heap → Lay → β → α → Prop} {o : Out β} (F : GF G) (hk : X.sc.kind = .function) (hx : X.sc.names.lookup x = some .globalImplicit) (hd : (x == ("__debug__" : Str)) = false) (hb : biTab[b]? = some (x, v)) {W' : PT α}
    (h : TrW G X n ds vs W rel ρ σ o) (hw : ∀ A Q E s, wpAny (model G.prog G.w) A (eval (.Name x pos) X.env) (fun f s₁ => f = v ∧ W A Q E s₁) E s → W' A Q E s) : TrW G X n ds vs W' rel ρ σ o := by
  refine h.pre fun A s Y Q E hA hD hR kk => hw A Q E s ?_
  obtain ⟨h1, h2⟩ := F.bi b x v hb
  exact Calls.Name_function_global (env := X.env) hk hx (Calls.loadGlobal_builtin (env := X.env) (F.top.g.keeps hD.stays) h1 (F.top.b.keeps hD.stays) h2 ⟨rfl, kk s.toks⟩) hd
end
end Mine

end

section
set_option genInjectivity false
open PySem PySem.W PyProof.Rows
set_option maxRecDepth 100000
namespace Mine

theorem args_plain {M : Model} {A : Around} {E : Value → Shared → Prop} {s : Shared} {env : Env} {f : Value} {e : Expr} {es : List Expr} {pos : Pos} {Q : Args → Shared → Prop} (hp : plainArgs (e :: es) = true)
    (h : wpAny M A (spliced (backTo pos (starEach (e :: es) env))) (fun vs s' => Q ⟨vs, []⟩ s') E s) : wpAny M A (evalArgs f true (backTo pos (starEach (e :: es) env)) []) Q E s := by
  rw [star_plain hp] at h ⊢
  exact Calls.evalArgs_plain h

section
variable {G : Gx} {X : Fx} {n : Nat} {ds : List V} {vs : List Value} {ρ : Loc} {σ : Mem}

noncomputable def CallK (G : Gx) (id : String) (r : V) (as : List Value) (A : Around) (s : Shared) (Y : Lay) : Prop := ∀ {Q : Value → Shared → Prop} {E : Value → Shared → Prop},
  (∀ tk a, RV G s.heap Y r a → Q a { s with toks := tk }) → wpAny (model G.prog G.w) A (call (.builtin id) as) Q E s
section
variable {r v : V} {u : Value} {A : Around} {s : Shared} {Y : Lay}
theorem len_list_at {x : Addr} {us : List Value} {l : List V} (ha : s.heap.IsList x us.toArray) (hl : Rps G.lvl s.heap Y l us) (hz : l.length ≤ 100000) : CallK G "len" (.int l.length) [.ref x] A s Y := by
  have q : us.toArray.size = l.length := by rw [List.size_toArray, hl.length]
  intro Q E kk
  refine Calls.call_len_list ha ?_ ?_
  · rw [q]; lia
  · rw [q]; exact kk _ _ (.int _ _)
theorem bi_len (ru : Rp G.lvl s.heap Y v u) (hr : biV 0 [v] = some r) : CallK G "len" r [u] A s Y := by
  cases v with
  | str y =>
    obtain ⟨hz, e⟩ := if_of (show (if y.length ≤ 100000 then some (V.int y.length) else none) = some r from hr)
    obtain ⟨t, g⟩ := ru.isStr
    rw [g, e]
    intro Q E kk
    refine PyProof.Rows.len_str ?_ ?_
    · show ¬ (y.toArray.size : Int) ≥ 2 ^ 63
      rw [List.size_toArray]; lia
    · have q : (⟨y.toArray⟩ : Str).length = y.length := by simp [Str.length]
      rw [q]
      exact kk _ _ (.int _ _)
  | lst y =>
    obtain ⟨hz, e⟩ := if_of (show (if y.length ≤ 100000 then some (V.int y.length) else none) = some r from hr)
    obtain ⟨x, us, g, ha, hl⟩ := ru.isLst
    rw [g, e]
    exact len_list_at ha hl hz
  | _ => cases hr
theorem bi_ord (ru : Rp G.lvl s.heap Y v u) (hr : biV 1 [v] = some r) : CallK G "ord" r [u] A s Y := by
  obtain ⟨y, e1, hr⟩ := onS_of (show onS v (fun s => l1 s fun c => some (V.int c)) = some r from hr)
  obtain ⟨c, e2, e3⟩ := l1_of hr
  rw [e1, e2] at ru
  obtain ⟨t, g⟩ := ru.isStr
  rw [g, ← Option.some.inj e3]
  intro Q E kk
  exact PySem.P.ord_of_char (kk _ _ (.int _ _))
theorem bi_chr (ru : Rp G.lvl s.heap Y v u) (hr : biV 2 [v] = some r) : CallK G "chr" r [u] A s Y := by
  obtain ⟨i, e1, hr⟩ := onI_of (show onI v (fun i => if 0 ≤ i ∧ i < 1000 then some (V.str [i.toNat]) else none) = some r from hr)
  obtain ⟨hz, e2⟩ := if_of hr
  rw [e1] at ru
  obtain ⟨t, g⟩ := ru.isInt
  rw [g, e2]
  intro Q E kk
  exact PySem.P.chr_of_int (by simp; lia) (kk _ _ (.str [i.toNat] _))
theorem bi_abs (ru : Rp G.lvl s.heap Y v u) (hr : biV 3 [v] = some r) : CallK G "abs" r [u] A s Y := by
  obtain ⟨i, e1, hr⟩ := onI_of (show onI v (fun i => some (V.int (if i < 0 then -i else i))) = some r from hr)
  rw [e1] at ru
  obtain ⟨t, g⟩ := ru.isInt
  rw [g, ← Option.some.inj hr]
  intro Q E kk
  exact call_abs_int fun u tk => kk _ _ (.int _ _)
end
theorem bi_call {b : Nat} {x : Str} {id : String} (hb : biTab[b]? = some (x, .builtin id)) {bs : List V} {as : List Value} {r : V} (hl : as.length = bs.length)
    (hr : biAll b bs σ = some r) :
    TrW G X n (bs ++ ds) (as ++ vs) (tree G (call (.builtin id) as)) (RV G) ρ σ (some (.ok r, ρ, σ)) := by
  refine TrW.one fun A s Y Q E hA hD hR kk => ?_
  have hx := (hR.split hl).1
  clear hR hl
  have hv : ∃ v, bs = [v] := (orO_of hr).elim (fun h => (l1_of h).imp fun _ h => h.1) fun h => by
    cases b with
    | zero => exact (l1_of h).imp fun _ h => h.1
    | succ _ => cases h
  obtain ⟨v, hv⟩ := hv
  rw [hv] at hx hr
  obtain ⟨u, hu, ru⟩ := hx.one
  rw [hu]
  rcases orO_of hr with hr | hr
  · match b, hb, hr with
    | 0, hb, hr => cases hb; exact bi_len ru hr kk
    | 1, hb, hr => cases hb; exact bi_ord ru hr kk
    | 2, hb, hr => cases hb; exact bi_chr ru hr kk
    | 3, hb, hr => cases hb; exact bi_abs ru hr kk
    | _ + 4, hb, hr => cases hr
  · cases b with
    | zero =>
      cases hb
      obtain ⟨i, e1, h1⟩ := onR_of (show onR v (fun r => memL σ r fun l => if l.length ≤ 100000 then some (V.int l.length) else none) = some r from hr)
      obtain ⟨l, hc, h2⟩ := memL_of h1
      obtain ⟨hz, e2⟩ := if_of h2
      rw [e1] at ru
      obtain ⟨x, g, hi⟩ := ru.isRef
      obtain ⟨us, m, g2, rl⟩ := hD.mem.cell _ _ _ hi hc
      rw [g]
      rw [e2] at kk
      exact len_list_at ⟨_, g2, rfl, m, rfl⟩ rl hz kk
    | succ _ => cases hr
theorem tr_bi {b : Nat} {x : Str} {id : String} {p pos : Pos} {e : Expr} {es : List Expr} {o : Out (List V)} (F : GF G) (hk : X.sc.kind = .function) (hx : X.sc.names.lookup x = some .globalImplicit) (hd : (x == ("__debug__" : Str)) = false)
    (hb : biTab[b]? = some (x, .builtin id)) (hp : plainArgs (e :: es) = true) (h : Tr G X n ds vs (spliced (backTo pos (starEach (e :: es) X.env))) (RVs G) ρ σ o) :
    Tr G X n ds vs (eval (.Call (.Name x p) (e :: es) [] pos) X.env) (RV G) ρ σ (bindO o fun vs ρ σ => retO ρ σ (biAll b vs σ)) := by
  refine tr_biName F hk hx hd hb (TrW.bind (ds1 := fun bs => bs ++ ds) (vs1 := fun as => as ++ vs) (K := fun as => tree G (call (.builtin id) as)) h (fun _ _ _ _ x y => Rps.append y x) fun bs ρ₁ σ₁ as ⟨_, _, hl⟩ => ?_) fun A Q E s h9 => wpAny_Call_Name_kw (wpAny_mono h9 (fun f s₁ ⟨e1, h8⟩ => ?_) fun _ _ e => e)
  · exact tr_some fun r hr => bi_call hb hl.length hr
  · subst e1
    refine Calls.callWith_builtin (by rw [star_plain hp]; exact any_plain _) (args_plain hp (wpAny_mono h8 (fun us s₂ h7 => h7) fun _ _ e => e))

noncomputable def plainBase : Expr → Bool
  | .Call (.Name ..) [] [] _ => false
  | .Starred .. => false
  | .Slice .. => false
  | _ => true
theorem base_plain {o : Expr} {attr : Str} {env : Env} {w : Sem Value} (h : plainBase o = true) : attributeBase o attr env w = w := by
  unfold attributeBase
  split
  · rename_i id p pos
    cases h
  · rfl

/-- a builtin's method called upon a value -/
theorem tr_method {o : Expr} {name : Str} {apos pos : Pos} {args : List Expr} {T id : String} {oo : Out V} {g : V → Loc → Mem → Out V}
    (hbase : plainBase o = true) (hpl : plainArgs args = true) (hlen : args.length < 29) (hline : (apos.endLine == pos.line) = true)
    (pa : PlainAttrs T) (slot : Slot T name id) (hty : typeOf (.builtin id) = pure (.type "method_descriptor"))
    (h1 : Tr G X n ds vs (eval o X.env) (RV G) ρ σ oo)
    (hT : ∀ (b : V) (ρ₁ : Loc) (σ₁ : Mem), g b ρ₁ σ₁ ≠ none → ∀ (s : Shared) (Y : Lay) (a : Value), Dyn G X s.heap Y ρ₁ σ₁ → Rp G.lvl s.heap Y b a → s.TypeIs a T ∧ (∀ x, a = .ref x → ∃ ob, s.heap.get? x = some ob ∧ ob.dict = none))
    (h2 : ∀ b ρ₁ σ₁ a, (∃ h Y, Rp G.lvl h Y b a) → TrW G X n (b :: ds) (a :: vs) (tree G (callWith pos (.builtin id) [a] (backTo pos (starEach args X.env)) [])) (RV G) ρ₁ σ₁ (g b ρ₁ σ₁)) :
    Tr G X n ds vs (eval (.Call (.Attribute o name apos) args [] pos) X.env) (RV G) ρ σ (bindO oo g) := by
  refine (TrW.bindV (K := fun a => fun A Q E s => s.TypeIs a T ∧ (∀ x, a = .ref x → ∃ ob, s.heap.get? x = some ob ∧ ob.dict = none) ∧ wpAny (model G.prog G.w) A (callWith pos (.builtin id) [a] (backTo pos (starEach args X.env)) []) Q E s) h1 fun b ρ₁ σ₁ a hb9 => ?_).into fun A Q E s _ h => wpAny_Call_method (base_plain hbase) ?_ hline pa slot hty h
  · cases q : g b ρ₁ σ₁ with
    | none => trivial
    | some r =>
      have z := h2 b ρ₁ σ₁ a hb9
      rw [q] at z
      refine z.pre fun A s Y Q E hA hD hR kk => ?_
      obtain ⟨t1, t2⟩ := hT b ρ₁ σ₁ (by rw [q]; exact fun e => nomatch e) s Y a hD hR.head
      exact ⟨t1, t2, kk s.toks⟩
  · rw [star_plain hpl]
    have q : (args.map fun e => (false, eval e X.env)).all (fun x => !x.1) = true := by simp
    rw [q]
    simp [keywordEach, backToKw]
    lia
end
end Mine

end

section
set_option genInjectivity false
open PySem PySem.W PyProof.Rows
set_option maxRecDepth 100000
namespace Mine

section
variable {G : Gx} {X : Fx} {n : Nat} {ds : List V} {vs : List Value} {ρ : Loc} {σ : Mem}

theorem Dyn.step_same {h h' : Heap} {Y : Lay} {r : Nat} {a : Addr} (d : Dyn G X h Y ρ σ) (hi : Y.mu[r]? = some a) (hs : Heap.SameBut a h h') (ha : ∃ o, h'.get? a = some o) : Step X.L h Y h' Y := by
  have hm : a ∈ Y.mu := List.mem_of_getElem? hi
  refine ⟨fun _ _ e => e, rfl, rfl, fun b o e => ?_, fun _ x y => absurd x y, fun b o e hb _ => (hs.2 b fun q => hb (q ▸ hm)).trans e, fun b o e hb _ => ⟨o.slots, (hs.2 b fun q => d.mem.apart a hm (q ▸ hb)).trans e⟩⟩
  by_cases q : b = a
  · rw [q]; exact ha
  · exact ⟨o, (hs.2 b q).trans e⟩

theorem Dyn.set_cell {h h' : Heap} {Y : Lay} {r : Nat} {a : Addr} {c : Cell} (d : Dyn G X h Y ρ σ) (hi : Y.mu[r]? = some a) (hs : Heap.SameBut a h h') (ha : ∃ o, h'.get? a = some o) (hc : CellAt G.lvl h' Y a c) :
    Dyn G X h' Y ρ (σ.set r c) := by
  have st := d.step_same hi hs ha
  have m := st.moves d
  have hm : a ∈ Y.mu := List.mem_of_getElem? hi
  have hlen : r < σ.length := by rw [← d.mem.len]; exact (List.getElem?_eq_some_iff.mp hi).1
  have hnb : ∀ b o, G.base.get? b = some o → b ≠ a := fun b o e q => by have := d.mem.new a hm; rw [← q, e] at this; cases this
  have hnf : ∀ b, b ∈ Y.fr → b ≠ a := fun b hb q => d.mem.apart a hm (q ▸ hb)
  have hL : X.L ∈ Y.fr := by rw [d.fr]; exact List.mem_filterMap.mpr ⟨X.env, .head _, rfl⟩
  refine ⟨fun b o e => (hs.2 b (hnb b o e)).trans (d.stays b o e), ?_, d.fr, fun b hb => ?_, ⟨by rw [List.length_set]; exact d.mem.len, d.mem.nodup, d.mem.new, d.mem.apart, fun i b c' hb hc' => ?_⟩, fun b hb => ⟨(d.no b hb).1, by obtain ⟨o, e⟩ := (d.no b hb).2; exact st.live b o e⟩, ?_⟩
  · have : ∀ l : List Env, (∀ env ∈ l, ∀ L, env.frame = some L → L ∈ Y.fr) → h.FunFrames G.base l → h'.FunFrames G.base l := by
      intro l
      induction l with
      | nil => intro _ _; trivial
      | cons env l ih =>
        intro hin ⟨hk, ⟨L, o, hf, hn, ho, hd⟩, hr⟩
        exact ⟨hk, ⟨L, o, hf, hn, (hs.2 L (hnf L (hin env (.head _) L hf))).trans ho, hd⟩, ih (fun e he => hin e (.tail _ he)) hr⟩
    exact this _ (fun env he L hf => by rw [d.fr]; exact List.mem_filterMap.mpr ⟨env, he, hf⟩) d.funs
  · obtain ⟨o, es, n, e, q⟩ := d.frs b hb
    exact ⟨o, es, n, (hs.2 b (hnf b hb)).trans e, q⟩
  · by_cases q : i = r
    · subst q
      rw [hi] at hb; cases hb
      rw [List.getElem?_set_self hlen] at hc'
      cases hc'
      exact hc
    · rw [List.getElem?_set_ne (fun e => q e.symm)] at hc'
      have hne : b ≠ a := fun e => by
        subst e
        have h1 := (List.getElem?_eq_some_iff.mp hi).1
        have h2 := (List.getElem?_eq_some_iff.mp hb).1
        exact q ((List.getElem_inj d.mem.nodup).mp ((List.getElem?_eq_some_iff.mp hb).2.trans (List.getElem?_eq_some_iff.mp hi).2.symm))
      exact (d.mem.cell i b c' hb hc').mono m fun o e => (hs.2 b hne).trans e
  · obtain ⟨mm, hm, hl⟩ := d.loc
    refine ⟨mm, hm.sameBut hs (hnf _ hL), fun i v e => ?_⟩
    obtain ⟨x, u, e1, e2, r⟩ := hl i v e
    exact ⟨x, u, e1, e2, r.mono m⟩

theorem mapSeq_list (its : Array Value) (m : Nat) (f : Array Value → Array Value) : Obj.mapSeq f (listOf its m) = listOf (f its) (if (f its).size == its.size then m else m + 1) := rfl

theorem Dyn.list_set {h : Heap} {Y : Lay} {r : Nat} {a : Addr} {l' : List V} {us us' : List Value} {m : Nat} {f : Array Value → Array Value} (d : Dyn G X h Y ρ σ) (hi : Y.mu[r]? = some a)
    (g : h.get? a = some (listOf us.toArray m)) (hf : f us.toArray = us'.toArray) (hr : Rps G.lvl h Y l' us') :
    Step X.L h Y (h.update a (Obj.mapSeq f)) Y ∧ Dyn G X (h.update a (Obj.mapSeq f)) Y ρ (σ.set r (Cell.list l')) := by
  have g' : (h.update a (Obj.mapSeq f)).get? a = some (listOf us'.toArray (if us'.toArray.size == us.toArray.size then m else m + 1)) := by
    rw [Heap.get?_update_self _ g rfl, mapSeq_list, hf]
  have hs : Heap.SameBut a h (h.update a (Obj.mapSeq f)) := .update ..
  have st := d.step_same hi hs ⟨_, g'⟩
  exact ⟨st, d.set_cell hi hs ⟨_, g'⟩ ⟨us', _, g', hr.mono (st.moves d)⟩⟩

theorem not_none_of {α : Type} {x : Option α} {P : Prop} (h : x ≠ none) (k : ∀ a, x = some a → P) : P := by
  cases x with
  | none => exact absurd rfl h
  | some a => exact k a rfl

/-- the receiver is a list that may turn -/
theorem ref_is_list {b : V} {o : Option (List V)} {s : Shared} {Y : Lay} {a : Value} {ρ₁ : Loc} {σ₁ : Mem} {r : Nat} {l : List V} (hb : b = .ref r) (hc : σ₁[r]? = some (.list l)) (hD : Dyn G X s.heap Y ρ₁ σ₁) (ra : Rp G.lvl s.heap Y b a) :
    s.TypeIs a "list" ∧ (∀ x, a = .ref x → ∃ ob, s.heap.get? x = some ob ∧ ob.dict = none) := by
  subst hb
  cases ra with
  | ref hi =>
    obtain ⟨us, m, g, rl⟩ := hD.mem.cell _ _ _ hi hc
    exact ⟨⟨_, g, rfl⟩, fun x e => by cases e; exact ⟨_, g, rfl⟩⟩

theorem listRef_of {u : V} {σ : Mem} {r : Nat} (h : isListRef u σ = some r) : u = .ref r ∧ ∃ l, σ[r]? = some (.list l) := by
  unfold isListRef at h
  split at h
  · split at h
    · rename_i hc; cases h; exact ⟨rfl, _, hc⟩
    · cases h
  · cases h

theorem backTo_one {e : Expr} {pos : Pos} {env : Env} (h : plainArg e = true) : backTo pos (starEach [e] env) = [(false, eval e env)] :=
  star_plain (es := [e]) (by show (plainArg e && true) = true; rw [h]; rfl)

theorem tr_append {ov av : Expr} {apos pos : Pos} {oo : Out V} {f : Loc → Mem → Out V} (hbase : plainBase ov = true) (hpl : plainArg av = true) (hline : (apos.endLine == pos.line) = true)
    (h1 : Tr G X n ds vs (eval ov X.env) (RV G) ρ σ oo) (h2 : ∀ ds vs ρ σ, Tr G X n ds vs (eval av X.env) (RV G) ρ σ (f ρ σ)) :
    Tr G X n ds vs (eval (.Call (.Attribute ov (Str.ofString "append") apos) [av] [] pos) X.env) (RV G) ρ σ (bindO oo fun u ρ σ => match isListRef u σ with
      | some r => bindO (f ρ σ) fun v ρ σ => match σ[r]? with
        | some (.list l) => if l.length ≤ 100000 then some (.ok .none, ρ, σ.set r (.list (l ++ [v]))) else none
        | _ => none
      | none => none) := by
  refine tr_method hbase (by show (plainArg av && true) = true; rw [hpl]; rfl) (by show 1 < 29; lia) hline PySem.F.plainAttrs_list PySem.F.slot_list_append PySem.F.type_list_append h1 (fun b ρ₁ σ₁ hne s Y a hD ra => ?_) fun b ρ₁ σ₁ a hb9 => ?_
  · cases q : isListRef b σ₁ with
    | none => rw [q] at hne; exact absurd rfl hne
    | some r =>
      obtain ⟨hb, l, hc⟩ := listRef_of q
      exact ref_is_list (o := none) hb hc hD ra
  · cases q : isListRef b σ₁ with
    | none => trivial
    | some r =>
      obtain ⟨hb, l0, hc0⟩ := listRef_of q
      subst hb
      rw [backTo_one hpl]
      have hra : ∃ x, a = Value.ref x := by
        obtain ⟨_, _, z⟩ := hb9
        cases z; exact ⟨_, rfl⟩
      · obtain ⟨x, rfl⟩ := hra
        refine (TrW.bindV (K := fun v => fun A Q E s₁ => ∃ items n, items.size ≤ sizeLine ∧ IsL s₁.heap x items n ∧ Q .none { s₁ with heap := s₁.heap.update x (Obj.mapSeq fun xs => xs.push v) }) (h2 (.ref r :: ds) (.ref x :: vs) ρ₁ σ₁) fun c ρ₂ σ₂ d _ => ?_).into fun A Q E s _ h => PySem.P.append_list h
        split
        · rename_i l hc
          split
          · rename_i hz
            intro A s Y Q E hA hD hR kk
            have rc := hR.head
            cases hR.tail.head with
            | ref hi =>
            obtain ⟨us, m, g, rl⟩ := hD.mem.cell _ _ _ hi hc
            obtain ⟨st, d'⟩ := hD.list_set (f := fun xs => xs.push d) (us' := us ++ [d]) hi g (by simp) (rl.append' rc)
            refine ⟨us.toArray, m, by rw [List.size_toArray, rl.length, sizeLine_eq]; lia, g, ?_⟩
            exact (kk _ s.toks Y st d').1 _ rfl _ .none
          · trivial
        · trivial
end
end Mine

end

section
set_option genInjectivity false
open PySem PySem.W PyProof.Rows
open PySem.Builtin PySem.Builtin.Str
set_option maxRecDepth 100000
namespace Mine

theorem gives_find (x y : Str) (i j : Int) (t u v v' : Tok) (hi : 0 ≤ i) (hj : 0 ≤ j) : Gives («str.find» ⟨[.str x t, .str y u, .int i v, .int j v'], []⟩) (.int (match occurrences x y i.toNat (min j.toNat x.length) 1 with | k :: _ => (k : Int) | [] => -1)) := by
  show Gives (match occurrences x y (fromIndex x.length i) (min (fromIndex x.length j) x.length) 1 with | k :: _ => retInt k | [] => (do rule "str.find.not-found"; retInt (-1))) _
  have e1 : fromIndex x.length i = i.toNat := by unfold fromIndex; rw [if_neg (by lia)]; lia
  have e2 : fromIndex x.length j = j.toNat := by unfold fromIndex; rw [if_neg (by lia)]; lia
  rw [e1, e2]
  cases occurrences x y i.toNat (min j.toNat x.length) 1 with
  | nil => exact .rule (.of_eq rfl)
  | cons k _ => exact .of_eq rfl

theorem strs_are {D : Dd} {h : Heap} {Y : Lay} : ∀ (xs : List Str) (tk : Nat), Rps D h Y (xs.map fun p => V.str p.cps.toList) (strsFrom tk xs)
  | [], _ => .nil
  | x :: r, tk => .cons (Rp.str (D := D) x.cps.toList tk) (strs_are r (tk + 1))

section
variable {G : Gx} {X : Fx} {n : Nat} {ds : List V} {vs : List Value} {ρ : Loc} {σ : Mem}

noncomputable def methTab : List (Str × String) := [(Str.ofString "find", "str.find"), (Str.ofString "split", "str.split")]

theorem meth_find {y : List Nat} {bs : List V} {as : List Value} {r : V} {t : Tok} {A : Around} {s : Shared} {Y : Lay} (hx : Rps G.lvl s.heap Y bs as) (hr : (l3 bs fun p i j => onS p fun p => onI i fun i => onI j fun j => (findV y p i j).map V.int) = some r) : CallK G "str.find" r (.str ⟨y.toArray⟩ t :: as) A s Y := by
  obtain ⟨p, i, j, e1, hr⟩ := l3_of hr
  obtain ⟨p', e2, hr⟩ := onS_of hr
  obtain ⟨i', e3, hr⟩ := onI_of hr
  obtain ⟨j', e4, hr⟩ := onI_of hr
  obtain ⟨k, hr, e5⟩ := Option.map_eq_some_iff.mp hr
  obtain ⟨hz, e6⟩ := if_of hr
  rw [e1, e2, e3, e4] at hx
  obtain ⟨t1, t2, t3, g⟩ : ∃ t1 t2 t3, as = [.str ⟨p'.toArray⟩ t1, .int i' t2, .int j' t3] := by
    cases hx with
    | cons h1 h2 =>
    cases h2 with
    | cons h2 h3 =>
    obtain ⟨u3, g3, h3⟩ := h3.one
    obtain ⟨t1, g1⟩ := h1.isStr
    obtain ⟨t2, g2⟩ := h2.isInt
    obtain ⟨t3, g4⟩ := h3.isInt
    exact ⟨t1, t2, t3, by rw [g1, g2, g3, g4]⟩
  rw [g, ← e5, e6]
  intro Q E kk
  refine call_gives F.slot_str_find (typeIs_str _ _ _) F.entry_str_find (F.args_str_find_4 _ _ _ _) (gives_find _ _ _ _ _ _ _ _ hz.1 hz.2.1) ?_
  have e : (⟨y.toArray⟩ : Str).length = y.length := by simp [Str.length]
  exact kk _ _ (by rw [e]; exact .int _ _)
theorem meth_call {m : Nat} {x : Str} {id : String} (hm : methTab[m]? = some (x, id)) {b : V} {a : Value} {bs : List V} {as : List Value} (hl : as.length = bs.length) :
    TrW G X n (bs ++ b :: ds) (as ++ a :: vs) (tree G (call (.builtin id) (a :: as))) (RV G) ρ σ (retO ρ σ (methV m b bs)) := by
  refine tr_some fun r hr => ?_
  refine Tr.growW fun A s Y Q E hA hD hR kk => ?_
  obtain ⟨hx, hb⟩ := hR.split hl
  obtain ⟨y, e1, hr⟩ := onS_of hr
  have ha := hb.head
  rw [e1] at ha
  obtain ⟨t, g⟩ := ha.isStr
  rw [g]
  cases m with
  | zero =>
    cases hm
    exact meth_find hx hr fun tk a ha => kk s.heap tk a (fun _ _ e => e) ha
  | succ m => cases m with
    | zero =>
      cases hm
      obtain ⟨p, e2, hr⟩ := l1_of hr
      obtain ⟨p', e3, hr⟩ := onS_of hr
      rw [e2, e3] at hx
      obtain ⟨u, g2, ru⟩ := hx.one
      obtain ⟨t2, g3⟩ := ru.isStr
      rw [g2, g3]
      unfold splitV at hr
      dsimp only at hr
      split at hr
      · rename_i hz
        simp only [Bool.and_eq_true, Bool.not_eq_true', decide_eq_true_eq] at hz
        obtain ⟨⟨⟨⟨z1, z2⟩, z3⟩, z4⟩, z5⟩ := hz
        cases hr
        refine call_meets F.slot_str_split (typeIs_str _ _ _) F.entry_str_split (F.args_str_split_2 _ _) (meets_str_split_sep _ _ _ _ z1 z2 z3 (by rw [sizeLine_eq]; lia) (by rw [sizeLine_eq]; lia)) ?_
        exact kk _ _ _ (fun b o e => Heap.get?_push_of_some _ e) (.lst ⟨_, Heap.get?_push_size _ rfl, rfl, 0, rfl⟩ hD.new_mu (strs_are _ _))
      · cases hr
    | succ _ => cases hr

theorem tr_str_method {m : Nat} {name : Str} {id : String} {ov e : Expr} {es : List Expr} {apos pos : Pos} {oo : Out V} {f : Loc → Mem → Out (List V)} (hbase : plainBase ov = true) (hpl : plainArgs (e :: es) = true) (hlen : (e :: es).length < 29) (hline : (apos.endLine == pos.line) = true)
    (hm : methTab[m]? = some (name, id)) (slot : Slot "str" name id) (hty : typeOf (.builtin id) = pure (.type "method_descriptor"))
    (h1 : Tr G X n ds vs (eval ov X.env) (RV G) ρ σ oo) (h2 : ∀ ds vs ρ σ, Tr G X n ds vs (spliced (backTo pos (starEach (e :: es) X.env))) (RVs G) ρ σ (f ρ σ)) :
    Tr G X n ds vs (eval (.Call (.Attribute ov name apos) (e :: es) [] pos) X.env) (RV G) ρ σ (bindO oo fun u ρ σ => if isStr u then bindO (f ρ σ) fun vs ρ σ => retO ρ σ (methV m u vs) else none) := by
  refine tr_method hbase hpl hlen hline F.plainAttrs_str slot hty h1 (fun b ρ₁ σ₁ hne s Y a hD ra => ?_) fun b ρ₁ σ₁ a hb9 => ?_
  · cases b with
    | str y => cases ra; exact ⟨typeIs_str _ _ _, fun x e => nomatch e⟩
    | _ => exact absurd rfl hne
  · split
    · exact (TrW.bind (ds1 := fun bs => bs ++ b :: ds) (vs1 := fun as => as ++ a :: vs) (K := fun as => tree G (call (.builtin id) (a :: as))) (h2 (b :: ds) (a :: vs) ρ₁ σ₁) (fun _ _ _ _ x y => Rps.append y x) fun bs ρ₂ σ₂ as ⟨_, _, hl⟩ => meth_call hm hl.length).into
        fun A Q E s _ h => Calls.callWith_builtin (by rw [star_plain hpl]; exact any_plain _) (args_plain hpl (wpAny_mono h (fun us s₂ h7 => h7) fun _ _ e => e))
    · trivial

theorem ext_meets (l : Addr) (items : Array Value) (n : Nat) (b : Addr) (items2 : Array Value) (n2 : Nat) (dd2 : Option Addr) (sl2 : Array (Option Value)) (hc0 : ¬(!items.isEmpty && Builtin.List.listTooLong (items.size + items2.size)) = true) (hc1 : items.size ≤ sizeLine) (hs2 : items.size + items2.size ≤ sizeLine + 1) :
    Meets (Builtin.«list.extend» ⟨[.ref l, .ref b], []⟩) (fun _ R s => s.heap.get? l = some (listOf items n) ∧ s.heap.get? b = some { cls := .type "list", dict := dd2, data := .seq items2 n2, slots := sl2 } ∧ R (.ok (.ret Value.none)) { s with heap := s.heap.update l (Obj.mapSeq fun x => x ++ items2), toks := s.toks }) :=
  .of_wp fun prog w A R s h => by
    obtain ⟨hp, g, d, tk, os⟩ := s; obtain ⟨hl, hb, h⟩ := h; have f1 := AutoSeq1.idx_int; have f2 := AutoSeq1.sub_tuple_tuple; have f3 := AutoSeq1.sub_list_list; have f4 := AutoSeq1.sub_tuple_list; have f5 := AutoSeq1.sub_list_tuple
    have hz' : (items ++ items2).size ≤ sizeLine + 1 := by rw [Array.size_append]; exact hs2
    wp_walk using (wpAny_updateSeq hl rfl (hz := hc1) (_hz' := hz')), AutoSeq1.wpAny_loadPart' hl, AutoSeq1.wpAny_loadPart' hb; exact ⟨_, rfl, h⟩

theorem tr_extend {ov av : Expr} {apos pos : Pos} {oo : Out V} {f : Loc → Mem → Out V} (hbase : plainBase ov = true) (hpl : plainArg av = true) (hline : (apos.endLine == pos.line) = true)
    (h1 : Tr G X n ds vs (eval ov X.env) (RV G) ρ σ oo) (h2 : ∀ ds vs ρ σ, Tr G X n ds vs (eval av X.env) (RV G) ρ σ (f ρ σ)) :
    Tr G X n ds vs (eval (.Call (.Attribute ov (Str.ofString "extend") apos) [av] [] pos) X.env) (RV G) ρ σ (bindO oo fun u ρ σ => match isListRef u σ with
      | some r => bindO (f ρ σ) fun v ρ σ => match v with
        | .lst x => match σ[r]? with
          | some (.list l) => if l.length + x.length ≤ 100000 then some (.ok .none, ρ, σ.set r (.list (l ++ x))) else none
          | _ => none
        | _ => none
      | none => none) := by
  refine tr_method hbase (by show (plainArg av && true) = true; rw [hpl]; rfl) (by show 1 < 29; lia) hline PySem.F.plainAttrs_list PySem.F.slot_list_extend PySem.F.type_list_extend h1 (fun b ρ₁ σ₁ hne s Y a hD ra => ?_) fun b ρ₁ σ₁ a hb9 => ?_
  · cases q : isListRef b σ₁ with
    | none => rw [q] at hne; exact absurd rfl hne
    | some r =>
      obtain ⟨hb, l, hc⟩ := listRef_of q
      exact ref_is_list (o := none) hb hc hD ra
  · cases q : isListRef b σ₁ with
    | none => trivial
    | some r =>
      obtain ⟨hb, l0, hc0⟩ := listRef_of q
      subst hb
      rw [backTo_one hpl]
      have hra : ∃ x, a = Value.ref x := by
        obtain ⟨_, _, z⟩ := hb9
        cases z; exact ⟨_, rfl⟩
      · obtain ⟨x, rfl⟩ := hra
        refine (TrW.bindV (K := fun v => fun A Q E s₁ => ∃ b items items2 n, items.size ≤ sizeLine ∧ items.size + items2.size ≤ sizeLine + 1 ∧ ¬(!items.isEmpty && Builtin.List.listTooLong (items.size + items2.size)) = true ∧ v = .ref b ∧ IsL s₁.heap x items n ∧ s₁.heap.IsList b items2 ∧ Q .none { s₁ with heap := s₁.heap.update x (Obj.mapSeq fun xs => xs ++ items2) }) (h2 (.ref r :: ds) (.ref x :: vs) ρ₁ σ₁) fun c ρ₂ σ₂ d hd9 => ?_).into fun A Q E s _ h => seqMethod1_meets PySem.F.slot_list_extend PySem.F.entry_list_extend (wpAny_mono h (fun v s₁ h₁ => by
          obtain ⟨b, items, items2, n, hsz, hs2, hdoor, rfl, hl, ⟨⟨c2, d2, t2, sl2⟩, hb, hc2, n2, hd2⟩, hq⟩ := h₁
          dsimp only at hc2 hd2
          subst hc2 hd2
          exact ⟨⟨_, hl, rfl⟩, PySem.F.args_list_extend_2 _ _, _, ext_meets _ items n b items2 n2 d2 sl2 hdoor hsz hs2, hl, hb, hq⟩) fun _ _ e => e)
        split
        · rename_i y
          split
          · rename_i l hc
            split
            · rename_i hz
              intro A s Y Q E hA hD hR kk
              refine Classical.byContradiction fun ng => ?_
              obtain ⟨aa, us', gd, ha, hl⟩ := hR.head.isLst
              obtain ⟨xr, gx, hi⟩ := hR.tail.head.isRef
              rw [← Value.ref.inj gx] at hi
              obtain ⟨us, m, g, rl⟩ := hD.mem.cell _ _ _ hi hc
              obtain ⟨st, d'⟩ := hD.list_set (f := fun xs => xs ++ us'.toArray) (us' := us ++ us') hi g (by simp) (Rps.append hl rl)
              have z1 := rl.length
              have z2 := hl.length
              refine ng ⟨aa, us.toArray, us'.toArray, m, by rw [List.size_toArray, sizeLine_eq]; lia, by rw [List.size_toArray, List.size_toArray, sizeLine_eq]; lia, ?_, gd, g, ha, ?_⟩
              all_goals clear ng
              · have : Builtin.List.listTooLong (us.toArray.size + us'.toArray.size) = false := by
                  unfold Builtin.List.listTooLong
                  rw [List.size_toArray, List.size_toArray]
                  exact decide_eq_false (by rw [sizeLine_eq]; lia)
                rw [this, Bool.and_false]; decide
              · exact (kk _ s.toks Y st d').1 _ rfl _ .none
            · trivial
          · trivial
        · trivial

theorem erase_last (us : List Value) : us.toArray.eraseIdxIfInBounds (us.toArray.size - 1) = us.dropLast.toArray := by
  cases us with
  | nil => rfl
  | cons x r =>
    unfold Array.eraseIdxIfInBounds
    rw [dif_pos (by simp)]
    rw [List.eraseIdx_toArray]
    congr 1
    rw [List.eraseIdx_eq_dropLast (by simp)]

theorem tr_pop {ov : Expr} {apos pos : Pos} {oo : Out V} (hbase : plainBase ov = true) (hline : (apos.endLine == pos.line) = true)
    (h1 : Tr G X n ds vs (eval ov X.env) (RV G) ρ σ oo) :
    Tr G X n ds vs (eval (.Call (.Attribute ov (Str.ofString "pop") apos) [] [] pos) X.env) (RV G) ρ σ (bindO oo fun u ρ σ => match u with
      | .ref r => match σ[r]? with
        | some (.list l) => match l.getLast? with
          | some v => if l.length ≤ 100000 then some (.ok v, ρ, σ.set r (.list l.dropLast)) else none
          | none => none
        | _ => none
      | _ => none) := by
  refine tr_method hbase rfl (by show 0 < 29; lia) hline PySem.F.plainAttrs_list PySem.F.slot_list_pop PySem.F.type_list_pop h1 (fun b ρ₁ σ₁ hne s Y a hD ra => ?_) fun b ρ₁ σ₁ a hb9 => ?_
  · split at hne
    · rename_i r
      split at hne
      · rename_i l hc
        exact ref_is_list (o := none) rfl hc hD ra
      · exact absurd rfl hne
    · exact absurd rfl hne
  · split
    · rename_i r
      split
      · rename_i l hc
        split
        · rename_i v hv
          split
          · rename_i hz
            intro A s Y Q E hA hD hR kk
            refine Classical.byContradiction fun ng => ?_
            obtain ⟨xr, gx, hi⟩ := hR.head.isRef
            rw [gx] at ng
            obtain ⟨us, m, g, rl⟩ := hD.mem.cell _ _ _ hi hc
            have z1 := rl.length
            obtain ⟨st, d'⟩ := hD.list_set (f := fun xs => xs.eraseIdxIfInBounds (us.toArray.size - 1)) (us' := us.dropLast) hi g (erase_last us) rl.dropLast
            rw [List.getLast?_eq_getElem?] at hv
            obtain ⟨u, hu, ru⟩ := rl.get hv
            refine ng (PySem.P.pop_list g (y := u) (by rw [List.size_toArray, z1]; simpa using hu) ?_ (by rw [List.size_toArray, sizeLine_eq]; lia))
            exact (kk _ s.toks Y st d').1 _ rfl _ (ru.mono (st.moves hD))
          · trivial
        · trivial
      · trivial
    · trivial
end
end Mine

end

section
set_option genInjectivity false
open PySem PySem.W PyProof.Rows
set_option maxRecDepth 100000
namespace Mine

noncomputable def attrTab : List Str := [Str.ofString "kind", Str.ofString "word", Str.ofString "args", Str.ofString "operands", Str.ofString "operators"]

structure GL (G : Gx) : Prop where
  K : G.K.In G.base
  get : ∀ (k : Nat) (x : Str), attrTab[k]? = some x → plainGet G.K G.lvl.lvl x = true ∧ findIn G.K (.ref G.lvl.lvl) x = some none
  hasD : hasDictIn G.K G.lvl.lvl = true

theorem Rp.handed {D : Dd} {h : Heap} {Y : Lay} {v : V} {u : Value} (x : Rp D h Y v u) : handedIn u = true := by cases x <;> rfl

section
variable {G : Gx} {X : Fx} {n : Nat} {ds : List V} {vs : List Value} {ρ : Loc} {σ : Mem}

theorem Rp.lvl_at {D : Dd} {h : Heap} {Y : Lay} {f1 f2 f3 f4 f5 : V} {a : Value} (x : Rp D h Y (.lvl f1 f2 f3 f4 f5) a) : ∃ o d es sl, a = .ref o ∧ h.get? o = some (⟨.ref D.lvl, some d, .plain, sl⟩ : Obj) ∧ DictAt h d es ∧
    ∀ (k : Nat) (x : Str) (r : V), attrTab[k]? = some x → [f1, f2, f3, f4, f5][k]? = some r → ∃ u, Rp D h Y r u ∧ getL x es = some (some u) := by
  cases x with
  | lvl hx hd hn hf hz ek ew ea eo ep hr =>
  refine ⟨_, _, _, _, rfl, hx, hd, fun k x r hk hr' => ?_⟩
  obtain ⟨u, hu, ru⟩ := hr.get hr'
  refine ⟨u, ru, ?_⟩
  match k, hk, hu with
  | 0, hk, hu => cases hk; cases hu; exact ek
  | 1, hk, hu => cases hk; cases hu; exact ew
  | 2, hk, hu => cases hk; cases hu; exact ea
  | 3, hk, hu => cases hk; cases hu; exact eo
  | 4, hk, hu => cases hk; cases hu; exact ep
theorem attr_core {k : Nat} {x : Str} {b r : V} {a : Value} {A : Around} {s : Shared} {Y : Lay} {Q : Value → Shared → Prop} {E : Value → Shared → Prop} (F : GL G) (hk : attrTab[k]? = some x) (hb : G.base.StaysIn s.heap) (rb : Rp G.lvl s.heap Y b a) (hr : attrOf k b = some r)
    (kk : ∀ tk a, RV G s.heap Y r a → Q a { s with toks := tk }) : wpAny (model G.prog G.w) A (getAttr a x true) Q E s := by
  refine Classical.byContradiction fun ng => ?_
  cases b with
  | lvl f1 f2 f3 f4 f5 =>
    obtain ⟨o, d, es, sl, e, hx, ⟨m, hd⟩, hall⟩ := rb.lvl_at
    obtain ⟨u, ru, e2⟩ := hall k x r hk hr
    obtain ⟨g1, g2⟩ := F.get k x hk
    have I : PySem.W.InstAt s.heap o _ G.lvl.lvl (some (dictOf es m)) := ⟨hx, rfl, rfl, hd⟩
    rw [e] at ng
    exact ng (get_value (F.K.keeps hb) I (plainGet_of g1).1 (findObj_own F.hasD g2 rfl e2) ru.handed (kk _ _ ru))
  | _ => cases hr
theorem tr_attr {k : Nat} {x : Str} {value : Expr} {pos : Pos} {o : Out V} (F : GL G) (hk : attrTab[k]? = some x) (h : Tr G X n ds vs (eval value X.env) (RV G) ρ σ o)
    (he : eval (.Attribute value x pos) X.env = (do
      let o ← eval value X.env
      standAt pos.atName
      let r ← holding [o] (getAttr o x true)
      letTemporaryGo value o r
      pure r)) :
    Tr G X n ds vs (eval (.Attribute value x pos) X.env) (RV G) ρ σ (bindO o fun u ρ σ => retO ρ σ (attrOf k u)) :=
  (TrW.bindV (K := fun a => tree G (getAttr a x true)) h fun b ρ₁ σ₁ a hb9 => tr_some fun r hr => TrW.one fun A s Y Q E hA hD hR kk => attr_core F hk hD.stays hR.head hr kk).into fun A Q E s _ h => Attribute_any_ h he
end
end Mine

end

section
set_option genInjectivity false
open PySem PySem.W PyProof.Rows
set_option maxRecDepth 100000
namespace Mine

/-- what the noting of a frame leaves -/
structure Still (old h h' : Heap) (fr : List Addr) : Prop where
  keep : ∀ b o, h.get? b = some o → b ∉ fr → (old.get? b = none → ∀ vs, o.data ≠ .fields vs) → h'.get? b = some o
  slots : ∀ b o, h.get? b = some o → b ∈ fr → ∃ sl, h'.get? b = some { o with slots := sl }
  live : ∀ b o, h.get? b = some o → old.get? b ≠ none → ∃ o', h'.get? b = some o'

theorem Still.refl (old h : Heap) (fr : List Addr) : Still old h h fr := ⟨fun _ _ e _ _ => e, fun _ o e _ => ⟨o.slots, e⟩, fun _ o e _ => ⟨o, e⟩⟩

theorem Still.step {old h h' : Heap} {L : Addr} {Y Y' : Lay} (t : Still old h h' Y'.fr) (x : Step L old Y h Y') : Step L old Y h' Y' := by
  refine ⟨x.pre, x.fr, x.no, fun b o e => ?_, x.fresh, fun b o e hm hf => ?_, fun b o e hf hL => ?_⟩
  · obtain ⟨o', e'⟩ := x.live b o e; exact t.live b o' e' (by rw [e]; exact fun q => nomatch q)
  · exact t.keep b o (x.keep b o e hm hf) (by rw [x.fr]; exact hf) fun q => by rw [e] at q; cases q
  · obtain ⟨sl, e'⟩ := x.slots b o e hf hL
    obtain ⟨sl', e''⟩ := t.slots b _ e' (by rw [x.fr]; exact hf)
    exact ⟨sl', e''⟩

section
variable {G : Gx} {X : Fx} {n : Nat} {ds : List V} {vs : List Value} {ρ : Loc} {σ : Mem}

theorem fun_new {h : Heap} {l : List Env} (F : h.FunFrames G.base l) : ∀ b ∈ l.filterMap (·.frame), G.base.get? b = none ∧ ∃ o, h.get? b = some o ∧ ∀ vs, o.data ≠ .fields vs := fun b hb => by
  obtain ⟨h1, o, h2, h3⟩ := F.mem hb
  exact ⟨h1, o, h2, h3⟩

theorem Still.moves {old h h' : Heap} {Y : Lay} (t : Still old h h' Y.fr) (d : Dyn G X h Y ρ σ) : Moves G.lvl h Y h' Y := by
  refine ⟨fun b o e hm ⟨xs, n, hd⟩ => ⟨?_, hm⟩, fun b o e hn hm hf => ⟨t.keep b o e hf fun _ => hn, hm, hf⟩, fun b o e hm => ?_, fun b o e hf => ?_, fun _ _ e => e, rfl⟩
  · refine t.keep b o e (fun q => ?_) fun _ vs q => (by rw [hd] at q; cases q)
    obtain ⟨es, n, hd'⟩ := frs_ne d.frs e q
    rw [hd] at hd'; cases hd'
  · rcases cell_cls d.mem e hm with q | q <;> rw [q] <;> exact ⟨(by decide), (by intro z; cases z)⟩
  · exact frs_ne d.frs e hf

theorem Still.dyn {old h h' : Heap} {Y : Lay} (t : Still old h h' Y.fr) (hb : G.base.StaysIn old) (hno : ∀ a ∈ Y.no, old.get? a ≠ none) (d : Dyn G X h Y ρ σ) : Dyn G X h' Y ρ σ := by
  have m := t.moves d
  have hfr : ∀ b ∈ Y.fr, G.base.get? b = none := fun b hb => by rw [d.fr] at hb; exact (fun_new d.funs b hb).1
  refine ⟨fun b o e => t.keep b o (d.stays b o e) (fun q => by rw [hfr b q] at e; cases e) (fun q => by rw [hb b o e] at q; cases q), d.funs.of_keeps fun b o e hn => ?_, d.fr, fun b hb => ?_, ⟨d.mem.len, d.mem.nodup, d.mem.new, d.mem.apart, fun i a c hi hc => ?_⟩, (fun b hb => ⟨(d.no b hb).1, by obtain ⟨o, e⟩ := (d.no b hb).2; exact t.live b o e (hno b hb)⟩), ?_⟩
  · by_cases q : b ∈ Y.fr
    · obtain ⟨sl, e'⟩ := t.slots b o e q; exact ⟨_, e', rfl⟩
    · exact ⟨o, t.keep b o e q fun _ => hn, rfl⟩
  · obtain ⟨o, es, n, e, h1⟩ := d.frs b hb
    obtain ⟨sl, e'⟩ := t.slots b o e hb
    exact ⟨_, es, n, e', h1⟩
  · refine (d.mem.cell i a c hi hc).mono m fun o e => ?_
    refine t.keep a o e (d.mem.apart a (List.mem_of_getElem? hi)) fun _ vs q => ?_
    have z := d.mem.cell i a c hi hc
    cases c with
    | list l => obtain ⟨us, n, g, _⟩ := z; rw [e] at g; cases g; cases q
    | jug a' k => obtain ⟨vc, tk, ⟨o', es, ep, g, _, hd', _⟩, _⟩ := z; rw [e] at g; cases g; rw [hd'] at q; cases q
  · obtain ⟨mm, hm, hl⟩ := d.loc
    have hL : X.L ∈ Y.fr := by rw [d.fr]; exact List.mem_filterMap.mpr ⟨X.env, .head _, rfl⟩
    obtain ⟨o, es, ep, ho, hd, r⟩ := hm
    obtain ⟨sl, e'⟩ := t.slots _ _ ho hL
    refine ⟨mm, ⟨_, es, ep, e', hd, r⟩, fun i v e => ?_⟩
    obtain ⟨x, u, e1, e2, r⟩ := hl i v e
    exact ⟨x, u, e1, e2, r.mono m⟩

theorem wp_entry {M : Model} {A : Around} {E : Value → Shared → Prop} {s : Shared} {base : Heap} {env : Env} {outer : List Env} {L e d : Addr} {vs : Array Value} {sl : Array (Option Value)} {c head : Value} {hadNext : Bool} {Q : Unit → Shared → Prop}
    (hfr : A.frames = some (env :: outer)) (hl : s.heap.FunFrames base (env :: outer)) (hf : env.frame = some L)
    (he : s.heap.get? e = some ⟨c, some d, .fields vs, sl⟩) (hsz : 1 < vs.size)
    (h : ∀ h' T oT ts, (∀ b o, s.heap.get? b = some o → b ≠ e → b ∉ (env :: outer).filterMap (·.frame) → h'.get? b = some o) → (∀ b o, s.heap.get? b = some o → b ∈ (env :: outer).filterMap (·.frame) → ∃ sl, h'.get? b = some { o with slots := sl }) →
      s.heap.get? T = none → T ≠ e → h'.get? e = some ⟨c, some d, .fields (vs.setIfInBounds 1 (.ref T)), sl⟩ → h'.get? T = some oT → oT.data = .fields ts → ts[3]? = some (rawInt L) → Q () { s with heap := h' }) :
    wpAny M A (do let a ← frameOf env; let pl ← entryPlaceOf L hadNext; let b ← EntryCells.newEntry head a .none (rawInt L) .none pl; setField (.ref e) 1 b) Q E s := by
  have hene : e ∉ (env :: outer).filterMap (·.frame) := fun hm => by
    obtain ⟨_, o, ho, hnf⟩ := hl.mem hm
    rw [he] at ho; injection ho with ho; subst ho; exact hnf vs rfl
  refine wpAny_bind (wpAny_frameOf_fun hfr hl hf fun h₁ hs₁ => ?_)
  refine wpAny_bind (wpAny_entryPlaceOf fun pl hpl => ?_)
  unfold EntryCells.newEntry newFields
  refine wpAny_bind (wpAny_newObj_type ?_ (hpl.sizeOk5 _ _ _ _ _))
  have he₁ : h₁.get? e = some ⟨c, some d, .fields vs, sl⟩ := (hs₁.2.1 e hene).trans he
  have he₂ := Heap.get?_push_of_some (h := h₁) { cls := .type "traceback", dict := none, data := .fields ([head, .ref L, .none, rawInt L, .none] ++ (if pl.isEmpty then List.replicate 6 Value.none else pl)).toArray } he₁
  have hTn : s.heap.get? h₁.objs.size = none := by
    cases q : s.heap.get? h₁.objs.size with
    | none => rfl
    | some o =>
      obtain ⟨sl', e'⟩ := hs₁.2.2 _ _ q
      exact absurd (Heap.lt_size e') (Nat.lt_irrefl _)
  have hTe : h₁.objs.size ≠ e := Nat.ne_of_gt (Heap.lt_size he₁)
  have he₃ := Heap.get?_update_self (Obj.mapFields (·.setIfInBounds 1 (Value.ref h₁.objs.size))) he₂ rfl
  have hT₃ := (Heap.get?_update_other (h₁.push { cls := .type "traceback", dict := none, data := .fields ([head, .ref L, .none, rawInt L, .none] ++ (if pl.isEmpty then List.replicate 6 Value.none else pl)).toArray })
    (Obj.mapFields (·.setIfInBounds 1 (Value.ref h₁.objs.size))) (Ne.symm hTe)).trans (Heap.get?_push_size h₁ rfl)
  have keep : ∀ b o, b ≠ e → h₁.get? b = some o →
      ((h₁.push { cls := .type "traceback", dict := none, data := .fields ([head, .ref L, .none, rawInt L, .none] ++ (if pl.isEmpty then List.replicate 6 Value.none else pl)).toArray }).update e (Obj.mapFields (·.setIfInBounds 1 (Value.ref h₁.objs.size)))).get? b = some o :=
    fun b o hbe hb => by
      rw [Heap.get?_update_other _ _ (Ne.symm hbe)]
      exact Heap.get?_push_of_some _ hb
  refine wpAny_setField he₂ rfl hsz (h _ _ _ _ (fun b o e1 e2 e3 => keep b o e2 ((hs₁.2.1 b e3).trans e1)) (fun b o e1 e2 => ?_) hTn hTe he₃ hT₃ rfl ?_)
  · obtain ⟨sl', e'⟩ := hs₁.2.2 _ _ e1
    exact ⟨sl', keep b _ (fun q => hene (q ▸ e2)) e'⟩
  · first | (simp; done) | (rcases hpl with rfl | ⟨_, _, _, _, _, _, _, rfl⟩ <;> simp)

/-- with a traceback whose head is in flight so -/
noncomputable def ExcT (G : Gx) (old h : Heap) (e : Addr) (c : List Nat) (fl : Value) : Prop := ExcIs G old h e c (TrAt old h e fl)
theorem ExcT.at {old h : Heap} {L e : Addr} {c : List Nat} {fl : Value} (x : ExcT G old h e c fl) (hf : fl = .none ∨ fl = rawInt L) : ExcAt G old h L e c := by
  obtain ⟨n, vs, d, mA, od, sl, a1, a2, a3, a4, a5, a9⟩ := x
  exact ⟨n, vs, d, mA, od, sl, a1, a2, a3, a4, a5, .inr ⟨fl, a9, hf⟩⟩

theorem ExcAt.note {M : Model} {A : Around} {E : Value → Shared → Prop} {s : Shared} {old : Heap} {Y : Lay} {e : Addr} {c : List Nat} {Q : Unit → Shared → Prop}
    (hfr : A.frames = some (X.env :: X.outer)) (d : Dyn G X s.heap Y ρ σ) (hY : ∀ b ∈ Y.fr, old.get? b ≠ none) (hlive : ∀ b o, old.get? b = some o → ∃ o', s.heap.get? b = some o') (x : ExcAt G old s.heap X.L e c)
    (h : ∀ h', Still old s.heap h' Y.fr → ExcT G old h' e c (rawInt X.L) → Q () { s with heap := h' }) : wpAny M A (noteFrame (.ref e) X.env) Q E s := by
  refine Classical.byContradiction fun ng => ?_
  obtain ⟨n, vs, dd, mA, od, sl, a1, a2, a3, a4, a5, a9⟩ := x
  have hdf : dd ∉ Y.fr := fun q => hY dd q a2
  have hef : e ∉ Y.fr := fun q => hY e q n
  have hde : dd ≠ e := fun q => by rw [q, a1] at a3; cases a3; obtain ⟨⟨_, _, z⟩, _⟩ := a4; cases z
  have hlive' : ∀ b, s.heap.get? b = none → old.get? b = none := fun b hb => by
    cases q : old.get? b with
    | none => rfl
    | some o => obtain ⟨o', e'⟩ := hlive b o q; rw [hb] at e'; cases e'
  have hfr' : Y.fr = (X.env :: X.outer).filterMap (·.frame) := d.fr
  rcases a9 with a9 | ⟨fl, ⟨T, oT, ts, b1, b2, b3, b4, b5, b6⟩, hfl⟩
  · refine ng ?_
    clear ng
    unfold noteFrame
    show wpAny M A (field (.ref e) 1 >>= _) Q E s
    refine wpAny_bind (wpAny_field a1 rfl a9 ?_)
    rw [if_neg (by decide)]
    refine wp_entry hfr d.funs rfl a1 (Array.getElem?_eq_some_iff.mp a9).1 fun h' T oT ts k1 k2 k3 k4 k5 k6 k7 k8 => h h' ⟨fun b o e1 e2 e3 => ?_, fun b o e1 e2 => k2 b o e1 (hfr' ▸ e2), fun b o e1 _ => ?_⟩ ?_
    · refine k1 b o e1 (fun q => ?_) (hfr' ▸ e2)
      subst q
      rw [a1] at e1; cases e1
      exact e3 n _ rfl
    · by_cases q : b ∈ Y.fr
      · obtain ⟨sl', e'⟩ := k2 b o e1 (hfr' ▸ q); exact ⟨_, e'⟩
      · by_cases q2 : b = e
        · subst q2; exact ⟨_, k5⟩
        · exact ⟨o, k1 b o e1 q2 (hfr' ▸ q)⟩
    · refine ⟨n, _, dd, mA, od, sl, k5, a2, k1 _ _ a3 hde (hfr' ▸ hdf), a4, a5, T, oT, ts, ?_, k4, ?_, k6, k7, k8⟩
      · have := (Array.getElem?_eq_some_iff.mp a9).1
        simp [this]
      · exact hlive' _ k3
  · refine ng ?_
    clear ng
    unfold noteFrame
    show wpAny M A (field (.ref e) 1 >>= _) Q E s
    refine wpAny_bind (wpAny_field a1 rfl b1 ?_)
    rw [if_pos (show (Value.ref T != Value.none) = true from by simp)]
    refine wpAny_bind (wpAny_field b4 b5 b6 ?_)
    rcases hfl with rfl | rfl
    · rw [if_neg (show ¬ ((Value.none == rawInt X.L) = true) from by simp [rawInt])]
      refine wpAny_bind (wpAny_setField b4 b5 (Array.getElem?_eq_some_iff.mp b6).1 ?_)
      have other : ∀ b, b ≠ T → (s.heap.update T (Obj.mapFields (·.setIfInBounds 3 Value.none))).get? b = s.heap.get? b := fun b hb => Heap.get?_update_other _ _ (Ne.symm hb)
      have noRecord : ∀ b o, s.heap.get? b = some o → (∀ vs, o.data ≠ .fields vs) → b ≠ T := fun b o hb hnf q => by
        rw [q, b4] at hb; injection hb with hb; subst hb; exact hnf ts b5
      have hTf : T ∉ Y.fr := fun q => hY T q b3
      refine wp_entry (s := { s with heap := s.heap.update T (Obj.mapFields (·.setIfInBounds 3 Value.none)) }) hfr (d.funs.of_keeps fun b o hb hnf => ⟨o, (other b (noRecord b o hb hnf)).trans hb, rfl⟩) rfl ((other e (Ne.symm b2)).trans a1) (Array.getElem?_eq_some_iff.mp b1).1 fun h' T' oT' ts' k1 k2 k3 k4 k5 k6 k7 k8 => h h' ⟨fun b o e1 e2 e3 => ?_, fun b o e1 e2 => ?_, fun b o e1 _ => ?_⟩ ?_
      · refine k1 b o ((other b fun q => ?_).trans e1) (fun q => ?_) (hfr' ▸ e2)
        · subst q
          rw [b4] at e1; cases e1
          exact e3 b3 _ b5
        · subst q
          rw [a1] at e1; cases e1
          exact e3 n _ rfl
      · exact k2 b o ((other b fun q => hTf (q ▸ e2)).trans e1) (hfr' ▸ e2)
      · by_cases q3 : b = T
        · subst q3
          have u := Heap.get?_update_self (Obj.mapFields (·.setIfInBounds 3 Value.none)) b4 (Obj.isFreed_of_fields (Obj.data_mapFields b5 _))
          exact ⟨_, k1 b _ u b2 (hfr' ▸ hTf)⟩
        · by_cases q : b ∈ Y.fr
          · obtain ⟨sl', e'⟩ := k2 b o ((other b q3).trans e1) (hfr' ▸ q); exact ⟨_, e'⟩
          · by_cases q2 : b = e
            · subst q2; exact ⟨_, k5⟩
            · exact ⟨o, k1 b o ((other b q3).trans e1) q2 (hfr' ▸ q)⟩
      · have hdT : dd ≠ T := fun q => by rw [q, b4] at a3; cases a3; obtain ⟨⟨_, _, z⟩, _⟩ := a4; rw [b5] at z; cases z
        refine ⟨n, _, dd, mA, od, sl, k5, a2, k1 _ _ ((other dd hdT).trans a3) hde (hfr' ▸ hdf), a4, a5, T', oT', ts', ?_, k4, ?_, k6, k7, k8⟩
        · have := (Array.getElem?_eq_some_iff.mp b1).1
          simp [this]
        · refine hlive' _ ?_
          by_cases q : T' = T
          · subst q
            have u := Heap.get?_update_self (Obj.mapFields (·.setIfInBounds 3 Value.none)) b4 (Obj.isFreed_of_fields (Obj.data_mapFields b5 _))
            rw [u] at k3; cases k3
          · exact (other T' q).symm.trans k3
    · rw [if_pos (by simp)]
      exact wpAny_pure (h _ (Still.refl ..) ⟨n, vs, dd, mA, od, sl, a1, a2, a3, a4, a5, T, oT, ts, b1, b2, b3, b4, b5, b6⟩)

theorem ExcT.flight {M : Model} {A : Around} {E : Value → Shared → Prop} {s : Shared} {old : Heap} {fr : List Addr} {e : Addr} {c : List Nat} {fl : Value} {f : Option Addr} {Q : Unit → Shared → Prop}
    (hY : ∀ b ∈ fr, old.get? b ≠ none) (x : ExcT G old s.heap e c fl)
    (h : ∀ h', Still old s.heap h' fr → ExcT G old h' e c (f.elim .none fun a => rawInt a) → Q () { s with heap := h' }) : wpAny M A (setFlight (.ref e) f) Q E s := by
  obtain ⟨n, vs, dd, mA, od, sl, a1, a2, a3, a4, a5, T, oT, ts, b1, b2, b3, b4, b5, b6⟩ := x
  have other : ∀ b, b ≠ T → (s.heap.update T (Obj.mapFields (·.setIfInBounds 3 (f.elim .none fun a => rawInt a)))).get? b = s.heap.get? b := fun b hb => Heap.get?_update_other _ _ (Ne.symm hb)
  have u := Heap.get?_update_self (Obj.mapFields (·.setIfInBounds 3 (f.elim .none fun a => rawInt a))) b4 (Obj.isFreed_of_fields (Obj.data_mapFields b5 _))
  have hTf : T ∉ fr := fun q => hY T q b3
  have hdT : dd ≠ T := fun q => by rw [q, b4] at a3; cases a3; obtain ⟨⟨_, _, z⟩, _⟩ := a4; rw [b5] at z; cases z
  have hsz := (Array.getElem?_eq_some_iff.mp b6).1
  unfold setFlight
  refine wpAny_bind (wpAny_field a1 rfl b1 ?_)
  rw [if_pos (show (Value.ref T != Value.none) = true from by simp)]
  refine wpAny_setField b4 b5 hsz (h _ ⟨fun b o e1 e2 e3 => ?_, fun b o e1 e2 => ⟨o.slots, (other b fun q => hTf (q ▸ e2)).trans e1⟩, fun b o e1 _ => ?_⟩ ?_)
  · refine (other b fun q => ?_).trans e1
    subst q
    rw [b4] at e1; cases e1
    exact e3 b3 _ b5
  · by_cases q : b = T
    · subst q; exact ⟨_, u⟩
    · exact ⟨o, (other b q).trans e1⟩
  · exact ⟨n, vs, dd, mA, od, sl, (other e (Ne.symm b2)).trans a1, a2, (other dd hdT).trans a3, a4, a5, T, _, _, b1, b2, b3, u, Obj.data_mapFields b5 _, by simp [hsz]⟩

theorem Still.trans {old h h' h'' : Heap} {fr : List Addr} (x : Still old h h' fr) (y : Still old h' h'' fr) : Still old h h'' fr := by
  refine ⟨fun b o e1 e2 e3 => y.keep b o (x.keep b o e1 e2 e3) e2 e3, fun b o e1 e2 => ?_, fun b o e1 e0 => ?_⟩
  · obtain ⟨sl, e'⟩ := x.slots b o e1 e2
    obtain ⟨sl', e''⟩ := y.slots b _ e' e2
    exact ⟨sl', e''⟩
  · obtain ⟨o', e'⟩ := x.live b o e1 e0
    exact y.live b o' e' e0

/-- out of a loop or a block of the same frame -/
theorem ExcAt.back {M : Model} {A : Around} {E : Value → Shared → Prop} {s : Shared} {old : Heap} {Y : Lay} {e : Addr} {c : List Nat}
    (hfr : A.frames = some (X.env :: X.outer)) (d : Dyn G X s.heap Y ρ σ) (hY : ∀ b ∈ Y.fr, old.get? b ≠ none) (hlive : ∀ b o, old.get? b = some o → ∃ o', s.heap.get? b = some o') (x : ExcAt G old s.heap X.L e c)
    (h : ∀ h', Still old s.heap h' Y.fr → ExcAt G old h' X.L e c → E (.ref e) { s with heap := h' }) :
    notedBy M A X.env (cameBackBy M A X.env E) (.ref e) s := by
  unfold notedBy
  refine x.note hfr d hY hlive fun h1 st1 x1 => ?_
  unfold cameBackBy
  have x1' := x1
  obtain ⟨n, vs, dd, mA, od, sl, a1, a2, a3, a4, a5, T, oT, ts, b1, b2, b3, b4, b5, b6⟩ := x1'
  refine wpAny_bind (wpAny_field a1 rfl b1 ?_)
  rw [if_neg (by simp)]
  refine ExcT.flight (fr := Y.fr) hY x1 fun h2 st2 x2 => ?_
  exact h h2 (st1.trans st2) (x2.at (.inr rfl))

/-- out of a def -/
theorem ExcAt.leave {M : Model} {A : Around} {E : Value → Shared → Prop} {s : Shared} {old : Heap} {Y : Lay} {e : Addr} {c : List Nat} {Q : Unit → Shared → Prop}
    (hfr : A.frames = some (X.env :: X.outer)) (d : Dyn G X s.heap Y ρ σ) (hY : ∀ b ∈ Y.fr, old.get? b ≠ none) (hlive : ∀ b o, old.get? b = some o → ∃ o', s.heap.get? b = some o') (x : ExcAt G old s.heap X.L e c)
    (h : ∀ h', Still old s.heap h' Y.fr → ExcT G old h' e c .none → Q () { s with heap := h' }) : wpAny M A (leaving X.env (.ref e)) Q E s := by
  unfold leaving
  refine wpAny_bind (x.note hfr d hY hlive fun h1 st1 x1 => ?_)
  exact ExcT.flight (fr := Y.fr) hY x1 fun h2 st2 x2 => h h2 (st1.trans st2) x2
end
end Mine

end

section
set_option genInjectivity false
open PySem PySem.W PyProof.Rows
set_option maxRecDepth 100000
namespace Mine

noncomputable def RF (G : Gx) : Heap → Lay → Fl → Flow → Prop := fun h Y f g => match f, g with
  | .next, .next => True
  | .ret v, .ret u => Rp G.lvl h Y v u
  | _, _ => False
noncomputable def RU : Heap → Lay → Unit → Unit → Prop := fun _ _ _ _ => True

noncomputable def fds (f : Fl) (ds : List V) : List V := match f with
  | .next => ds
  | .ret v => v :: ds
noncomputable def fvs (f : Flow) (vs : List Value) : List Value := match f with
  | .ret v => v :: vs
  | _ => vs
theorem RF.push {G : Gx} {h : Heap} {Y : Lay} {f : Fl} {g : Flow} {ds : List V} {vs : List Value} (r : RF G h Y f g) (x : Rps G.lvl h Y ds vs) : Rps G.lvl h Y (fds f ds) (fvs g vs) := by
  cases f <;> cases g <;> first | exact x | exact .cons r x | cases r

noncomputable def notComp : Expr → Bool
  | .ListComp .. => false
  | .SetComp .. => false
  | .DictComp .. => false
  | _ => true
theorem notComp_swaps {e : Expr} (h : notComp e = true) (t : Option Expr) (l : Nat) (env : Env) : swapsWith e t l env = pure false := by cases e <;> first | rfl | cases h

section
variable {G : Gx} {X : Fx} {n : Nat} {ds : List V} {vs : List Value} {ρ : Loc} {σ : Mem}

theorem Dyn.store {h h' : Heap} {Y : Lay} {i : Nat} {x : Str} {v : V} {u : Value} {m : Str → Option Value} (d : Dyn G X h Y ρ σ) (hx : X.ns[i]? = some x) (hnd : X.ns.Nodup) (hm : h.Ns X.L m) (hl : LocAt G h Y X.ns m ρ)
    (hn : h'.Ns X.L (fun y => if y = x then some u else m y)) (hs : Heap.SameBut X.L h h') (hr : Rp G.lvl h Y v u) : Step X.L h Y h' Y ∧ Dyn G X h' Y (ρ.set i (some v)) σ := by
  have hL : X.L ∈ Y.fr := by rw [d.fr]; exact List.mem_filterMap.mpr ⟨X.env, .head _, rfl⟩
  obtain ⟨oL, es, ep, hoL, hdL, _⟩ := id hn
  have st : Step X.L h Y h' Y := by
    refine ⟨fun _ _ e => e, rfl, rfl, fun b o e => ?_, fun _ x y => absurd x y, fun b o e hb hf => (hs.2 b fun q => hf (q ▸ hL)).trans e, fun b o e hb hb2 => ⟨o.slots, (hs.2 b hb2).trans e⟩⟩
    by_cases q : b = X.L
    · rw [q]; exact ⟨_, hoL⟩
    · exact ⟨o, (hs.2 b q).trans e⟩
  have mv := st.moves d
  have hnb : ∀ b o, G.base.get? b = some o → b ≠ X.L := fun b o e q => by
    have := (fun_new d.funs X.L (List.mem_filterMap.mpr ⟨X.env, .head _, rfl⟩)).1
    rw [← q, e] at this; cases this
  refine ⟨st, fun b o e => (hs.2 b (hnb b o e)).trans (d.stays b o e), ?_, d.fr, fun b hb => ?_, ⟨d.mem.len, d.mem.nodup, d.mem.new, d.mem.apart, fun j a c hi hc => ?_⟩, (fun b hb => ⟨(d.no b hb).1, by obtain ⟨o, e⟩ := (d.no b hb).2; exact st.live b o e⟩), _, hn, fun j w e => ?_⟩
  · have : ∀ l : List Env, h.FunFrames G.base l → h'.FunFrames G.base l := by
      intro l
      induction l with
      | nil => intro _; trivial
      | cons env l ih =>
        intro ⟨hk, ⟨L, o, hf, hn', ho, hd⟩, hr⟩
        refine ⟨hk, ?_, ih hr⟩
        by_cases q : L = X.L
        · exact ⟨L, oL, hf, hn', q ▸ hoL, fun vs z => by rw [hdL] at z; cases z⟩
        · exact ⟨L, o, hf, hn', (hs.2 L q).trans ho, hd⟩
    exact this _ d.funs
  · by_cases q : b = X.L
    · subst q; exact ⟨_, _, _, hoL, hdL⟩
    · obtain ⟨o, es, n, e, r⟩ := d.frs b hb
      exact ⟨o, es, n, (hs.2 b q).trans e, r⟩
  · refine (d.mem.cell j a c hi hc).mono mv fun o e => (hs.2 a fun q => ?_).trans e
    exact d.mem.apart a (List.mem_of_getElem? hi) (q ▸ hL)
  · by_cases q : j = i
    · subst q
      have hlt := (List.getElem?_eq_some_iff.mp e).1
      rw [List.getElem?_set_self (by simpa using hlt)] at e
      cases e
      exact ⟨x, u, hx, by simp, hr.mono mv⟩
    · rw [List.getElem?_set_ne (fun z => q z.symm)] at e
      obtain ⟨y, u', e1, e2, r⟩ := hl j w e
      refine ⟨y, u', e1, ?_, r.mono mv⟩
      have hyx : y ≠ x := fun z => by
        subst z
        have h1 := List.getElem?_eq_some_iff.mp e1
        have h2 := List.getElem?_eq_some_iff.mp hx
        exact q ((List.getElem_inj hnd).mp (h1.2.trans h2.2.symm))
      simp [hyx, e2]

theorem tr_store {i : Nat} {x : Str} {v : V} {u : Value} (hk : X.sc.kind = .function) (hx : X.ns[i]? = some x) (hl : X.sc.names.lookup x = some .local) (hnd : X.ns.Nodup) :
    TrW G X n (v :: ds) (u :: vs) (tree G (storeName X.env x u)) RU ρ σ (some (.ok (), ρ.set i (some v), σ)) := by
  intro A s Y Q E hA hD hR kk
  obtain ⟨m, hm, hloc⟩ := hD.loc
  refine wpAny_storeName_local (env := X.env) hl hm (fun h' hn hs => ?_) (by show (X.sc.kind == .class || (X.sc.kind == .module && X.L != mainGlobals)) = false; rw [hk]; rfl)
  obtain ⟨st, d'⟩ := hD.store hx hnd hm hloc hn hs hR.head
  exact (kk h' _ Y st d').1 () rfl () trivial

theorem tr_asg {i : Nat} {x : Str} {value : Expr} {px pos : Pos} {o : Out V} (hk : X.sc.kind = .function) (hx : X.ns[i]? = some x) (hl : X.sc.names.lookup x = some .local) (hnd : X.ns.Nodup) (hs : notComp value = true)
    (h : Tr G X n ds vs (eval value X.env) (RV G) ρ σ o) :
    Tr G X n ds vs (exec (.Assign [.Name x px] value pos) X.env) (RF G) ρ σ (bindO o fun v ρ σ => some (.ok .next, ρ.set i (some v), σ)) := by
  refine (TrW.bindV (K := fun u => fun A Q E s => wpAny (model G.prog G.w) A (storeName X.env x u) (fun _ s' => Q .next s') E s) h fun b ρ₁ σ₁ a hb9 => ?_).into fun A Q E s _ h => wpAny_Assign_Name h (notComp_swaps hs _ _ _)
  intro A s Y Q E hA hD hR kk
  exact tr_store hk hx hl hnd A s Y _ E hA hD hR fun h' tk Y' st d' => ⟨fun _ _ _ _ => (kk h' tk Y' st d').1 _ rfl _ trivial, fun c e => nomatch e⟩

theorem tr_ret {value : Expr} {pos : Pos} {o : Out V} (h : Tr G X n ds vs (eval value X.env) (RV G) ρ σ o) :
    Tr G X n ds vs (exec (.Return (some value) pos) X.env) (RF G) ρ σ (bindO o fun v ρ σ => some (.ok (.ret v), ρ, σ)) := by
  refine (TrW.bindV (K := fun u => fun A Q E s => Q (.ret u) s) h fun b ρ₁ σ₁ a hb9 => ?_).into fun A Q E s _ h => wpAny_Return_some h
  exact TrW.one fun A s Y Q E hA hD hR kk => kk s.toks _ hR.head

theorem tr_expr {value : Expr} {pos : Pos} {o : Out V} (hk : X.sc.kind = .function) (hs : notComp value = true) (h : Tr G X n ds vs (eval value X.env) (RV G) ρ σ o) :
    Tr G X n ds vs (exec (.Expr value pos) X.env) (RF G) ρ σ (bindO o fun _ ρ σ => some (.ok .next, ρ, σ)) := by
  refine (TrW.bindV (K := fun u => fun A Q E s => Q .next s) h fun b ρ₁ σ₁ a hb9 => ?_).into fun A Q E s _ h => wpAny_Expr_any h (by show (X.sc.kind == .module && _) = false; rw [hk]; rfl) (notComp_swaps hs _ _ _)
  exact TrW.one fun A s Y Q E hA hD hR kk => kk s.toks _ trivial

theorem tr_ife {test : Expr} {a b : List Stmt} {pos : Pos} {o : Out Bool} {f g : Loc → Mem → Out Fl} (h : Tr G X n ds vs (isTrue test X.env (eval test X.env)) RB ρ σ o)
    (h1 : ∀ ρ σ, Tr G X n ds vs (execs a X.env) (RF G) ρ σ (f ρ σ)) (h2 : ∀ ρ σ, Tr G X n ds vs (execs b X.env) (RF G) ρ σ (g ρ σ)) :
    Tr G X n ds vs (exec (.If test a b pos) X.env) (RF G) ρ σ (bindO o fun x ρ σ => if x then f ρ σ else g ρ σ) := by
  refine (TrW.bindB (K := fun c => fun A Q E s => if c then wpAny (model G.prog G.w) A (execs a X.env) Q E s else wpAny (model G.prog G.w) A (execs b X.env) Q E s) h fun c ρ₁ σ₁ => ?_).into fun A Q E s _ h => wpAny_If h
  cases c with
  | true => exact h1 _ _
  | false => exact h2 _ _

theorem tr_stmts_nil : Tr G X n ds vs (execs [] X.env) (RF G) ρ σ (some (.ok .next, ρ, σ)) :=
  Tr.one fun A s Y Q E hA hD hR kk => wpAny_execs_nil (kk s.toks _ trivial)

theorem tr_stmts_cons {st : Stmt} {rest : List Stmt} {o : Out Fl} {g : Loc → Mem → Out Fl} (h : Tr G X n ds vs (exec st X.env) (RF G) ρ σ o) (h2 : ∀ ρ σ, Tr G X n ds vs (execs rest X.env) (RF G) ρ σ (g ρ σ)) :
    Tr G X n ds vs (execs (st :: rest) X.env) (RF G) ρ σ (bindO o fun f ρ σ => match f with
      | .next => g ρ σ
      | .ret v => some (.ok (.ret v), ρ, σ)) := by
  refine (TrW.bind (ds1 := fun f => fds f ds) (vs1 := fun f => fvs f vs) (K := fun f => fun A Q E s => match f with | .next => wpAny (model G.prog G.w) A (execs rest X.env) Q E s | f => Q f s) h (fun _ _ _ _ x y => x.push y) fun b ρ₁ σ₁ a hb9 => ?_).into fun A Q E s _ h => wpAny_execs_cons h
  cases b with
  | next =>
    have e : a = .next := by obtain ⟨_, _, z⟩ := hb9; cases a <;> first | rfl | cases z
    subst e
    exact h2 _ _
  | ret v =>
    have e : ∃ u, a = .ret u := by obtain ⟨_, _, z⟩ := hb9; cases a <;> first | exact ⟨_, rfl⟩ | cases z
    obtain ⟨u, rfl⟩ := e
    exact TrW.one fun A s Y Q E hA hD hR kk => kk s.toks _ hR.head

theorem TrW.load {α β : Type} {i : Nat} {x : Str} {u : V} {K : Value → PT α} {rel : Heap → Lay → β → α → Prop} {o : Out β} (hk : X.sc.kind = .function) (hx : X.ns[i]? = some x) (hl : X.sc.names.lookup x = some .local) (hu : ρ[i]? = some (some u))
    (h : ∀ a, (∃ h Y, Rp G.lvl h Y u a) → TrW G X n (u :: ds) (a :: vs) (K a) rel ρ σ o) : TrW G X n ds vs (fun A Q E s => wpAny (model G.prog G.w) A (loadName X.env x) (fun a s₁ => K a A Q E s₁) E s) rel ρ σ o := by
  rcases o with _ | ⟨r, ρ', σ'⟩
  · trivial
  · intro A s Y Q E hA hD hR kk
    obtain ⟨m, hm, hloc⟩ := hD.loc
    obtain ⟨x', u', hx', hu', hr⟩ := hloc i u hu
    rw [hx] at hx'; cases hx'
    exact wpAny_loadName_local hk hl hm hu' (h u' ⟨_, _, hr⟩ A s Y Q E hA hD (.cons hr hR) kk)

theorem tr_aug {i : Nat} {x : Str} {value : Expr} {px pos : Pos} {o : Out V} (hk : X.sc.kind = .function) (hx : X.ns[i]? = some x) (hl : X.sc.names.lookup x = some .local) (hnd : X.ns.Nodup) {op : Operator}
    (h : ∀ ds vs, Tr G X n ds vs (eval value X.env) (RV G) ρ σ o) :
    Tr G X n ds vs (exec (.AugAssign (.Name x px) op value pos) X.env) (RF G) ρ σ (match ρ[i]? with
      | some (some u) => bindO o fun v ρ σ => augO op i u v ρ σ
      | _ => none) := by
  split
  · rename_i u hu
    refine (TrW.load (K := fun old => fun A Q E s => wpAny (model G.prog G.w) A (eval value X.env) (fun v s₂ => wpAny (model G.prog G.w) A (inplaceOp op old v)
      (fun r s₃ => wpAny (model G.prog G.w) A (storeName X.env x r) (fun _ s' => Q Flow.next s') E s₃) E s₂) E s) hk hx hl hu fun a ha9 => ?_).into fun A Q E s _ h => wpAny_AugAssign_Name h
    refine TrW.bindV (K := fun v => fun A Q E s => wpAny (model G.prog G.w) A (inplaceOp op a v) (fun r s₃ => wpAny (model G.prog G.w) A (storeName X.env x r) (fun _ s' => Q Flow.next s') E s₃) E s) (h (u :: ds) (a :: vs)) fun b ρ₁ σ₁ c hb9 => ?_
    unfold augO
    split
    · intro A s Y Q E hA hD hR kk
      cases hR.head
      cases hR.tail.head
      refine PyProof.Rows.iadd_int ?_
      exact tr_store (n := n) (ds := ds) (vs := vs) (v := .int _) hk hx hl hnd A _ Y _ E hA hD (.cons (.int _ _) hR.tail.tail) fun h' tk Y' st d' => ⟨fun _ _ _ _ => (kk h' tk Y' st d').1 _ rfl _ trivial, fun c e => nomatch e⟩
    · trivial
  · trivial
end
end Mine

end

section
set_option genInjectivity false
open PySem PySem.W PyProof.Rows
set_option maxRecDepth 100000
namespace Mine

noncomputable def isLocal (sc : Scope) (x : Str) : Bool := match sc.names.lookup x with
  | some .local => true
  | _ => false
theorem isLocal_of {sc : Scope} {x : Str} (h : isLocal sc x = true) : sc.names.lookup x = some .local := by
  unfold isLocal at h
  split at h
  · assumption
  · cases h

noncomputable def wS {α : Type} (o : Option α) (k : α → Bool) : Bool := match o with | some a => k a | none => false
theorem wS_of {α : Type} {o : Option α} {k : α → Bool} (h : wS o k = true) : ∃ a, o = some a ∧ k a = true := by cases o with | none => cases h | some a => exact ⟨a, rfl, h⟩
theorem al {a b : Bool} (h : (a && b) = true) : a = true := (Bool.and_eq_true_iff.mp h).1
theorem ar {a b : Bool} (h : (a && b) = true) : b = true := (Bool.and_eq_true_iff.mp h).2
theorem eqS {x y : Str} (h : (x == y) = true) : x = y := beq_iff_eq.mp h
noncomputable def uName (e : Expr) : Option {z : Str × Pos // e = .Name z.1 z.2} := match e with | .Name x q => some ⟨(x, q), rfl⟩ | _ => none
noncomputable def wName (e : Expr) (k : Str → Bool) : Bool := wS (uName e) fun z => k z.1.1
theorem wName_of {e : Expr} {k : Str → Bool} (h : wName e k = true) : ∃ z : {z : Str × Pos // e = .Name z.1 z.2}, k z.1.1 = true := by obtain ⟨z, _, h⟩ := wS_of h; exact ⟨z, h⟩

noncomputable def tgts (sc : Scope) (ns : List Str) : List Expr → List Nat → Bool
  | [], l => l.isEmpty
  | e :: r, l => wName e fun x => wS l.head? fun i => (ns[i]? == some x) && isLocal sc x && !l.tail.contains i && tgts sc ns r l.tail
theorem tgts_nil {sc : Scope} {ns : List Str} {l : List Nat} (h : tgts sc ns [] l = true) : l = [] := by
  cases l with
  | nil => rfl
  | cons _ _ => cases h
theorem tgts_cons {sc : Scope} {ns : List Str} {e : Expr} {r : List Expr} {l : List Nat} (h : tgts sc ns (e :: r) l = true) : ∃ x p i t, e = .Name x p ∧ l = i :: t ∧ ns[i]? = some x ∧ isLocal sc x = true ∧ i ∉ t ∧ tgts sc ns r t = true := by
  obtain ⟨z, h1⟩ := wName_of h
  cases l with
  | nil => cases h1
  | cons i t =>
    replace h1 : ((ns[i]? == some z.1.1) && isLocal sc z.1.1 && !t.contains i && tgts sc ns r t) = true := h1
    exact ⟨_, _, i, t, z.2, rfl, beq_iff_eq.mp (al (al (al h1))), ar (al (al h1)), by simpa using ar (al h1), ar h1⟩

noncomputable def notTuple : Expr → Bool
  | .Tuple .. => false
  | _ => true

noncomputable def noStar : Expr → Bool
  | .Starred .. => false
  | _ => true
noncomputable def lineOf (ts : List Expr) : Nat := (ts.head?.map (·.pos.line)).getD 0
noncomputable def namesOfT (sc : Scope) (ts : List Expr) : List Str := ts.filterMap fun
    | .Name id pos => if isLocal sc id && pos.line == lineOf ts then some id else none
    | _ => none

/-- what the swapping of a display's stores says -/
noncomputable def swapP (sc : Scope) (ts vs : List Expr) : Option (Option (List Str)) :=
  if (!(ts.length == 2 || ts.length == 3) || vs.length != ts.length) then some none
  else if !vs.all noStar then none
  else if (namesOfT sc ts).length != ts.length || (namesOfT sc ts).eraseDups.length != (namesOfT sc ts).length then none
  else if vs.all (foldedForSure 8) then some none
  else if vs.all (constantsAlone 8) then none
  else some (some (namesOfT sc ts))

theorem setAll_set {i : Nat} {v : V} : ∀ {l : List Nat} {vs : List V} {ρ : Loc}, i ∉ l → setAll l vs (ρ.set i (some v)) = (setAll l vs ρ).set i (some v)
  | [], _, _, _ => by rfl
  | j :: l, [], _, _ => by rfl
  | j :: l, u :: vs, ρ, h => by
    have h1 : i ≠ j := fun e => h (e ▸ .head _)
    have h2 : i ∉ l := fun e => h (.tail _ e)
    show setAll l vs ((ρ.set i (some v)).set j (some u)) = (setAll l vs (ρ.set j (some u))).set i (some v)
    rw [List.set_comm _ _ h1, setAll_set h2]
theorem setAll_snoc {i : Nat} {v : V} : ∀ {l : List Nat} {vs : List V} {ρ : Loc}, vs.length = l.length → setAll (l ++ [i]) (vs ++ [v]) ρ = (setAll l vs ρ).set i (some v)
  | [], [], _, _ => by rfl
  | [], _ :: _, _, h => by cases h
  | _ :: _, [], _, h => by cases h
  | j :: l, u :: vs, ρ, h => by
    show setAll (l ++ [i]) (vs ++ [v]) (ρ.set j (some u)) = _
    rw [setAll_snoc (by simpa using h)]; rfl
theorem setAll_reverse : ∀ {l : List Nat} {vs : List V} {ρ : Loc}, vs.length = l.length → l.Nodup → setAll l.reverse vs.reverse ρ = setAll l vs ρ
  | [], [], _, _, _ => by rfl
  | [], _ :: _, _, h, _ => by cases h
  | _ :: _, [], _, h, _ => by cases h
  | j :: l, u :: vs, ρ, h, hd => by
    obtain ⟨h1, h2⟩ := List.nodup_cons.mp hd
    rw [List.reverse_cons, List.reverse_cons, setAll_snoc (by simpa using h), setAll_reverse (by simpa using h) h2]
    show _ = setAll l vs (ρ.set j (some u))
    rw [setAll_set h1]

section
variable {G : Gx} {X : Fx} {n : Nat} {ds : List V} {vs : List Value} {ρ : Loc} {σ : Mem}

theorem swap_of {ts es : List Expr} {k k2 : Nat} {p p2 : Pos} {r : Option (List Str)} (hk : X.sc.kind = .function) (h : swapP X.sc ts es = some r) : swappedStores [.Tuple ts k p] (.Tuple es k2 p2) X.env = pure r := by
  have e1 : X.env.blockKind = .function := by
    show (if X.sc.kind.isAnnotationScope then ScopeKind.function else X.sc.kind) = _
    rw [hk]; rfl
  have e2 : (es.any fun | .Starred .. => true | _ => false) = !es.all noStar := by
    rw [List.not_all_eq_any_not]
    congr 1
    funext e
    cases e <;> rfl
  have e3 : (ts.filterMap fun
    | .Name id pos => if X.env.kindOf id == some .local && pos.line == lineOf ts then some id else none
    | _ => none) = namesOfT X.sc ts := by
    unfold namesOfT
    congr 1
    funext e
    cases e <;> try rfl
    rename_i id pos
    have : (X.env.kindOf id == some .local) = isLocal X.sc id := by
      show (X.sc.names.lookup id == some .local) = isLocal X.sc id
      unfold isLocal
      cases X.sc.names.lookup id with
      | none => rfl
      | some q => cases q <;> rfl
    show (if (X.env.kindOf id == some .local && pos.line == lineOf ts) then some id else none) = _
    rw [this]
  unfold swapP at h
  unfold swappedStores
  dsimp only
  simp only [e1]
  have q0 : (ScopeKind.function != ScopeKind.function) = false := rfl
  split at h
  · rename_i q
    cases h
    rw [q0, Bool.or_false]
    exact if_pos q
  · rename_i q1
    split at h
    · cases h
    · rename_i q2
      split at h
      · cases h
      · rename_i q3
        rw [q0, Bool.or_false]
        refine (if_neg q1).trans ((if_neg fun z => q2 (e2.symm.trans z)).trans ((if_neg fun z => q3 ?_).trans ?_))
        · rw [← e3]; exact z
        · split at h
          · rename_i q4
            cases h
            exact if_pos q4
          · rename_i q4
            split at h
            · cases h
            · rename_i q5
              cases h
              refine (if_neg q4).trans ((if_neg q5).trans ?_)
              rw [← e3]; rfl

theorem Rps.snoc {D : Dd} {h : Heap} {Y : Lay} : ∀ {bs : List V} {as : List Value}, Rps D h Y bs as → Rps D h Y bs.reverse as.reverse
  | _, _, .nil => .nil
  | _, _, .cons hd hr => by
    rw [List.reverse_cons, List.reverse_cons]
    exact hr.snoc.append' hd

theorem tr_stores (hk : X.sc.kind = .function) (hnd : X.ns.Nodup) {elts : List Expr} : ∀ {l : List Nat} {bs : List V} {as : List Value} {ρ : Loc}, tgts X.sc X.ns elts l = true → bs.length = l.length → as.length = l.length →
    TrW G X n (bs ++ ds) (as ++ vs) (tree G (assignInOrder ((assignEach elts X.env).map (·.2)) as)) RU ρ σ (some (.ok (), setAll l bs ρ, σ)) := by
  induction elts with
  | nil =>
    intro l bs as ρ h h1 h2
    cases tgts_nil h
    cases List.length_eq_zero_iff.mp h1
    cases List.length_eq_zero_iff.mp h2
    exact TrW.one fun A s Y Q E hA hD hR kk => wpAny_pure (kk s.toks _ trivial)
  | cons e elts ihe =>
    intro l bs as ρ h h1 h2
    obtain ⟨x, px, i, l', e1, e2, t1, t2, t3, t4⟩ := tgts_cons h
    clear h
    subst e1 e2
    cases bs with
    | nil => cases h1
    | cons b bs => cases as with
      | nil => cases h2
      | cons a as =>
        have ih := ihe (bs := bs) (as := as) (ρ := ρ.set i (some b)) t4 (Nat.succ.inj h1) (Nat.succ.inj h2)
        intro A s Y Q E hA hD hR kk
        show wpAny _ A (assignInOrder (assign (.Name x px) X.env :: (assignEach elts X.env).map (·.2)) (a :: as)) Q E s
        refine wpAny_bind (wpAny_holding (PyProof.Rows.assign_Name ?_))
        refine tr_store (n := n) (ds := bs ++ ds) (vs := as ++ vs) hk t1 (isLocal_of t2) hnd A s Y _ E hA hD hR fun h' tk Y' st d' => ⟨fun u e a' ha' => ?_, fun c e => nomatch e⟩
        exact ih A _ Y' Q E hA d' (hR.tail.mono (st.moves hD)) fun h'' tk' Y'' st' d'' => ⟨fun u e a ha => (kk h'' tk' Y'' (st.trans st') d'').1 u e a ha, fun c e => nomatch e⟩

theorem tgts_len {sc : Scope} {ns : List Str} {env : Env} {elts : List Expr} : ∀ {l : List Nat}, tgts sc ns elts l = true → (assignEach elts env).length = l.length ∧ (assignEach elts env).findIdx? (·.1) = none ∧ l.Nodup := by
  induction elts with
  | nil =>
    intro l h
    cases tgts_nil h
    exact ⟨rfl, rfl, List.nodup_nil⟩
  | cons e elts ih =>
    intro l h
    obtain ⟨x, px, i, l', e1, e2, t1, t2, t3, t4⟩ := tgts_cons h
    clear h
    subst e1 e2
    obtain ⟨h1, h2, h3⟩ := ih t4
    refine ⟨congrArg Nat.succ h1, ?_, List.nodup_cons.mpr ⟨t3, h3⟩⟩
    show List.findIdx? (·.1) ((false, _) :: assignEach elts env) = none
    rw [List.findIdx?_cons, h2]; rfl

theorem kp_ext {h h' : Heap} (he : Heap.ExtBut h.objs.size h h') : Keeps h h' := fun b o e => he b o (Nat.ne_of_lt (Heap.lt_size e)) e

theorem tr_asgT {elts : List Expr} {l : List Nat} {k : Nat} {value : Expr} {tp pos : Pos} {o : Out V} (hk : X.sc.kind = .function) (hnd : X.ns.Nodup) (ht : tgts X.sc X.ns elts l = true) (hs : notComp value = true) (hw : swappedStores [.Tuple elts k tp] value X.env = pure none)
    (h : Tr G X n ds vs (eval value X.env) (RV G) ρ σ o) :
    Tr G X n ds vs (exec (.Assign [.Tuple elts k tp] value pos) X.env) (RF G) ρ σ (bindO o fun v ρ σ => asgTO l v ρ σ) := by
  refine (TrW.bindV (K := fun v => fun A Q E s => wpAny (model G.prog G.w) A (assign (.Tuple elts k tp) X.env v) (fun _ s' => Q Flow.next s') E s) h fun b ρ₁ σ₁ a hb9 => ?_).into fun A Q E s _ h => Assign_Tuple h (show swapsWithSole _ _ _ _ = _ from notComp_swaps hs (some (.Tuple elts k tp)) pos.line X.env) hw
  unfold asgTO
  split
  · rename_i us
    split
    · rename_i hl
      obtain ⟨t1, t2, t3⟩ := tgts_len (env := X.env) ht
      intro A s Y Q E hA hD hR kk
      cases hR.head with
      | @tup aa as _ ha hr =>
      refine assign_Tuple_tuple hA.handled ha (by rw [t1, List.size_toArray, hr.length, hl]) t2 fun h' he => ?_
      have kp := kp_ext he
      have st0 := Step.of_keeps (L := X.L) (Y := Y) kp
      have d0 := hD.of_keeps kp
      refine tr_stores (n := n) (ds := ds) (vs := vs) hk hnd ht hl (by rw [hr.length, hl]) A _ Y _ E hA d0 (Rps.append (hR.tail.mono (st0.moves hD)) (hr.mono (st0.moves hD))) fun h' tk Y' st d' => ⟨fun _ _ _ _ => (kk h' tk Y' (st0.trans st) d').1 _ rfl _ trivial, fun c e => nomatch e⟩
    · trivial
  · trivial

theorem tr_storesN (hk : X.sc.kind = .function) (hnd : X.ns.Nodup) : ∀ {names : List Str} {l : List Nat} {bs : List V} {as : List Value} {ρ : Loc}, names.length = l.length → (∀ p ∈ names.zip l, X.ns[p.2]? = some p.1 ∧ X.sc.names.lookup p.1 = some .local) → bs.length = l.length → as.length = l.length →
    TrW G X n (bs ++ ds) (as ++ vs) (tree G (assignInOrder (names.map fun n => bindName X.env n) as)) RU ρ σ (some (.ok (), setAll l bs ρ, σ))
  | [], [], [], [], ρ, _, _, _, _ => TrW.one fun A s Y Q E hA hD hR kk => wpAny_pure (kk s.toks _ trivial)
  | x :: names, i :: l, b :: bs, a :: as, ρ, h0, h, h1, h2 => by
    have ih := tr_storesN hk hnd (names := names) (l := l) (bs := bs) (as := as) (ρ := ρ.set i (some b)) (by simpa using h0) (fun p hp => h p (.tail _ hp)) (by simpa using h1) (by simpa using h2)
    obtain ⟨t1, t2⟩ := h (x, i) (.head _)
    intro A s Y Q E hA hD hR kk
    show wpAny _ A (assignInOrder (bindName X.env x :: names.map fun n => bindName X.env n) (a :: as)) Q E s
    unfold assignInOrder
    refine wpAny_bind (wpAny_holding (PyProof.Rows.bindName_ ?_))
    refine tr_store (n := n) (ds := bs ++ ds) (vs := as ++ vs) hk t1 t2 hnd A s Y _ E hA hD hR fun h' tk Y' st d' => ⟨fun u e a' ha' => ?_, fun c e => nomatch e⟩
    exact ih A _ Y' Q E hA d' (hR.tail.mono (st.moves hD)) fun h'' tk' Y'' st' d'' => ⟨fun u e a ha => (kk h'' tk' Y'' (st.trans st') d'').1 u e a ha, fun c e => nomatch e⟩
  | [], _ :: _, _, _, _, h, _, _, _ => by cases h
  | _ :: _, [], _, _, _, h, _, _, _ => by cases h
  | _ :: _, _ :: _, [], _, _, _, _, h, _ => by cases h
  | _ :: _, _ :: _, _, [], _, _, _, _, h => by cases h
  | [], [], _ :: _, _, _, _, _, h, _ => by cases h
  | [], [], _, _ :: _, _, _, _, _, h => by cases h

theorem tr_asgS {elts : List Expr} {l : List Nat} {k : Nat} {value : Expr} {tp pos : Pos} {names : List Str} {o : Out V} (hk : X.sc.kind = .function) (hnd : X.ns.Nodup) (ht : tgts X.sc X.ns elts l = true) (hs : notComp value = true)
    (hn : names.length = l.length) (hz : ∀ p ∈ names.zip l, X.ns[p.2]? = some p.1 ∧ X.sc.names.lookup p.1 = some .local)
    (hw : swappedStores [.Tuple elts k tp] value X.env = pure (some names))
    (h : Tr G X n ds vs (eval value X.env) (RV G) ρ σ o) :
    Tr G X n ds vs (exec (.Assign [.Tuple elts k tp] value pos) X.env) (RF G) ρ σ (bindO o fun v ρ σ => asgTO l v ρ σ) := by
  refine (TrW.bindV (K := fun v => fun A Q E s => wpAny (model G.prog G.w) A (unpackItems v names.length none) (fun items s₂ =>
      wpAny (model G.prog G.w) A (assignInOrder (names.reverse.map fun n => bindName X.env n) items.reverse) (fun _ s' => Q Flow.next s') E s₂) E s) h fun b ρ₁ σ₁ a hb9 => ?_).into fun A Q E s _ h => Assign_Tuple_swapped h (show swapsWithSole _ _ _ _ = _ from notComp_swaps hs (some (.Tuple elts k tp)) pos.line X.env) hw
  unfold asgTO
  split
  · rename_i us
    split
    · rename_i hl
      obtain ⟨t1, t2, t3⟩ := tgts_len (env := X.env) ht
      intro A s Y Q E hA hD hR kk
      cases hR.head with
      | @tup aa as _ ha hr =>
      have e9 : names.length = as.toArray.size := by rw [hn, List.size_toArray, hr.length, hl]
      rw [e9]
      refine unpackItems_tuple hA.handled ha fun h' he => ?_
      have kp := kp_ext he
      have st0 := Step.of_keeps (L := X.L) (Y := Y) kp
      have d0 := hD.of_keeps kp
      have hrev : ∀ p ∈ names.reverse.zip l.reverse, X.ns[p.2]? = some p.1 ∧ X.sc.names.lookup p.1 = some .local := fun p hp => hz p (by
        have z : (names.zip l).reverse = names.reverse.zip l.reverse := List.reverse_zipWith hn
        rw [← z] at hp
        exact List.mem_reverse.mp hp)
      have key := tr_storesN (G := G) (X := X) (n := n) (ds := ds) (vs := vs) (ρ := ρ₁) (σ := σ₁) hk hnd (names := names.reverse) (l := l.reverse) (bs := us.reverse) (as := as.reverse) (by simpa using hn) hrev (by simpa using hl) (by simp [hr.length, hl])
      rw [setAll_reverse hl t3] at key
      refine key A _ Y _ E hA d0 (Rps.append (hR.tail.mono (st0.moves hD)) (hr.mono (st0.moves hD)).snoc) fun h' tk Y' st d' => ⟨fun _ _ _ _ => (kk h' tk Y' (st0.trans st) d').1 _ rfl _ trivial, fun c e => nomatch e⟩
    · trivial
  · trivial
end
end Mine

end

section
set_option genInjectivity false
open PySem PySem.W PyProof.Rows
set_option maxRecDepth 100000
namespace Mine

section
variable {G : Gx} {X : Fx} {n : Nat} {ds : List V} {vs : List Value} {ρ : Loc} {σ : Mem}

theorem Dyn.fr_live {h : Heap} {Y : Lay} (d : Dyn G X h Y ρ σ) : ∀ b ∈ Y.fr, h.get? b ≠ none := fun b hb => by
  obtain ⟨o, es, n, e, _⟩ := d.frs b hb
  rw [e]; exact fun q => nomatch q

theorem Dyn.no_live {h : Heap} {Y : Lay} (d : Dyn G X h Y ρ σ) : ∀ b ∈ Y.no, h.get? b ≠ none := fun b hb => by
  obtain ⟨o, e⟩ := (d.no b hb).2
  rw [e]; exact fun q => nomatch q

/-- an error goes out of a loop -/
theorem out_of_loop {A : Around} {E : Value → Shared → Prop} {s : Shared} {Y Y1 : Lay} {h1 : Heap} {tk : Nat} {ρ0 ρ1 : Loc} {σ0 σ1 : Mem} {e : Addr} {c : List Nat}
    (hA : AOk X A n) (D0 : Dyn G X s.heap Y ρ0 σ0) (st : Step X.L s.heap Y h1 Y1) (D1 : Dyn G X h1 Y1 ρ1 σ1) (x : ExcAt G s.heap h1 X.L e c)
    (kk : ∀ h' Y', Step X.L s.heap Y h' Y' → Dyn G X h' Y' ρ1 σ1 → ExcAt G s.heap h' X.L e c → E (.ref e) { s with heap := h', toks := tk }) :
    notedBy (model G.prog G.w) A X.env (cameBackBy (model G.prog G.w) A X.env E) (.ref e) { s with heap := h1, toks := tk } :=
  ExcAt.back (s := { s with heap := h1, toks := tk }) hA.frames D1 (fun b hb => D0.fr_live b (by rw [st.fr] at hb; exact hb)) st.live x fun h' sl x' => kk h' Y1 (sl.step st) (sl.dyn D0.stays (fun b hb => D0.no_live b (by rw [st.no] at hb; exact hb)) D1) x'

theorem tr_while {test : Expr} {body : List Stmt} {pos : Pos} {f : Nat → Loc → Mem → Out Bool} {g W : Nat → Loc → Mem → Out Fl} (h0 : ∀ ρ σ, W 0 ρ σ = none)
    (hW : ∀ j ρ σ, W (j + 1) ρ σ = bindO (f j ρ σ) fun x ρ σ => if x then bindO (g j ρ σ) fun fl ρ σ => match fl with
      | .next => W j ρ σ
      | .ret v => some (.ok (.ret v), ρ, σ)
      else some (.ok .next, ρ, σ)) (m : Nat)
    (hf : ∀ j, j < m → ∀ ρ σ, Tr G X n [] [] (isTrue test X.env (eval test X.env)) RB ρ σ (f j ρ σ))
    (hg : ∀ j, j < m → ∀ ρ σ, Tr G X n [] [] (execs body X.env) (RF G) ρ σ (g j ρ σ)) :
    Tr G X n ds vs (exec (.While test body [] pos) X.env) (RF G) ρ σ (W m ρ σ) := by
  cases hw : W m ρ σ with
  | none => trivial
  | some out =>
  obtain ⟨r, ρ', σ'⟩ := out
  intro A s Y Q E hA hD _ kk
  refine wpAny_While (codeAny_whileLoop (fun j s' => ∃ h1 tk Y1 ρ1 σ1, j ≤ m ∧ s' = { s with heap := h1, toks := tk } ∧ Step X.L s.heap Y h1 Y1 ∧ Dyn G X h1 Y1 ρ1 σ1 ∧ W j ρ1 σ1 = some (r, ρ', σ')) ?_ m ⟨s.heap, s.toks, Y, ρ, σ, Nat.le_refl _, rfl, .refl .., hD, hw⟩)
  intro j s' hI
  refine Classical.byContradiction fun ng0 => ?_
  obtain ⟨h1, tk, Y1, ρ1, σ1, hj, es, st, D1, hw1⟩ := hI
  cases j with
  | zero => rw [h0] at hw1; cases hw1
  | succ j =>
  rw [hW] at hw1
  have F := hf j (Nat.lt_of_succ_le hj) ρ1 σ1
  cases hq : f j ρ1 σ1 with
  | none => rw [hq] at hw1; cases hw1
  | some o1 =>
  obtain ⟨r1, ρ2, σ2⟩ := o1
  rw [hq] at hw1 F
  subst es
  refine ng0 (F A _ Y1 _ _ hA D1 .nil fun h2 tk2 Y2 st2 D2 => ⟨fun b e a ha => Classical.byContradiction fun ng1 => ?_, fun c e x hx => Classical.byContradiction fun ng2 => ?_⟩)
  · subst e
    have ha : b = a := ha
    cases b with
    | false =>
      cases hw1
      cases ha
      exact ng1 (wpAny_execs_nil ((kk h2 tk2 Y2 (st.trans st2) D2).1 _ rfl _ trivial))
    | true =>
      cases ha
      replace hw1 : bindO (g j ρ2 σ2) _ = _ := hw1
      have Gb := hg j (Nat.lt_of_succ_le hj) ρ2 σ2
      cases hq2 : g j ρ2 σ2 with
      | none => rw [hq2] at hw1; cases hw1
      | some o2 =>
      obtain ⟨r2, ρ3, σ3⟩ := o2
      rw [hq2] at hw1 Gb
      refine ng1 (Gb A _ Y2 _ _ hA D2 .nil fun h3 tk3 Y3 st3 D3 => ⟨fun fl e fw hfw => Classical.byContradiction fun ng3 => ?_, fun c e x hx => Classical.byContradiction fun ng4 => ?_⟩)
      · subst e
        cases fl with
        | next =>
          have e : fw = .next := by cases fw <;> first | rfl | cases hfw
          subst e
          exact ng3 ⟨j, Nat.lt_succ_self j, h3, tk3, Y3, ρ3, σ3, Nat.le_of_succ_le hj, rfl, (st.trans st2).trans st3, D3, hw1⟩
        | ret v =>
          cases fw with
          | ret u =>
            cases hw1
            exact ng3 ((kk h3 tk3 Y3 ((st.trans st2).trans st3) D3).1 _ rfl _ hfw)
          | _ => cases hfw
      · subst e
        cases hw1
        exact ng4 (out_of_loop (s := s) (tk := tk3) hA hD ((st.trans st2).trans st3) D3 (hx.older (st.trans st2).live) fun h' Y' st' D' x' => (kk h' tk3 Y' st' D').2 _ rfl _ x')
  · subst e
    cases hw1
    exact ng2 (out_of_loop (s := s) (tk := tk2) hA hD (st.trans st2) D2 (hx.older st.live) fun h' Y' st' D' x' => (kk h' tk2 Y' st' D').2 _ rfl _ x')
end
end Mine

end

section
set_option genInjectivity false
open PySem PySem.W PyProof.Rows
set_option maxRecDepth 100000
namespace Mine

section
variable {G : Gx} {X : Fx} {n : Nat} {ds : List V} {vs : List Value} {ρ : Loc} {σ : Mem}

theorem still_other {old h h' : Heap} {fr : List Addr} {I : Addr} {o : Obj} {fs : Array Value} (hI : h.get? I = some o) (ho : o.data = .fields fs) (hn : old.get? I = none) (hf : I ∉ fr) (k : ∀ b o, b ≠ I → h.get? b = some o → h'.get? b = some o) : Still old h h' fr := by
  have e : ∀ b o, h.get? b = some o → (old.get? b = none → ∀ vs, o.data ≠ .fields vs) → b ≠ I := fun b o' e1 e2 q => by
    subst q
    rw [hI] at e1; cases e1
    exact e2 hn _ ho
  refine ⟨fun b o e1 e2 e3 => k b o (e b o e1 e3) e1, fun b o e1 e2 => ⟨o.slots, k b o (fun q => hf (q ▸ e2)) e1⟩, fun b o e1 e2 => ?_⟩
  exact ⟨o, k b o (fun q => e2 (q ▸ hn)) e1⟩

noncomputable def forE (g : Loc → Mem → Out Fl) (i : Nat) (v : V) (ρ : Loc) (σ : Mem) : Out Fl := match v with
    | .int k => if 0 ≤ k ∧ k ≤ 1000 then forO g i ((List.range' 0 k.toNat).map Int.ofNat) ρ σ else none
    | _ => none

theorem for_core {i : Nat} {x : Str} {px : Pos} {body : List Stmt} {g : Loc → Mem → Out Fl} (hk : X.sc.kind = .function) (hx : X.ns[i]? = some x) (hl : X.sc.names.lookup x = some .local) (hnd : X.ns.Nodup)
    (hg : ∀ ρ σ, Tr G X n [] [] (execs body X.env) (RF G) ρ σ (g ρ σ)) {N : Nat} {out : Except (List Nat) Fl × Loc × Mem} {A : Around} {s : Shared} {Y : Lay} {Q : Flow → Shared → Prop} {E : Value → Shared → Prop} {I : Addr} {h0 : Heap} {tk0 : Nat}
    (hA : AOk X A n) (hD : Dyn G X s.heap Y ρ σ) (hout : forO g i ((List.range' 0 N).map Int.ofNat) ρ σ = some out)
    (kk : ∀ (h' : Heap) (tk : Nat) (Y' : Lay), Step X.L s.heap Y h' Y' → Dyn G X h' Y' out.2.1 out.2.2 →
        (∀ b, out.1 = .ok b → ∀ a, RF G h' Y' b a → Q a { s with heap := h', toks := tk }) ∧
        (∀ c, out.1 = .error c → ∀ e, ExcAt G s.heap h' X.L e c → E (.ref e) { s with heap := h', toks := tk }))
    (hn : s.heap.get? I = none) (kp : Keeps s.heap h0) (hit : IsRangeIter h0 I 0 N 1) :
    codeAny (model G.prog G.w) A (.forLoop (.Name x px) (.ref I) body [] X.env) (fun r s' => match r with | .ok f => Q f s' | .error e => cameBackBy (model G.prog G.w) A X.env E e s') { s with heap := h0, toks := tk0 } := by
  have hIf : I ∉ Y.fr := fun q => hD.fr_live I q hn
  refine codeAny_forLoop (fun m s' => ∃ h1 tk Y1 ρ1 σ1, ∃ j : Nat, s' = { s with heap := h1, toks := tk } ∧ Step X.L s.heap Y h1 Y1 ∧ Dyn G X h1 Y1 ρ1 σ1 ∧ IsRangeIter h1 I j ((N : Int) - j) 1 ∧ j ≤ N ∧ m = N - j ∧
    forO g i ((List.range' j (N - j)).map Int.ofNat) ρ1 σ1 = some out) ?_ N ⟨h0, tk0, Y, ρ, σ, 0, rfl, .of_keeps kp, hD.of_keeps kp, by simpa using hit, Nat.zero_le _, by simp, by simpa using hout⟩
  intro m s' hI
  refine Classical.byContradiction fun ng => ?_
  obtain ⟨h1, tk, Y1, ρ1, σ1, j, es, st, D1, hit1, hj, em, hf⟩ := hI
  have hIf1 : I ∉ Y1.fr := by rw [st.fr]; exact hIf
  by_cases hlt : j < N
  · have e9 : N - j = (N - (j + 1)) + 1 := by lia
    rw [e9, List.range'_succ, List.map_cons] at hf
    unfold forO at hf
    cases hq : g (ρ1.set i (some (.int (Int.ofNat j)))) σ1 with
    | none => rw [hq] at hf; cases hf
    | some o2 =>
    obtain ⟨r2, ρ4, σ4⟩ := o2
    rw [hq] at hf
    subst es em
    refine ng (wpAny_pyNext_range_item hit1 (by lia) fun h2 hit2 hs2 => ?_)
    clear ng
    have sl : Still s.heap h1 h2 Y1.fr := still_other hit1 rfl hn hIf1 fun b o hb e => (hs2.2 b hb).trans e
    have st2 := sl.step st
    have D2 := sl.dyn hD.stays (fun b hb => hD.no_live b (by rw [st.no] at hb; exact hb)) D1
    refine PySem.wpAny_assign_Name ?_
    refine tr_store (n := n) (ds := []) (vs := []) (v := .int (Int.ofNat j)) hk hx hl hnd A _ Y1 _ _ hA D2 (.cons (.int _ _) .nil) fun h3 tk3 Y3 st3 D3 => ⟨fun _ _ _ _ => ?_, fun c e => nomatch e⟩
    have hit3 : IsRangeIter h3 I (j + 1) (N - j - 1) 1 := st3.keep I _ hit2 (fun q => by
      obtain hh | hh := cell_cls D2.mem hit2 q <;> simp at hh) hIf1
    have Gb := hg (ρ1.set i (some (.int (Int.ofNat j)))) σ1
    rw [hq] at Gb
    refine Gb A _ Y3 _ _ hA D3 .nil fun h4 tk4 Y4 st4 D4 => ⟨fun fl e fw hfw => Classical.byContradiction fun ng1 => ?_, fun c e xx hxx => Classical.byContradiction fun ng2 => ?_⟩
    · subst e
      cases fl with
      | next =>
        have e : fw = .next := by cases fw <;> first | rfl | cases hfw
        subst e
        have hit4 : IsRangeIter h4 I (j + 1) (N - j - 1) 1 := st4.keep I _ hit3 (fun q => by
          obtain hh | hh := cell_cls D3.mem hit3 q <;> simp at hh) (by rw [st3.fr]; exact hIf1)
        refine ng1 ⟨N - (j + 1), by lia, h4, tk4, Y4, ρ4, σ4, j + 1, rfl, (st2.trans st3).trans st4, D4, ?_, hlt, rfl, hf⟩
        have e1 : ((j + 1 : Nat) : Int) = (j : Int) + 1 := by lia
        have e2 : (N : Int) - ((j + 1 : Nat) : Int) = (N : Int) - j - 1 := by lia
        rw [e2, e1]; exact hit4
      | ret v =>
        cases fw with
        | ret u =>
          cases hf
          exact ng1 ((kk h4 tk4 Y4 ((st2.trans st3).trans st4) D4).1 _ rfl _ hfw)
        | _ => cases hfw
    · subst e
      cases hf
      exact ng2 (out_of_loop (s := s) (tk := tk4) hA hD ((st2.trans st3).trans st4) D4 (hxx.older (st2.trans st3).live) fun h' Y' st' D' x' => (kk h' tk4 Y' st' D').2 _ rfl _ x')
  · have e9 : j = N := by lia
    subst e9
    simp only [Nat.sub_self, List.range'_zero, List.map_nil] at hf
    cases hf
    subst es em
    refine ng (wpAny_pyNext_range_end hA.handled hit1 (by lia) fun h2 he2 => wpAny_execs_nil ?_)
    have sl : Still s.heap h1 h2 Y1.fr := still_other hit1 rfl hn hIf1 fun b o hb e => he2 b o hb e
    exact (kk h2 tk Y1 (sl.step st) (sl.dyn hD.stays (fun b hb => hD.no_live b (by rw [st.no] at hb; exact hb)) D1)).1 _ rfl _ trivial

theorem tr_for {i : Nat} {x : Str} {px rp rpos pos : Pos} {e : Expr} {body : List Stmt} {o : Out V} {g : Loc → Mem → Out Fl} (F : GF G) (hk : X.sc.kind = .function) (hx : X.ns[i]? = some x) (hl : X.sc.names.lookup x = some .local) (hnd : X.ns.Nodup)
    (hxr : X.sc.names.lookup (Str.ofString "range") = some .globalImplicit) (hp : plainArg e = true)
    (h : Tr G X n ds vs (eval e X.env) (RV G) ρ σ o) (hg : ∀ ρ σ, Tr G X n [] [] (execs body X.env) (RF G) ρ σ (g ρ σ)) :
    Tr G X n ds vs (exec (.For (.Name x px) (.Call (.Name (Str.ofString "range") rp) [e] [] rpos) body [] pos) X.env) (RF G) ρ σ (bindO o fun v ρ σ => forE g i v ρ σ) := by
  let K : Value → PT Flow := fun a => fun A Q E s => wpAny (model G.prog G.w) A (call (.type "range") [a]) (fun xv s₁ => wpAny (model G.prog G.w) A (pyIter xv) (fun it s₂ =>
      codeAny (model G.prog G.w) A (.forLoop (.Name x px) it body [] X.env) (fun r s' => match r with | .ok f => Q f s' | .error e => cameBackBy (model G.prog G.w) A X.env E e s') s₂) E s₁) E s
  refine tr_biName (b := 4) F hk hxr rfl rfl (TrW.bindV (K := K) h fun b ρ₁ σ₁ a hb9 => ?_) fun A Q E s h9 => wpAny_For (wpAny_Call_NameR (wpAny_mono h9 (fun f s₁ ⟨e1, h8⟩ => ?_) fun _ _ e => e)) fun _ => rfl
  · unfold forE
    split
    · rename_i k
      split
      · rename_i hz
        cases hq : forO g i ((List.range' 0 k.toNat).map Int.ofNat) ρ₁ σ₁ with
        | none => trivial
        | some out =>
        obtain ⟨r, ρ', σ'⟩ := out
        intro A s Y Q E hA hD hR kk
        cases hR.head
        show wpAny _ A (call (.type "range") _) _ E s
        refine call_range_1 ?_
        refine wpAny_pyIter_range (IsRange.new ..) (small_one (by decide) (by decide) (by lia) (by lia)) ?_
        have hsz : Builtin.Range.rangeSize 0 k 1 = (k.toNat : Int) := by rw [rangeSize_one]; split <;> lia
        refine for_core (s := s) hk hx hl hnd hg hA hD hq kk ?_ (fun b o e => Heap.get?_push_of_some _ (Heap.get?_push_of_some _ e)) ?_
        · exact Heap.get?_none_of_le (by simp [Heap.size_push])
        · rw [hsz]
          exact Heap.get?_push_size _ rfl
      · trivial
    · trivial
  · subst e1
    rw [backTo_one hp]
    exact PySem.callWith_type rfl (Calls.evalArgs_plain (Calls.spliced_cons (wpAny_mono h8 (fun a s₂ h7 => Calls.spliced_nil h7) fun _ _ e => e)))
end
end Mine

end

section
set_option genInjectivity false
open PySem PySem.W PyProof.Rows
set_option maxRecDepth 100000
namespace Mine

theorem Rps.pure {D : Dd} {h : Heap} {Y Y' : Lay} (k : ∀ a, a ∉ Y.mu ∧ a ∉ Y.no → a ∉ Y'.mu ∧ a ∉ Y'.no) {vs : List V} {us : List Value} (hn : noRefs vs = true) (x : Rps D h Y vs us) : Rps D h Y' vs us := by
  revert hn
  refine Rps.rec (motive_1 := fun v u _ => noRef v = true → Rp D h Y' v u) (motive_2 := fun vs us _ => noRefs vs = true → Rps D h Y' vs us) ?_ ?_ ?_ ?_ ?_ ?_ ?_ ?_ ?_ ?_ ?_ x
  · exact fun _ => .none
  · exact fun b _ => .bool b
  · exact fun i t _ => .int i t
  · exact fun s t _ => .str s t
  · exact fun ha _ ih hn => .tup ha (ih hn)
  · exact fun ha h1 _ ih hn => .lst ha (k _ h1) (ih hn)
  · intros; contradiction
  · intros; contradiction
  · intros; contradiction
  · exact fun _ => .nil
  · exact fun _ _ ih1 ih2 hn => .cons (ih1 (Bool.and_eq_true_iff.mp hn).1) (ih2 (Bool.and_eq_true_iff.mp hn).2)
theorem Rp.pure {D : Dd} {h : Heap} {Y Y' : Lay} (k : ∀ a, a ∉ Y.mu ∧ a ∉ Y.no → a ∉ Y'.mu ∧ a ∉ Y'.no) {v : V} {u : Value} (hn : noRef v = true) (x : Rp D h Y v u) : Rp D h Y' v u := by
  obtain ⟨w, e, r⟩ := (Rps.pure k (vs := [v]) (Bool.and_eq_true_iff.mpr ⟨hn, rfl⟩) (.cons x .nil)).one
  cases e
  exact r

theorem Rps.fz {D : Dd} {h : Heap} {Y Y' : Lay} {σ : Mem} (M : ∀ (i : Nat) (a : Addr) (c : Cell), Y.mu[i]? = some a → σ[i]? = some c → CellAt D h Y a c) (k : ∀ a, a ∉ Y.mu ∧ a ∉ Y.no → a ∉ Y'.mu ∧ a ∉ Y'.no) (kn : ∀ a ∈ Y.mu, a ∉ Y'.mu ∧ a ∉ Y'.no) {vs : List V} {us : List Value} (x : Rps D h Y vs us) : ∀ {vs' : List V}, fzs σ vs = some vs' → Rps D h Y' vs' us := by
  refine Rps.rec (motive_1 := fun v u _ => ∀ {v' : V}, Mine.fz σ v = some v' → Rp D h Y' v' u) (motive_2 := fun vs us _ => ∀ {vs' : List V}, Mine.fzs σ vs = some vs' → Rps D h Y' vs' us) ?_ ?_ ?_ ?_ ?_ ?_ ?_ ?_ ?_ ?_ ?_ x
  · intro v' hf; cases hf; exact .none
  · intro b v' hf; cases hf; exact .bool b
  · intro i t v' hf; cases hf; exact .int i t
  · intro s t v' hf; cases hf; exact .str s t
  · intro a us ds ha _ ih v' hf
    obtain ⟨l, hl, e⟩ := Option.map_eq_some_iff.mp (show (fzs σ ds).map V.tup = some v' from hf)
    rw [← e]
    exact .tup ha (ih hl)
  · intro a us ds ha h1 hr ih v' hf
    obtain ⟨hn, e⟩ := if_of (show (if noRefs ds = true then some (V.lst ds) else Option.none) = some v' from hf)
    rw [e]
    exact .lst ha (k _ h1) (Rps.pure k hn hr)
  · intro i a hi v' hf
    obtain ⟨l, hc, h2⟩ := memL_of (show memL σ i (fun l => if noRefs l = true then some (V.lst l) else Option.none) = some v' from hf)
    obtain ⟨hn, e⟩ := if_of h2
    obtain ⟨us, n, g, r⟩ := M _ _ _ hi hc
    rw [e]
    exact .lst ⟨_, g, rfl, n, rfl⟩ (kn _ (List.mem_of_getElem? hi)) (Rps.pure k hn r)
  · intros; contradiction
  · intros; contradiction
  · intro vs' hf; cases hf; exact .nil
  · intro d ds v vs hd hr ih1 ih2 vs' hf
    obtain ⟨a, b, e1, e2, e3⟩ := fzs_cons hf
    rw [e3]
    exact .cons (ih1 e1) (ih2 e2)
theorem Rp.fz {D : Dd} {h : Heap} {Y Y' : Lay} {σ : Mem} (M : ∀ (i : Nat) (a : Addr) (c : Cell), Y.mu[i]? = some a → σ[i]? = some c → CellAt D h Y a c) (k : ∀ a, a ∉ Y.mu ∧ a ∉ Y.no → a ∉ Y'.mu ∧ a ∉ Y'.no) (kn : ∀ a ∈ Y.mu, a ∉ Y'.mu ∧ a ∉ Y'.no) {v : V} {u : Value} (x : Rp D h Y v u) {v' : V} (hf : Mine.fz σ v = some v') : Rp D h Y' v' u := by
  obtain ⟨w, e, r⟩ := (Rps.fz M k kn (.cons x .nil) (vs' := [v']) (by show (match Mine.fz σ v, some [] with | some a, some b => some (a :: b) | _, _ => Option.none) = _; rw [hf])).one
  cases e
  exact r

structure Land (G : Gx) (X : Fx) (h : Heap) (Y : Lay) (σ : Mem) : Prop where
  stays : G.base.StaysIn h
  funs : h.FunFrames G.base (X.env :: X.outer)
  fr : Y.fr = (X.env :: X.outer).filterMap (·.frame)
  frs : FrsAt h Y.fr
  mem : MemAt G h Y σ
  no : ∀ a ∈ Y.no, G.base.get? a = none ∧ ∃ o, h.get? a = some o

structure DefOk (d : DefRec) (fd : FD) : Prop where
  name : d.name = fd.name
  kind : d.scope.kind = .function
  co : d.scope.isCoroutine = false
  gen : d.scope.isGenerator = false
  cell : ∀ x ∈ d.scope.names, x.2 ≠ .cell
  bind : ∀ (pm cd doc : Value) (args : List Value), args.length = fd.np → bindArgs (Calls.docDef d.name d.params d.body d.scope pm cd doc) ⟨args, []⟩ = pure ((d.params.args.map (·.arg)).zip args)
  pars : d.params.args.map (·.arg) = fd.ns.take fd.np
  np : fd.np ≤ fd.ns.length
  nodup : fd.ns.Nodup
  loc : ∀ x ∈ fd.ns, d.scope.names.lookup x = some .local

theorem lookup_zip_at {l : List Str} (hn : l.Nodup) : ∀ {as : List Value} {i : Nat} {x : Str} {u : Value}, l[i]? = some x → as[i]? = some u → (l.zip as).lookup x = some u := by
  induction l with
  | nil => intro as i x u e; simp at e
  | cons y l ih =>
    intro as i x u e1 e2
    obtain ⟨h1, h2⟩ := List.nodup_cons.mp hn
    cases as with
    | nil => simp at e2
    | cons v as =>
      cases i with
      | zero =>
        simp at e1 e2
        subst e1 e2
        simp [List.zip_cons_cons, List.lookup_cons]
      | succ i =>
        have e1' : l[i]? = some x := by simpa using e1
        have e2' : as[i]? = some u := by simpa using e2
        have hne : x ≠ y := fun q => h1 (q ▸ List.mem_of_getElem? e1')
        rw [List.zip_cons_cons, List.lookup_cons, beq_false_of_ne hne]
        exact ih h2 e1' e2'

theorem zip_mem {l : List Str} {as : List Value} {p : Str × Value} (h : p ∈ l.zip as) : p.1 ∈ l := (List.of_mem_zip h).1

section
variable {G : Gx} {X : Fx} {n : Nat} {ds : List V} {vs : List Value} {ρ : Loc} {σ : Mem}

theorem mem_live {h : Heap} {Y : Lay} (M : MemAt G h Y σ) {a : Addr} (ha : a ∈ Y.mu) : ∃ o, h.get? a = some o := by
  obtain ⟨i, hi⟩ := List.getElem?_of_mem ha
  have hl : i < σ.length := by rw [← M.len]; exact (List.getElem?_eq_some_iff.mp hi).1
  have hc := M.cell i a _ hi (List.getElem?_eq_getElem hl)
  cases q : σ[i] with
  | list l => rw [q] at hc; obtain ⟨vs, n, g, _⟩ := hc; exact ⟨_, g⟩
  | jug c k => rw [q] at hc; obtain ⟨vc, tk, ⟨o', es, ep, g, _⟩, _⟩ := hc; exact ⟨_, g⟩

theorem ExcT.older {old old' h : Heap} {e : Addr} {c : List Nat} {fl : Value} (x : ExcT G old h e c fl) (k : ∀ b o, old'.get? b = some o → ∃ o', old.get? b = some o') : ExcT G old' h e c fl := by
  have f : ∀ b, old.get? b = none → old'.get? b = none := fun b hb => by
    cases q : old'.get? b with
    | none => rfl
    | some o => obtain ⟨o', e'⟩ := k b o q; rw [hb] at e'; cases e'
  obtain ⟨n, vs, d, mA, od, sl, a1, a2, a3, a4, a5, ⟨T, oT, ts, b1, b2, b3, b4⟩⟩ := x
  exact ⟨f _ n, vs, d, mA, od, sl, a1, f _ a2, a3, a4, a5, ⟨T, oT, ts, b1, b2, f _ b3, b4⟩⟩

/-- a frame drops out -/
theorem moves_drop {h : Heap} {M fr no : List Addr} {L : Addr} (M1 : MemAt G h ⟨M, L :: fr, no⟩ σ) (F : FrsAt h (L :: fr)) : Moves G.lvl h ⟨M, L :: fr, no⟩ h ⟨M, fr, no⟩ := by
  refine ⟨fun b o e hm _ => ⟨e, hm⟩, fun b o e _ hm hf => ⟨e, hm, fun q => hf (.tail _ q)⟩, fun b o e hm => ?_, fun b o e hf => frs_ne F e hf, fun _ _ e => e, rfl⟩
  rcases cell_cls M1 e hm with q | q <;> rw [q] <;> exact ⟨(by decide), (by intro z; cases z)⟩

theorem drop_frame {X' : Fx} {s h1 h2 : Heap} {L : Addr} {mu0 M fr no : List Addr} {ρ1 : Loc} {σ1 : Mem} (hL : s.get? L = none) (kp : Keeps s h1) (ho : X'.outer = X.env :: X.outer) (hL' : X'.L = L) (hfr : fr = (X.env :: X.outer).filterMap (·.frame))
    (st : Step L h1 ⟨mu0, L :: fr, no⟩ h2 ⟨M, L :: fr, no⟩) (D : Dyn G X' h2 ⟨M, L :: fr, no⟩ ρ1 σ1) :
    Step L s ⟨mu0, fr, no⟩ h2 ⟨M, fr, no⟩ ∧ Land G X h2 ⟨M, fr, no⟩ σ1 := by
  have hne : ∀ b o, s.get? b = some o → b ≠ L := fun b o e q => by rw [q, hL] at e; cases e
  refine ⟨⟨st.pre, rfl, rfl, fun b o e => st.live b o (kp b o e), fun a hm hn => ?_, fun b o e hm hf => ?_, fun b o e hf hb => ?_⟩, D.stays, ?_, hfr, fun a ha => D.frs a (.tail _ ha), ?_, D.no⟩
  · have := st.fresh a hm hn
    cases q : s.get? a with
    | none => rfl
    | some o => rw [kp a o q] at this; cases this
  · exact st.keep b o (kp b o e) hm fun q => by
      rcases List.mem_cons.mp q with q | q
      · exact hne b o e q
      · exact hf q
  · exact st.slots b o (kp b o e) (.tail _ hf) (hne b o e)
  · have := D.funs
    rw [ho] at this
    exact this.2.2
  · have mv := moves_drop D.mem D.frs
    exact ⟨D.mem.len, D.mem.nodup, D.mem.new, fun a ha hf => D.mem.apart a ha (.tail _ hf), fun i a c hi hc => (D.mem.cell i a c hi hc).mono mv fun o e => e⟩

theorem call_core {d : DefRec} {fd : FD} {g : Loc → Mem → Out Fl} (F : GF G) (ok : DefOk d fd)
    (hbody : ∀ X' : Fx, X'.nm = d.name → X'.sc = d.scope → X'.ns = fd.ns → ∀ ρ σ, Tr G X' n [] [] (execs d.body X'.env) (RF G) ρ σ (g ρ σ))
    {A : Around} {s : Shared} {Y : Lay} {mu0 no0 : List Addr} {σ0 : Mem} {a : Addr} {o : Obj} {pm cd doc : Value} {bs : List V} {as : List Value} {r : Except (List Nat) Fl} {ρ1 : Loc} {σ1 : Mem} {R : Result → Shared → Prop}
    (hA : AOk X A (n + 1)) (hD : Dyn G X s.heap Y ρ σ) (ho : s.heap.get? a = some o) (hdata : o.data = .func (Calls.docDef d.name d.params d.body d.scope pm cd doc)) (hcd : s.heap.CodeRec cd d.name)
    (hbs : Rps G.lvl s.heap ⟨mu0, Y.fr, no0⟩ bs as) (hlen : bs.length = fd.np) (hM : MemAt G s.heap ⟨mu0, Y.fr, no0⟩ σ0) (hno : ∀ a ∈ no0, G.base.get? a = none ∧ ∃ o, s.heap.get? a = some o)
    (hout : g (locO fd bs) σ0 = some (r, ρ1, σ1))
    (kk : ∀ h' tk M1, Step s.heap.objs.size s.heap ⟨mu0, Y.fr, no0⟩ h' ⟨M1, Y.fr, no0⟩ → Land G X h' ⟨M1, Y.fr, no0⟩ σ1 →
      (∀ fl, r = .ok fl → ∀ u, Rp G.lvl h' ⟨M1, Y.fr, no0⟩ fl.val u → R (.ok (.ret u)) { s with heap := h', toks := tk }) ∧
      (∀ c, r = .error c → ∀ e, ExcT G s.heap h' e c .none → R (.error (.ref e)) { s with heap := h', toks := tk })) :
    codeAny (model G.prog G.w) A (.call (.ref a) ⟨as, []⟩) R s := by
  have hz : as.length = fd.np := by rw [hbs.length, hlen]
  have hpl : (d.params.args.map (·.arg)).length = fd.np := by rw [ok.pars, List.length_take]; have := ok.np; lia
  have hpn : (d.params.args.map (·.arg)).Nodup := by rw [ok.pars]; exact ok.nodup.sublist (List.take_sublist _ _)
  have hmem : ∀ x ∈ (d.params.args.map (·.arg)).zip as, d.scope.names.lookup x.1 = some .local := fun x hx => ok.loc _ (by
    have := zip_mem hx
    rw [ok.pars] at this
    exact List.mem_of_mem_take this)
  have TT := F.top.keeps hD.stays
  have hdep := hA.depth
  have hun := hA.units
  refine call_pos (by lia) ho hdata TT.nolimit hcd (ok.bind pm cd doc as hz) hmem (fun h₁ Fr1 => ?_) ok.co ok.gen ok.kind ok.cell
  let X' : Fx := ⟨d.name, d.scope, s.heap.objs.size, a, cd, X.env :: X.outer, fd.ns⟩
  have kp : Keeps s.heap h₁ := Fr1.keep
  obtain ⟨oL, es, ep, hoL, hdL, _⟩ := id Fr1.ns
  have hnew : s.heap.get? s.heap.objs.size = none := Heap.get?_none_of_le (Nat.le_refl _)
  have hneL : ∀ b o, s.heap.get? b = some o → b ≠ s.heap.objs.size := fun b o e q => by rw [q, hnew] at e; cases e
  have mv0 : Moves G.lvl s.heap ⟨mu0, Y.fr, no0⟩ h₁ ⟨mu0, s.heap.objs.size :: Y.fr, no0⟩ := by
    refine ⟨fun b o e hm _ => ⟨kp b o e, hm⟩, fun b o e _ hm hf => ⟨kp b o e, hm, fun q => ?_⟩, fun b o e hm => ?_, fun b o e hf => frs_ne hD.frs e hf, fun _ _ e => e, rfl⟩
    · rcases List.mem_cons.mp q with q | q
      · exact hneL b o e q
      · exact hf q
    · rcases cell_cls hM e hm with q | q <;> rw [q] <;> exact ⟨(by decide), (by intro z; cases z)⟩
  have D' : Dyn G X' h₁ ⟨mu0, s.heap.objs.size :: Y.fr, no0⟩ (locO fd bs) σ0 := by
    refine ⟨fun b o e => kp b o (hD.stays b o e), ⟨?_, ⟨_, oL, rfl, hD.fresh_base, hoL, fun vs q => by rw [hdL] at q; cases q⟩, hD.funs.of_keeps fun b o e _ => ⟨o, kp b o e, rfl⟩⟩, ?_, fun b hb => ?_, ⟨hM.len, hM.nodup, hM.new, fun b hb hf => ?_, fun i b c hi hc => (hM.cell i b c hi hc).mono mv0 fun o e => kp b o e⟩, fun b hb => ⟨(hno b hb).1, (hno b hb).2.imp fun o e => kp b o e⟩, _, Fr1.ns, fun i v e => ?_⟩
    · show d.scope.kind ≠ .module
      rw [ok.kind]; exact fun q => nomatch q
    · show s.heap.objs.size :: Y.fr = s.heap.objs.size :: (X.env :: X.outer).filterMap (·.frame)
      rw [hD.fr]
    · rcases List.mem_cons.mp hb with q | q
      · rw [q]; exact ⟨oL, es, ep, hoL, hdL⟩
      · obtain ⟨o, es, n, e, r⟩ := hD.frs b q
        exact ⟨o, es, n, kp b o e, r⟩
    · obtain ⟨o, e⟩ := mem_live hM hb
      rcases List.mem_cons.mp hf with q | q
      · exact hneL b o e q
      · exact hM.apart b hb q
    · unfold locO at e
      have hi : i < bs.length := by
        rcases Nat.lt_or_ge i bs.length with q | q
        · exact q
        · rw [List.getElem?_append_right (by simpa using q)] at e
          have := List.getElem?_eq_some_iff.mp e
          obtain ⟨h1, h2⟩ := this
          simp at h2
      rw [List.getElem?_append_left (by simpa using hi), List.getElem?_map, List.getElem?_eq_getElem hi] at e
      have eb : bs[i]? = some v := by
        rw [List.getElem?_eq_getElem hi]
        simpa using e
      obtain ⟨u, hu, ru⟩ := hbs.get eb
      have hin : i < fd.ns.length := by have := ok.np; lia
      have hx : (d.params.args.map (·.arg))[i]? = some fd.ns[i] := by
        rw [ok.pars, List.getElem?_take_of_lt (by lia), List.getElem?_eq_getElem hin]
      refine ⟨fd.ns[i], u, List.getElem?_eq_getElem hin, ?_, ru.mono mv0⟩
      show ((d.params.args.map (·.arg)).zip as).reverse.lookup fd.ns[i] = some u
      rw [lookup_reverse_of_nodup _ (by rw [List.map_fst_zip (by rw [hpl, hz]; exact Nat.le_refl _)]; exact hpn)]
      exact lookup_zip_at hpn hx hu
  have hA' : AOk X' (A.deeper X'.env) n := by
    refine ⟨hA.handled, ?_, ?_, ?_⟩
    · show A.frames.map (X'.env :: ·) = _
      rw [hA.frames]; rfl
    · show A.depth + 1 + n + 20 < recursionLimit
      lia
    · show A.units + 3 + 8 * n + 200 < cLine
      lia
  have B := hbody X' rfl rfl rfl (locO fd bs) σ0
  rw [hout] at B
  refine B (A.deeper X'.env) { s with heap := h₁, toks := s.toks + ((d.params.args.map (·.arg)).zip as).length } _ _ _ hA' D' .nil fun h2 tk2 Y2 st2 D2 => ?_
  obtain ⟨M1, fr2, no2⟩ := Y2
  have e1 : fr2 = s.heap.objs.size :: Y.fr := st2.fr
  have e2 : no2 = no0 := st2.no
  subst e1 e2
  refine ⟨fun fl e fw hfw => ?_, fun c e x hx => ?_⟩
  · obtain ⟨st3, ld⟩ := drop_frame (X := X) hnew kp rfl rfl hD.fr st2 D2
    refine (kk h2 tk2 M1 st3 ld).1 fl e _ ?_
    have mv := moves_drop D2.mem D2.frs
    cases fl <;> cases fw <;> first | exact .none | exact Rp.mono mv hfw | cases hfw
  · refine ExcAt.leave (X := X') hA'.frames D2 (fun b hb => D'.fr_live b (by rw [st2.fr] at hb; exact hb)) st2.live hx fun h3 sl x3 => ?_
    have st3 := sl.step st2
    have D3 := sl.dyn D'.stays (fun b hb => D'.no_live b (by rw [st2.no] at hb; exact hb)) D2
    obtain ⟨st4, ld⟩ := drop_frame (X := X) hnew kp rfl rfl hD.fr st3 D3
    exact (kk h3 tk2 M1 st4 ld).2 c e x (x3.older fun b o e => ⟨o, kp b o e⟩)
end
end Mine

end

section
set_option genInjectivity false
open PySem PySem.W PyProof.Rows
set_option maxRecDepth 100000
namespace Mine

theorem evalArgs_plain0 {M : Model} {A : Around} {E : Value → Shared → Prop} {s : Shared} {env : Env} {f : Value} {es : List Expr} {pos : Pos} {Q : Args → Shared → Prop} (hp : plainArgs es = true)
    (h : wpAny M A (spliced (backTo pos (starEach es env))) (fun vs s' => Q ⟨vs, []⟩ s') E s) : wpAny M A (evalArgs f true (backTo pos (starEach es env)) []) Q E s := by
  cases es with
  | nil =>
    unfold evalArgs
    show wpAny M A (spliced [] >>= _) Q E s
    refine wpAny_bind (wpAny_mono h (fun vs s₁ h₁ => ?_) fun _ _ e => e)
    exact wpAny_holding (wpAny_bind (wpAny_pure (wpAny_bind (wpAny_pure (wpAny_pure h₁)))))
  | cons e es => exact args_plain hp h

section
variable {G : Gx} {X : Fx} {n : Nat} {ds : List V} {vs : List Value} {ρ : Loc} {σ : Mem}

theorem Dyn.land {h : Heap} {Y : Lay} (d : Dyn G X h Y ρ σ) : Land G X h Y σ := ⟨d.stays, d.funs, d.fr, d.frs, d.mem, d.no⟩

theorem call_wrap {d : DefRec} {fd : FD} {g : Loc → Mem → Out Fl} (F : GF G) (ok : DefOk d fd)
    (hbody : ∀ X' : Fx, X'.nm = d.name → X'.sc = d.scope → X'.ns = fd.ns → ∀ ρ σ, Tr G X' n [] [] (execs d.body X'.env) (RF G) ρ σ (g ρ σ))
    {a : Addr} {o : Obj} {pm cd doc : Value} (ho : G.base.get? a = some o) (hdata : o.data = .func (Calls.docDef d.name d.params d.body d.scope pm cd doc)) (hcd : G.base.CodeRec cd d.name) {bs : List V} {as : List Value} :
    TrW G X (n + 1) (bs ++ ds) (as ++ vs) (fun A Q E s => as.length = bs.length → wpAny (model G.prog G.w) A (call (.ref a) as) Q E s) (RV G) ρ σ ((callO fd g bs σ).map fun x => (x.1, ρ, x.2)) := by
  cases hq : callO fd g bs σ with
  | none => trivial
  | some x =>
  obtain ⟨rr, σ'⟩ := x
  intro A s Y Q E hA hD hR kk hal
  obtain ⟨hb, _⟩ := hR.split hal
  have hneL : ∀ b, b ∈ Y.fr → b ≠ s.heap.objs.size := fun b hb q => hD.new_fr (q ▸ hb)
  have hL : X.L ∈ Y.fr := by rw [hD.fr]; exact List.mem_filterMap.mpr ⟨X.env, .head _, rfl⟩
  unfold callO at hq
  split at hq
  · rename_i hlen
    split at hq
    · rename_i hpure
      -- pure: the callee sees no cell of ours
      have hbp : Rps G.lvl s.heap ⟨[], Y.fr, Y.mu ++ Y.no⟩ bs as := Rps.pure (fun b hb => ⟨List.not_mem_nil, fun q => by
        rcases List.mem_append.mp q with q | q
        · exact hb.1 q
        · exact hb.2 q⟩) hpure hb
      have hM0 : MemAt G s.heap ⟨[], Y.fr, Y.mu ++ Y.no⟩ [] := ⟨rfl, List.nodup_nil, (fun a ha => nomatch ha), (fun a ha => nomatch ha), fun i a c hi _ => by simp at hi⟩
      have hno0 : ∀ a ∈ Y.mu ++ Y.no, G.base.get? a = none ∧ ∃ o, s.heap.get? a = some o := fun b hb => by
        rcases List.mem_append.mp hb with q | q
        · exact ⟨hD.mem.new b q, hD.mu_live q⟩
        · exact hD.no b q
      cases hg : g (locO fd bs) [] with
      | none => rw [hg] at hq; cases hq
      | some out =>
      obtain ⟨r, ρ1, σ1⟩ := out
      rw [hg] at hq
      refine wpAny_call (call_core F ok hbody hA hD (hD.stays a o ho) hdata (hcd.keeps hD.stays) hbp hlen hM0 hno0 hg fun h' tk M1 st ld => ?_)
      have st' : Step X.L s.heap Y h' Y := ⟨fun _ _ e => e, rfl, rfl, st.live, fun _ x y => absurd x y, fun b o e hm hf => st.keep b o e (fun q => nomatch q) hf, fun b o e hf _ => st.slots b o e hf (hneL b hf)⟩
      have mv := st'.moves hD
      have D' : Dyn G X h' Y ρ σ := by
        refine ⟨ld.stays, ld.funs, hD.fr, ld.frs, ⟨hD.mem.len, hD.mem.nodup, hD.mem.new, hD.mem.apart, fun i b c hi hc => ?_⟩, fun b hb => ⟨(hD.no b hb).1, by obtain ⟨o, e⟩ := (hD.no b hb).2; exact st.live b o e⟩, ?_⟩
        · exact (hD.mem.cell i b c hi hc).mono mv fun o e => st.keep b o e (fun q => nomatch q) (hD.mem.apart b (List.mem_of_getElem? hi))
        · obtain ⟨m, ⟨oL, es, ep, hoL, hdL, r⟩, hl⟩ := hD.loc
          obtain ⟨sl, e'⟩ := st.slots _ _ hoL hL (hneL _ hL)
          refine ⟨m, ⟨_, es, ep, e', hdL, r⟩, fun i v e => ?_⟩
          obtain ⟨x, u, e1, e2, r⟩ := hl i v e
          exact ⟨x, u, e1, e2, r.mono mv⟩
      refine ⟨fun fl e u hu => ?_, fun c e x hx => ?_⟩
      · subst e
        simp only [Option.map_eq_some_iff] at hq
        obtain ⟨v, hv, hq⟩ := hq
        cases hq
        refine (kk h' tk Y st' D').1 _ rfl u (Rp.fz ld.mem.cell (fun b hb => ⟨fun q => hb.2 (List.mem_append_left _ q), fun q => hb.2 (List.mem_append_right _ q)⟩) (fun b hb => ?_) hu hv)
        have hfr := st.fresh b hb (fun q => nomatch q)
        refine ⟨fun q => ?_, fun q => ?_⟩
        · obtain ⟨o, e⟩ := hD.mu_live q; rw [hfr] at e; cases e
        · obtain ⟨_, o, e⟩ := hD.no b q; rw [hfr] at e; cases e
      · subst e
        cases hq
        exact (kk h' tk Y st' D').2 _ rfl x (hx.at (.inl rfl))
    · rename_i hpure
      cases hg : g (locO fd bs) σ with
      | none => rw [hg] at hq; cases hq
      | some out =>
      obtain ⟨r, ρ1, σ1⟩ := out
      rw [hg] at hq
      refine wpAny_call (call_core (mu0 := Y.mu) (no0 := Y.no) F ok hbody hA hD (hD.stays a o ho) hdata (hcd.keeps hD.stays) hb hlen hD.mem hD.no hg fun h' tk M1 st ld => ?_)
      have st' : Step X.L s.heap Y h' ⟨M1, Y.fr, Y.no⟩ := ⟨st.pre, rfl, rfl, st.live, st.fresh, st.keep, fun b o e hf _ => st.slots b o e hf (hneL b hf)⟩
      have mv := st'.moves hD
      have D' : Dyn G X h' ⟨M1, Y.fr, Y.no⟩ ρ σ1 := by
        refine ⟨ld.stays, ld.funs, ld.fr, ld.frs, ld.mem, ld.no, ?_⟩
        obtain ⟨m, ⟨oL, es, ep, hoL, hdL, r⟩, hl⟩ := hD.loc
        obtain ⟨sl, e'⟩ := st.slots _ _ hoL hL (hneL _ hL)
        refine ⟨m, ⟨_, es, ep, e', hdL, r⟩, fun i v e => ?_⟩
        obtain ⟨x, u, e1, e2, r⟩ := hl i v e
        exact ⟨x, u, e1, e2, r.mono mv⟩
      refine ⟨fun fl e u hu => ?_, fun c e x hx => ?_⟩
      · subst e
        cases hq
        exact (kk h' tk _ st' D').1 _ rfl u hu
      · subst e
        cases hq
        exact (kk h' tk _ st' D').2 _ rfl x (hx.at (.inl rfl))
  · cases hq

theorem tr_def {d : DefRec} {fd : FD} {g : Loc → Mem → Out Fl} {es : List Expr} {p pos : Pos} {oo : Out (List V)} (F : GF G) (ok : DefOk d fd) (hd : d ∈ recsOf G.p)
    (hbody : ∀ X' : Fx, X'.nm = d.name → X'.sc = d.scope → X'.ns = fd.ns → ∀ ρ σ, Tr G X' n [] [] (execs d.body X'.env) (RF G) ρ σ (g ρ σ))
    (hk : X.sc.kind = .function) (hx : X.sc.names.lookup fd.name = some .globalImplicit) (hdb : (fd.name == ("__debug__" : Str)) = false) (hp : plainArgs es = true)
    (h : Tr G X (n + 1) ds vs (spliced (backTo pos (starEach es X.env))) (RVs G) ρ σ oo) :
    Tr G X (n + 1) ds vs (eval (.Call (.Name fd.name p) es [] pos) X.env) (RV G) ρ σ (bindO oo fun bs ρ σ => (callO fd g bs σ).map fun x => (x.1, ρ, x.2)) := by
  obtain ⟨a, o, pm, cd, doc, hmg, ho, hdata, hcd⟩ := F.top.fn d hd
  rw [ok.name] at hmg
  refine ((TrW.bind (ds1 := fun bs => bs ++ ds) (vs1 := fun as => as ++ vs) (K := fun as => fun A Q E s => s.heap.get? a = some o ∧ wpAny (model G.prog G.w) A (call (.ref a) as) Q E s) h (fun _ _ _ _ x y => Rps.append y x) fun bs ρ₁ σ₁ as ⟨_, _, hl⟩ => ?_).pre (W' := fun A Q E s => wpAny (model G.prog G.w) A (eval (.Name fd.name p) X.env) (fun f s₁ => f = .ref a ∧ wpAny (model G.prog G.w) A (spliced (backTo pos (starEach es X.env))) (fun as s₂ => s₂.heap.get? a = some o ∧ wpAny (model G.prog G.w) A (call (.ref a) as) Q E s₂) E s₁) E s)
    fun A s Y Q E hA hD hR kk => ?_).into fun A Q E s _ h9 => wpAny_Call_NameR (wpAny_mono h9 (fun f s₁ ⟨e1, h8⟩ => ?_) fun _ _ e => e)
  · have z := call_wrap (ds := ds) (vs := vs) (ρ := ρ₁) (σ := σ₁) (X := X) F ok hbody ho hdata hcd (bs := bs) (as := as)
    cases q : (callO fd g bs σ₁).map fun x => (x.1, ρ₁, x.2) with
    | none => trivial
    | some out =>
      rw [q] at z
      refine TrW.pre (o := some out) z fun A s Y Q E hA hD hR kk => ⟨hD.stays a o ho, kk s.toks hl.length⟩
  · exact Calls.Name_function_global (env := X.env) hk hx (Calls.loadGlobal_global (env := X.env) (F.top.g.keeps hD.stays) hmg ⟨rfl, kk s.toks⟩) hdb
  · subst e1
    exact Calls.callWith_function (fd := Calls.docDef d.name d.params d.body d.scope pm cd doc) (evalArgs_plain0 hp (wpAny_mono h8 (fun as s₂ ⟨h6, h7⟩ => ⟨⟨h6, hdata⟩, h7⟩) fun _ _ e => e))
end
end Mine

end

section
set_option genInjectivity false
open PySem PySem.W PyProof.Rows
set_option maxRecDepth 100000
namespace Mine

section
variable {G : Gx} {X : Fx} {n : Nat} {ds : List V} {vs : List Value} {ρ : Loc} {σ : Mem}

theorem Dyn.add_step {h h' : Heap} {Y : Lay} {a : Addr} (d : Dyn G X h Y ρ σ) (kp : Keeps h h') (fresh : h.get? a = none) : Step X.L h Y h' ⟨Y.mu ++ [a], Y.fr, Y.no⟩ := by
    refine ⟨fun i b e => ?_, rfl, rfl, fun b o e => ⟨o, kp b o e⟩, fun b hm hn => ?_, fun b o e _ _ => kp b o e, fun b o e _ _ => ⟨o.slots, kp b o e⟩⟩
    · show (Y.mu ++ [a])[i]? = some b
      rw [List.getElem?_append_left (List.getElem?_eq_some_iff.mp e).1]; exact e
    · rcases List.mem_append.mp hm with q | q
      · exact absurd q hn
      · rw [List.mem_singleton.mp q]; exact fresh

theorem Dyn.add {h h' : Heap} {Y : Lay} {a : Addr} {c : Cell} (d : Dyn G X h Y ρ σ) (kp : Keeps h h') (fresh : h.get? a = none) (ha : ∃ o, h'.get? a = some o) (hc : CellAt G.lvl h' ⟨Y.mu ++ [a], Y.fr, Y.no⟩ a c) :
    Step X.L h Y h' ⟨Y.mu ++ [a], Y.fr, Y.no⟩ ∧ Dyn G X h' ⟨Y.mu ++ [a], Y.fr, Y.no⟩ ρ (σ ++ [c]) ∧ (Y.mu ++ [a])[σ.length]? = some a := by
  have d' := d.of_keeps kp
  have hbase : G.base.get? a = none := by
    cases q : G.base.get? a with
    | none => rfl
    | some o => rw [d.stays a o q] at fresh; cases fresh
  have hmu : a ∉ Y.mu := fun q => by obtain ⟨o, e⟩ := d.mu_live q; rw [e] at fresh; cases fresh
  have hfr : a ∉ Y.fr := fun q => by obtain ⟨o, es, n, e, _⟩ := d.frs a q; rw [e] at fresh; cases fresh
  have st := d.add_step kp fresh
  have m := st.moves d
  have hlen : (Y.mu ++ [a])[σ.length]? = some a := by rw [← d.mem.len]; simp
  refine ⟨st, ⟨d'.stays, d'.funs, d'.fr, d'.frs, ⟨?_, ?_, ?_, ?_, ?_⟩, d'.no, ?_⟩, hlen⟩
  · show (Y.mu ++ [a]).length = (σ ++ [c]).length
    rw [List.length_append, List.length_append, d.mem.len]; rfl
  · show (Y.mu ++ [a]).Nodup
    rw [List.nodup_append]
    refine ⟨d.mem.nodup, by simp, fun b hb b' hb' e => ?_⟩
    rw [List.mem_singleton.mp hb'] at e
    exact hmu (e ▸ hb)
  · intro b hb
    rcases List.mem_append.mp hb with q | q
    · exact d.mem.new b q
    · rw [List.mem_singleton.mp q]; exact hbase
  · intro b hb
    rcases List.mem_append.mp hb with q | q
    · exact d.mem.apart b q
    · rw [List.mem_singleton.mp q]; exact hfr
  · intro i b c' hi hc'
    change (Y.mu ++ [a])[i]? = some b at hi
    by_cases hlt : i < Y.mu.length
    · rw [List.getElem?_append_left hlt] at hi
      rw [List.getElem?_append_left (by rw [← d.mem.len]; exact hlt)] at hc'
      exact (d.mem.cell i b c' hi hc').mono m fun o e => kp b o e
    · have hi' := (List.getElem?_eq_some_iff.mp hi).1
      rw [List.length_append] at hi'
      have e : i = Y.mu.length := by simp at hi'; lia
      subst e
      rw [List.getElem?_append_right (Nat.le_refl _), Nat.sub_self] at hi
      rw [d.mem.len, List.getElem?_append_right (Nat.le_refl _), Nat.sub_self] at hc'
      cases hi; cases hc'
      exact hc
  · obtain ⟨mm, hm, hl⟩ := d.loc
    refine ⟨mm, hm.keeps kp, fun i v e => ?_⟩
    obtain ⟨x, u, e1, e2, r⟩ := hl i v e
    exact ⟨x, u, e1, e2, r.mono m⟩

theorem tr_jug {i k : Nat} {x : Str} {p1 p2 p3 p4 p5 p6 p7 pos : Pos} {q1 q2 q3 q4 : Nat} (F : GF G) (hk : X.sc.kind = .function) (hx : X.ns[i]? = some x) (hl : X.sc.names.lookup x = some .local) (hdb : (x == ("__debug__" : Str)) = false) :
    Tr G X n ds vs (eval (.Dict [some (.Constant (.str sCells) q1 p1), some (.Constant (.str sCount) q2 p2)] [.Subscript (.Name x p3) (.Slice none (some (.Constant (.int k) q3 p4)) none p5) p6, .Constant (.int 0) q4 p7] pos) X.env) (RV G) ρ σ (jugO i k ρ σ) := by
  unfold jugO
  split
  · rename_i l hv
    split
    · rename_i hz
      intro A s Y Q E hA hD hR kk
      refine Classical.byContradiction fun ng => ?_
      obtain ⟨m, hm, hloc⟩ := hD.loc
      obtain ⟨x', u, hx', hu, hr⟩ := hloc i _ hv
      rw [← Option.some.inj (hx.symm.trans hx')] at hu
      obtain ⟨aa, us, gu, ⟨oo, ho, hc, nn, hd⟩, hl'⟩ := hr.isLst
      rw [gu] at hu
      refine ng (wpAny_Dict_walk (knd := strKind G.prog G.w) rfl rfl (by simp) (by show 2 ≤ 15; lia) ?_)
      clear ng
      have kp1 : Keeps s.heap (s.heap.push { cls := .type "dict", data := .dict #[] }) := fun b o e => Heap.get?_push_of_some _ e
      refine pairTrees_cons_walk (Calls.Constant_str ?_)
      refine Subscript_ (wpAny_Name (wpAny_loadName_local (env := X.env) hk hl (hm.keeps kp1) hu ?_) hdb)
      refine wpAny_Slice (evalPart_none_step (evalPart_some_step (wpAny_Constant_int (evalPart_none_step ?_))))
      have kp2 : Keeps s.heap ((s.heap.push { cls := .type "dict", data := .dict #[] }).push { cls := .type "slice", data := .fields #[.none, .int k (s.toks + 1), .none] }) := fun b o e => Heap.get?_push_of_some _ (kp1 _ _ e)
      refine tail_any (T := "list") ⟨_, kp2 _ _ ho, hc⟩ slot_list_getitem.lookup ?_ rfl
      refine wpAny_getItem_list_slice (lo := none) (hi := some (k : Int)) (st := none) ⟨_, kp2 _ _ ho, hc, nn, hd⟩ (Heap.IsSliceOf.new ..) .none (.int _ _) .none (by simp) ?_ ?_
      · have e9 : slicePick us.toArray none (some (k : Int)) none = (us.take k).toArray := slicePick_upto' ..
        rw [e9]
        refine pairTrees_cons_walk (Calls.Constant_str (wpAny_Constant_int (pairTrees_nil_walk ?_)))
        have hd0 : (s.heap.push { cls := .type "dict", data := .dict #[] }).DictOf (strKind G.prog G.w) s.heap.objs.size [] := Heap.DictOf.new _
        refine ⟨[(sCells, _), (sCount, _)], ⟨strKind_is G.prog G.w _ _, rfl, strKind_is G.prog G.w _ _, rfl, trivial⟩, (hd0.push _).push _, fun h' hd' hs' => ?_⟩
        have kp3 : Keeps s.heap h' := fun b o e => (hs'.2 b (Nat.ne_of_lt (Heap.lt_size e))).trans (Heap.get?_push_of_some _ (kp2 b o e))
        have hsz2 : ((s.heap.push { cls := .type "dict", data := .dict #[] }).push { cls := .type "slice", data := .fields #[.none, .int k (s.toks + 1), .none] }).objs.size = s.heap.objs.size + 2 := by rw [Heap.size_push, Heap.size_push]
        generalize hh2 : (s.heap.push { cls := .type "dict", data := .dict #[] }).push { cls := .type "slice", data := .fields #[.none, .int k (s.toks + 1), .none] } = h2 at hs' hd' hsz2
        have hnew : h'.get? h2.objs.size = some (listOf (us.take k).toArray 0) := (hs'.2 _ (fun q => by have q' : h2.objs.size = s.heap.objs.size := q; lia)).trans (Heap.get?_push_size h2 rfl)
        have fresh : s.heap.get? s.heap.objs.size = none := Heap.get?_none_of_le (Nat.le_refl _)
        have st := hD.add_step kp3 fresh
        have hlive : ∀ b, b ∈ Y.mu ++ [s.heap.objs.size] → b ≠ h2.objs.size := fun b hb q => by
          rcases List.mem_append.mp hb with z | z
          · obtain ⟨o, e⟩ := hD.mu_live z
            have z1 : b < s.heap.objs.size := Heap.lt_size e
            rw [q, hsz2] at z1
            exact absurd z1 (Nat.not_lt.mpr (Nat.le_add_right _ 2))
          · have z1 : h2.objs.size = s.heap.objs.size := q.symm.trans (List.mem_singleton.mp z)
            lia
        have hcell : CellAt G.lvl h' ⟨Y.mu ++ [s.heap.objs.size], Y.fr, Y.no⟩ s.heap.objs.size (.jug (.lst (l.take k)) 0) := by
          have r2 : Rp G.lvl h' ⟨Y.mu ++ [s.heap.objs.size], Y.fr, Y.no⟩ (.lst (l.take k)) (.ref h2.objs.size) := by
            refine .lst ⟨_, hnew, rfl, 0, rfl⟩ ⟨fun q => hlive _ q rfl, fun q => ?_⟩ ((hl'.take k).mono (st.moves hD))
            obtain ⟨_, o, e⟩ := hD.no _ q
            have z1 := Heap.lt_size e
            rw [hsz2] at z1
            exact absurd z1 (Nat.not_lt.mpr (Nat.le_add_right _ 2))
          exact ⟨.ref h2.objs.size, _, by rw [F.pw.1, F.pw.2]; exact hd', r2⟩
        obtain ⟨o', _, _, g', _⟩ := id hd'
        obtain ⟨st', d', hi'⟩ := hD.add kp3 fresh ⟨o', g'⟩ hcell
        exact (kk h' _ _ st' d').1 _ rfl _ (.ref hi')
      · rw [List.size_toArray, hl'.length, sizeLine_eq]; lia
    · trivial
  · trivial

theorem tr_augJ {i : Nat} {k : Int} {x : Str} {p1 p2 p3 p4 pos : Pos} {q1 q2 : Nat} (F : GF G) (hk : X.sc.kind = .function) (hx : X.ns[i]? = some x) (hl : X.sc.names.lookup x = some .local) (hdb : (x == ("__debug__" : Str)) = false) :
    Tr G X n ds vs (exec (.AugAssign (.Subscript (.Name x p1) (.Constant (.str sCount) q1 p2) p3) .Add (.Constant (.int k) q2 p4) pos) X.env) (RF G) ρ σ (augJO i k ρ σ) := by
  unfold augJO
  split
  · rename_i r hv
    split
    · rename_i c j hc
      intro A s Y Q E hA hD hR kk
      obtain ⟨m, hm, hloc⟩ := hD.loc
      obtain ⟨x', u, hx', hu, hr⟩ := hloc i _ hv
      rw [hx] at hx'; cases hx'
      cases hr with
      | @ref _ a hi =>
      obtain ⟨vc, tk, g, rc⟩ := hD.mem.cell _ _ _ hi hc
      rw [F.pw.1, F.pw.2] at g
      refine wpAny_AugAssign_SubscriptAny (wpAny_Name (wpAny_loadName_local (env := X.env) hk hl hm hu ?_) hdb) fun _ _ _ => rfl
      refine Calls.Constant_str ?_
      refine wpAny_getItem_of (strKind_is G.prog G.w _ _) (Heap.DictOf.mapOf g) rfl ?_
      refine wpAny_Constant_int (PyProof.Rows.iadd_int ?_)
      refine wpAny_setItem_pairs (strKind_is G.prog G.w _ _) g (fun h' hd' hs' => ?_) (by rw [sizeLine_eq]; show 2 ≤ _; lia)
      obtain ⟨o', _, _, g', _⟩ := id hd'
      have st := hD.step_same hi hs' ⟨o', g'⟩
      have d' := hD.set_cell (c := .jug c (j + k)) hi hs' ⟨o', g'⟩ ⟨vc, _, by rw [F.pw.1, F.pw.2]; exact hd', rc.mono (st.moves hD)⟩
      exact (kk h' _ Y st d').1 _ rfl _ trivial
    · trivial
  · trivial
end
end Mine

end

section
set_option genInjectivity false
open PySem PySem.W PyProof.Rows
set_option maxRecDepth 100000
namespace Mine

noncomputable def capElt (sg : Str) (p : List Pos) (q : List Nat) : Expr :=
  .IfExp (.Compare (.Constant (.str ⟨#[97]⟩) (q.getD 0 0) (p.getD 0 default)) [.LtE, .LtE] [.Name sg (p.getD 1 default), .Constant (.str ⟨#[122]⟩) (q.getD 1 0) (p.getD 2 default)] (p.getD 3 default))
    (.Call (.Name (Str.ofString "chr") (p.getD 4 default)) [.BinOp (.Call (.Name (Str.ofString "ord") (p.getD 5 default)) [.Name sg (p.getD 6 default)] [] (p.getD 7 default)) .Sub (.Constant (.int 32) (q.getD 2 0) (p.getD 8 default)) (p.getD 9 default)] [] (p.getD 10 default))
    (.Name sg (p.getD 11 default)) (p.getD 12 default)

structure CompScope (sc : Scope) (sg : Str) : Prop where
  free : ∀ y ∈ sc.names, y.2 ≠ .free
  cell : ∀ y ∈ sc.names, y.2 ≠ .cell
  kind : sc.kind = .function
  names : ∀ y ∈ sc.names, y.2 = .local → sc.names.lookup y.1 = some .local
  loc : sc.names.lookup sg = some .local
  dbg : (sg == ("__debug__" : Str)) = false

section
variable {G : Gx} {X : Fx} {n : Nat} {ds : List V} {vs : List Value} {ρ : Loc} {σ : Mem}

theorem cap_elt {A : Around} {E : Value → Shared → Prop} {s : Shared} {sc : Scope} {sg : Str} {C : Addr} {m : Str → Option Value} {c : Nat} {u : Tok} {p : List Pos} {q : List Nat} (F : GF G) (S : CompScope sc sg) (hch : sc.names.lookup (Str.ofString "chr") = some .globalImplicit) (hor : sc.names.lookup (Str.ofString "ord") = some .globalImplicit)
    (hun : A.units + 100 < cLine) (hb : G.base.StaysIn s.heap) (hn : s.heap.Ns C m) (hm : m sg = some (.str ⟨#[c]⟩ u)) :
    wpAny (model G.prog G.w) A (eval (capElt sg p q) (compEnv sc C X.env)) (fun y s' => (∃ t, y = .str ⟨#[capC c]⟩ t) ∧ PySem.Keeps s s') E s := by
  let ce := compEnv sc C X.env
  have ldsg : ∀ (s' : Shared) (pp : Pos) (Q : Value → Shared → Prop), s'.heap = s.heap → Q (.str ⟨#[c]⟩ u) s' → wpAny (model G.prog G.w) A (eval (.Name sg pp) ce) Q E s' := fun s' pp Q e hq =>
    wpAny_Name (wpAny_loadName_local (env := ce) S.kind S.loc (by rw [e]; exact hn) hm hq) S.dbg
  have ldb : ∀ (b : Nat) (x : Str) (v : Value) (s' : Shared) (pp : Pos) (Q : Value → Shared → Prop), biTab[b]? = some (x, v) → sc.names.lookup x = some .globalImplicit → (x == ("__debug__" : Str)) = false → s'.heap = s.heap → Q v s' → wpAny (model G.prog G.w) A (eval (.Name x pp) ce) Q E s' := fun b x v s' pp Q e1 e2 e3 e hq => by
    obtain ⟨h1, h2⟩ := F.bi b x v e1
    exact Calls.Name_function_global (env := ce) S.kind e2 (Calls.loadGlobal_builtin (env := ce) (F.top.g.keeps (by rw [e]; exact hb)) h1 (F.top.b.keeps (by rw [e]; exact hb)) h2 hq) e3
  have kps : ∀ tk, PySem.Keeps s { s with toks := tk } := fun tk => ⟨s.heap, tk, rfl, fun _ _ e => e⟩
  have lt1 : ∀ a b : Nat, decide ([a] < [b]) = decide (a < b) := fun a b => by
    by_cases h : a < b
    · rw [decide_eq_true h, decide_eq_true (List.cons_lt_cons_iff.mpr (.inl h))]
    · rw [decide_eq_false h, decide_eq_false fun q => ?_]
      rcases List.cons_lt_cons_iff.mp q with q | ⟨_, q⟩
      · exact h q
      · exact absurd q (by simp)
  have cmpLe : ∀ (a b : Nat) (ta tb : Tok) (s' : Shared) (Q : Value → Shared → Prop), (∀ tk, Q (.bool (decide (a ≤ b))) { s' with toks := tk }) → wpAny (model G.prog G.w) A (compareOp .LtE (.str ⟨#[a]⟩ ta) (.str ⟨#[b]⟩ tb)) Q E s' := fun a b ta tb s' Q hq => by
    refine cmp_core (Y := ⟨[], [], []⟩) (u := .str [a]) (v := .str [b]) rfl F.pr (by lia) (.str [a] ta) (.str [b] tb) fun tk => ?_
    have : (!decide ([b] < [a])) = decide (a ≤ b) := by
      rw [lt1]
      by_cases h : a ≤ b
      · rw [decide_eq_true h, decide_eq_false (by lia)]; rfl
      · rw [decide_eq_false h, decide_eq_true (by lia)]; rfl
    rw [this]; exact hq tk
  refine IfExp_ (isTrue_chain (rs := []) (Calls.Constant_str (test_link (ldsg _ _ _ rfl (cmpLe _ _ _ _ _ _ fun tk => wpAny_truthy_bool ?_)))) rfl)
  have fin2 : ∀ tk, wpAny (model G.prog G.w) A (eval (.Name sg (p.getD 11 default)) ce) (fun y s' => (∃ t, y = .str ⟨#[c]⟩ t) ∧ PySem.Keeps s s') E { s with toks := tk } := fun tk => ldsg _ _ _ rfl ⟨⟨u, rfl⟩, kps tk⟩
  by_cases h1 : 97 ≤ c
  · rw [decide_eq_true h1]
    refine test_last (Calls.Constant_str (cmpLe _ _ _ _ _ _ fun tk => wpAny_truthy_bool ?_))
    by_cases h2 : c ≤ 122
    · rw [decide_eq_true h2]
      have e : capC c = c - 32 := by unfold capC; rw [if_pos ⟨h1, h2⟩]
      rw [e]
      refine wpAny_Call_NameR (ldb 2 _ _ _ _ _ rfl hch rfl rfl ?_)
      rw [backTo_one rfl]
      refine PySem.callWith_builtin1 (wpAny_BinOp (wpAny_Call_NameR (ldb 1 _ _ _ _ _ rfl hor rfl rfl ?_)))
      rw [backTo_one rfl]
      refine PySem.callWith_builtin1 (ldsg _ _ _ rfl (PySem.P.ord_of_char (wpAny_Constant_int (PyProof.Rows.sub_int (PySem.P.chr_of_int (by simp; lia) ⟨?_, kps _⟩)))))
      have : ((c : Int) - 32).toNat = c - 32 := by lia
      rw [this]; exact ⟨_, rfl⟩
    · rw [decide_eq_false h2]
      have e : capC c = c := by unfold capC; rw [if_neg (by lia)]
      rw [e]; exact fin2 _
  · rw [decide_eq_false h1]
    have e : capC c = c := by unfold capC; rw [if_neg (by lia)]
    rw [e]
    exact fin2 _

theorem paired_rps {D : Dd} {h : Heap} {Y : Lay} : ∀ {l : List Nat} {vs us : List Value}, vs.length = l.length → (∀ (j : Nat) (v : Value), vs[j]? = some v → SignAt ⟨l.toArray⟩ j v) → Paired (fun v y => ∀ c u, v = .str ⟨#[c]⟩ u → ∃ t, y = .str ⟨#[capC c]⟩ t) vs us → Rps D h Y (l.map fun c => V.str [capC c]) us
  | [], [], _, _, _, .nil => .nil
  | c :: l, v :: vs, _, hl, hP, .cons (b := y) hd hr => by
    obtain ⟨c', u, hc, rfl⟩ := hP 0 v rfl
    have : c' = c := by simpa using hc.symm
    subst this
    obtain ⟨t, rfl⟩ := hd _ _ rfl
    refine .cons (.str [capC c'] t) (paired_rps (by simpa using hl) (fun j v hv => ?_) hr)
    obtain ⟨c2, u2, h2, e2⟩ := hP (j + 1) v (by simpa using hv)
    exact ⟨c2, u2, by simpa using h2, e2⟩
  | [], _ :: _, _, h, _, _ => by cases h
  | _ :: _, [], _, h, _, _ => by cases h

theorem filter_true {α : Type} (l : List α) : l.filter (fun _ => true) = l := by simp

theorem tr_capcomp {sg : Str} {px cpos : Pos} {sc : Scope} {iter : Expr} {p : List Pos} {q : List Nat} {o : Out V} (F : GF G) (S : CompScope sc sg) (hch : sc.names.lookup (Str.ofString "chr") = some .globalImplicit) (hor : sc.names.lookup (Str.ofString "ord") = some .globalImplicit)
    (hi : ∀ x, foldedSetIterable iter X.env x = pure x) (h : Tr G X n ds vs (eval iter X.env) (RV G) ρ σ o) :
    Tr G X n ds vs (eval (.ListComp (capElt sg p q) [⟨.Name sg px, iter, [], 0⟩] sc cpos) X.env) (RV G) ρ σ (bindO o fun u ρ σ => match u with
      | .str s => if s.length ≤ 1000 then some (.ok (.lst (s.map fun c => .str [capC c])), ρ, σ) else none
      | _ => none) := by
  let K : Value → PT Value := fun xv => fun A Q E s₁ => wpAny (model G.prog G.w) A (pyIter xv) (fun it s₂ => ∃ I fp wr n P St, it = .ref I ∧ Walks G.prog G.w A I fp wr n P St ∧ n ≤ sizeLine ∧ St 0 s₂.heap ∧ (∀ b ∈ fp, b < s₂.heap.objs.size) ∧
      QuietOn G.prog G.w A X.env sc sg [] (capElt sg p q) wr P (fun _ => true) (fun v y => ∀ c u, v = .str ⟨#[c]⟩ u → ∃ t, y = .str ⟨#[capC c]⟩ t) s₂ ∧
      (∀ D h' tk ys (vs : List Value), s₂.heap.get? D = none → h'.IsList D ys → h'.PlainList D ys → vs.length = n → (∀ j v, vs[j]? = some v → P j v) → Paired (fun v y => ∀ c u, v = .str ⟨#[c]⟩ u → ∃ t, y = .str ⟨#[capC c]⟩ t) (vs.filter fun _ => true) ys.toList →
        (∀ b o, b ∉ wr → s₂.heap.get? b = some o → h'.get? b = some o) → Q (.ref D) { s₂ with heap := h', toks := tk })) E s₁
  refine (TrW.bindV (K := K) h fun b ρ₁ σ₁ a hb9 => ?_).into fun A Q E s _ h => wpAny_ListComp_walk _ _ S.free S.cell S.kind S.names S.loc h hi
  split
  · rename_i x
    split
    · rename_i hz
      refine Tr.growW fun A s Y Q E hA hD hR kk => ?_
      cases hR.head
      have up : ∀ (o : Obj) (h' : Heap), (∀ b o', b ∉ [s.heap.objs.size] → (s.heap.push o).get? b = some o' → h'.get? b = some o') → Keeps s.heap h' :=
        fun o h' hk b o' e => hk b o' (fun hb => absurd (Heap.lt_size e) ((List.mem_singleton.mp hb) ▸ Nat.lt_irrefl _)) (Heap.get?_push_of_some _ e)
      refine wpAny_pyIter_str fun o St W hst => ⟨s.heap.objs.size, [s.heap.objs.size], [s.heap.objs.size], _, _, St, rfl, W A hA.handled, ?_, hst, ?_, ⟨?_, ?_⟩, ?_⟩
      · show x.toArray.size ≤ sizeLine
        rw [List.size_toArray, sizeLine_eq]; lia
      · intro b hb
        show b < (s.heap.push o).objs.size
        rw [Heap.size_push, List.mem_singleton.mp hb]
        exact Nat.lt_succ_self _
      · intro C i v s₃ m₃ E' hP hn hm hk _
        rw [List.forIn_nil]
        exact wpAny_pure ⟨rfl, s₃.heap, s₃.toks, rfl, fun _ _ e => e⟩
      · intro C i v s₃ m₃ E' hP _ hn hm hk _
        obtain ⟨c, u, _, rfl⟩ := hP
        have hb : G.base.StaysIn s₃.heap := fun b o' e => up o s₃.heap hk b o' (hD.stays b o' e)
        refine wpAny_mono (cap_elt F S hch hor (by have := hA.units; lia) hb hn hm) (fun y s₄ h₄ => ⟨fun c' u' e => ?_, h₄.2⟩) fun _ _ e => e
        cases e
        exact h₄.1
      · intro D h' tk ys us hnew _ hpl hlen hP hF hk
        rw [filter_true] at hF
        obtain ⟨nn, g⟩ := hpl
        have kp := up o h' hk
        refine kk h' tk (.ref D) kp (.lst (vs := ys.toList) (by rw [Array.toArray_toList]; exact ⟨_, g, rfl, nn, rfl⟩) ⟨fun q => ?_, fun q => ?_⟩ (paired_rps (by rw [hlen]; simp) hP hF))
        · obtain ⟨o', e⟩ := hD.mu_live q
          rw [Heap.get?_push_of_some _ e] at hnew; cases hnew
        · obtain ⟨_, o', e⟩ := hD.no _ q
          rw [Heap.get?_push_of_some _ e] at hnew; cases hnew
    · trivial
  · trivial

theorem str_of_map (s : List Nat) : isStrs (s.map fun c => V.str [capC c]) = some (s.map fun c => [capC c]) := by
  induction s with
  | nil => rfl
  | cons c s ih => show (isStrs (s.map fun c => V.str [capC c])).map ([capC c] :: ·) = _; rw [ih]; rfl

theorem join_caps : ∀ s : List Nat, Str.join ⟨#[]⟩ (s.map fun c => (⟨#[capC c]⟩ : Str)) = ⟨(s.map capC).toArray⟩
  | [] => rfl
  | [c] => rfl
  | c :: d :: s => by
    have ih := join_caps (d :: s)
    show (⟨#[capC c]⟩ : Str) ++ ⟨#[]⟩ ++ Str.join ⟨#[]⟩ ((d :: s).map fun c => (⟨#[capC c]⟩ : Str)) = _
    rw [ih]
    show Str.append (Str.append _ _) _ = _
    simp [Str.append]

theorem bindO_assoc {β γ δ : Type} (r : Out β) (f : β → Loc → Mem → Out γ) (g : γ → Loc → Mem → Out δ) : bindO (bindO r f) g = bindO r fun b ρ σ => bindO (f b ρ σ) g := by
  rcases r with _ | ⟨r | b, ρ, σ⟩ <;> rfl

noncomputable def isEmp : V → Bool
  | .str [] => true
  | _ => false
noncomputable def joinO (v : V) (ρ : Loc) (σ : Mem) : Out V := match v with
  | .lst l => match isStrs l with
    | some ss => if (ss.map List.length).sum + ss.length ≤ 1048576 then some (.ok (.str (Str.join ⟨#[]⟩ (ss.map fun s => ⟨s.toArray⟩)).cps.toList), ρ, σ) else none
    | none => none
  | _ => none

theorem sum_ones (s : List Nat) : ((s.map fun c => [capC c]).map List.length).sum = s.length := by
  induction s with
  | nil => rfl
  | cons c s ih => simp at ih ⊢; lia

theorem tr_joinO {v : V} {a D : Value} (hsep : isEmp v = true) {w : V} : TrW G X n (w :: v :: ds) (D :: a :: vs) (tree G (call (.builtin "str.join") [a, D])) (RV G) ρ σ (joinO w ρ σ) := by
  unfold joinO
  split
  · rename_i l
    split
    · rename_i ss hss
      split
      · rename_i hz
        refine TrW.one fun A s Y Q E hA hD hR kk => ?_
        have hv := hR.tail.head
        have e : v = .str [] := by
          unfold isEmp at hsep
          split at hsep
          · rfl
          · cases hsep
        subst e
        cases hv
        cases hR.head with
        | @lst aa us _ ha hn hl =>
        refine join_listW (ys := ss.map fun s => ⟨s.toArray⟩) ha (by simpa using isStrs_are hl hss) (by show 0 ≤ 16; lia) ?_ fun t' k => ?_
        · have e : ((ss.map fun s => (⟨s.toArray⟩ : Str)).map (·.length)) = ss.map List.length := by
            rw [List.map_map]
            congr 1
          rw [e, List.length_map]; exact hz
        · have e : Txt.join ⟨([] : List Nat).toArray⟩ (ss.map fun s => (⟨s.toArray⟩ : Str)) = ⟨(Str.join ⟨#[]⟩ (ss.map fun s => (⟨s.toArray⟩ : Str))).cps.toList.toArray⟩ := by
            rw [Array.toArray_toList]
            exact PySem.StrLaws.glued_eq_join _ _
          rw [e]
          exact kk _ _ (.str _ _)
      · trivial
    · trivial
  · trivial

theorem tr_capj {sg : Str} {px cpos p0 apos pos : Pos} {k0 : Nat} {sc : Scope} {iter : Expr} {p : List Pos} {q : List Nat} {o : Loc → Mem → Out V} (F : GF G) (S : CompScope sc sg) (hch : sc.names.lookup (Str.ofString "chr") = some .globalImplicit) (hor : sc.names.lookup (Str.ofString "ord") = some .globalImplicit)
    (hi : ∀ x, foldedSetIterable iter X.env x = pure x) (hline : (apos.endLine == pos.line) = true) (h : ∀ ds vs ρ σ, Tr G X n ds vs (eval iter X.env) (RV G) ρ σ (o ρ σ)) :
    Tr G X n ds vs (eval (.Call (.Attribute (.Constant (.str ⟨#[]⟩) k0 p0) (Str.ofString "join") apos) [.ListComp (capElt sg p q) [⟨.Name sg px, iter, [], 0⟩] sc cpos] [] pos) X.env) (RV G) ρ σ (bindO (o ρ σ) fun u ρ σ => match u with
      | .str s => if s.length ≤ 1000 then some (.ok (.str (s.map capC)), ρ, σ) else none
      | _ => none) := by
  have h0 : Tr G X n ds vs (eval (.Constant (.str ⟨#[]⟩) k0 p0) X.env) (RV G) ρ σ (some (.ok (.str []), ρ, σ)) := tr_const rfl
  have e9 : ∀ ρ σ, (bindO (o ρ σ) fun u ρ σ => match u with
      | .str s => if s.length ≤ 1000 then some (.ok (.str (s.map capC)), ρ, σ) else none
      | _ => none : Out V) = bindO (bindO (o ρ σ) fun u ρ σ => match u with
      | .str s => if s.length ≤ 1000 then some (.ok (.lst (s.map fun c => .str [capC c])), ρ, σ) else none
      | _ => none) joinO := fun ρ σ => by
    rw [bindO_assoc]
    congr 1
    funext u ρ σ
    cases u with
    | str s =>
      dsimp only
      split
      · rename_i hz
        unfold bindO joinO
        simp only [str_of_map]
        rw [if_pos (by rw [sum_ones, List.length_map]; lia), List.map_map]
        have := join_caps s
        congr 4
        show _ = (Str.join ⟨#[]⟩ (s.map fun c => (⟨#[capC c]⟩ : Str))).cps.toList
        rw [this]
      · rfl
    | _ => rfl
  rw [e9]
  have key := tr_method (g := fun b ρ σ => if isEmp b then (bindO (bindO (o ρ σ) fun u ρ σ => match u with
      | .str s => if s.length ≤ 1000 then some (.ok (.lst (s.map fun c => .str [capC c])), ρ, σ) else none
      | _ => none) joinO) else none) (args := [.ListComp (capElt sg p q) [⟨.Name sg px, iter, [], 0⟩] sc cpos]) (apos := apos) (pos := pos) rfl rfl (by show 1 < 29; lia) hline PySem.F.plainAttrs_str PySem.F.slot_str_join PySem.F.type_str_join h0 (fun b ρ₁ σ₁ hne s Y a hD ra => ?_) fun b ρ₁ σ₁ a hb9 => ?_
  · exact key
  · cases b with
    | str y => cases ra; exact ⟨typeIs_str _ _ _, fun x e => nomatch e⟩
    | _ => exact absurd rfl hne
  · split
    · rename_i hemp
      rw [backTo_one rfl]
      exact (TrW.bindV (K := fun D => tree G (call (.builtin "str.join") [a, D])) (tr_capcomp (p := p) (q := q) (px := px) (cpos := cpos) F S hch hor hi (h (b :: ds) (a :: vs) ρ₁ σ₁)) fun c ρ₂ σ₂ D _ => tr_joinO hemp).into fun A Q E s _ h => Calls.callWith_builtin rfl (Calls.evalArgs_plain (Calls.spliced_cons (wpAny_mono h (fun D s₂ h7 => Calls.spliced_nil h7) fun _ _ e => e)))
    · trivial
end
end Mine

end

section
set_option genInjectivity false
open PySem PySem.W PyProof.Rows
set_option maxRecDepth 100000
namespace Mine

section
variable {G : Gx} {X : Fx} {n : Nat} {ds : List V} {vs : List Value} {ρ : Loc} {σ : Mem}

theorem trW_some {α β : Type} {W : PT α} {rel : Heap → Lay → β → α → Prop} {x : Option β} (h : ∀ b, x = some b → TrW G X n ds vs W rel ρ σ (some (.ok b, ρ, σ))) : TrW G X n ds vs W rel ρ σ (retO ρ σ x) := by
  cases x with
  | none => trivial
  | some b => exact h b rfl

theorem tr_bin {op : Operator} {l r : Expr} {pos : Pos} {o : Out V} {f : Loc → Mem → Out V} (h1 : Tr G X n ds vs (eval l X.env) (RV G) ρ σ o) (h2 : ∀ ds vs ρ σ, Tr G X n ds vs (eval r X.env) (RV G) ρ σ (f ρ σ)) :
    Tr G X n ds vs (eval (.BinOp l op r pos) X.env) (RV G) ρ σ (bindO o fun u ρ σ => bindO (f ρ σ) fun v ρ σ => retO ρ σ (opBin op (deref σ u) (deref σ v))) :=
  (TrW.bindV (K := fun a => fun A Q E s => wpAny (model G.prog G.w) A (eval r X.env) (fun b s₂ => wpAny (model G.prog G.w) A (binaryOp op a b) Q E s₂) E s) h1 fun b ρ₁ σ₁ a _ => TrW.bindV (K := fun d => tree G (binaryOp op a d)) (h2 (b :: ds) (a :: vs) ρ₁ σ₁) fun c ρ₂ σ₂ d _ => tr_binop).into fun A Q E s _ h => wpAny_BinOp h

theorem paired_chars {D : Dd} {h : Heap} {Y : Lay} (x : Nat) : ∀ (k n : Nat) {vs us : List Value}, vs.length = n → (∀ (j : Nat) (v : Value), vs[j]? = some v → ∃ t, v = .int ((x : Int) + ((k + j : Nat) : Int)) t) → Paired (fun v y => ∀ (i : Int) u, v = .int i u → ∃ t, y = .str ⟨#[i.toNat]⟩ t) vs us → Rps D h Y ((List.range' k n).map fun i => V.str [x + i]) us
  | k, 0, [], _, _, _, .nil => .nil
  | k, n + 1, v :: vs, _, hl, hP, .cons (b := y) hd hr => by
    obtain ⟨t, rfl⟩ := hP 0 v rfl
    obtain ⟨t', rfl⟩ := hd _ _ rfl
    rw [List.range'_succ, List.map_cons]
    have e : ((x : Int) + ((k + 0 : Nat) : Int)).toNat = x + k := by lia
    rw [e]
    refine .cons (.str [x + k] t') (paired_chars x (k + 1) n (by simpa using hl) (fun j v hv => ?_) hr)
    obtain ⟨t2, e2⟩ := hP (j + 1) v (by simpa using hv)
    exact ⟨t2, by rw [e2]; congr 2; lia⟩
  | _, 0, _ :: _, _, h, _, _ => by cases h
  | _, _ + 1, [], _, h, _, _ => by cases h

theorem tr_chrs {cd : Str} {px cpos p1 p2 p3 p4 p5 : Pos} {sc : Scope} {ea eb : Expr} {o : Out V} {f : Loc → Mem → Out V} (F : GF G) (S : CompScope sc cd) (hch : sc.names.lookup (Str.ofString "chr") = some .globalImplicit) (hk : X.sc.kind = .function)
    (hxr : X.sc.names.lookup (Str.ofString "range") = some .globalImplicit) (hp : plainArgs [ea, eb] = true)
    (h1 : Tr G X n ds vs (eval ea X.env) (RV G) ρ σ o) (h2 : ∀ ds vs ρ σ, Tr G X n ds vs (eval eb X.env) (RV G) ρ σ (f ρ σ)) :
    Tr G X n ds vs (eval (.ListComp (.Call (.Name (Str.ofString "chr") p1) [.Name cd p2] [] p3) [⟨.Name cd px, .Call (.Name (Str.ofString "range") p4) [ea, eb] [] p5, [], 0⟩] sc cpos) X.env) (RV G) ρ σ (bindO o fun u ρ σ => bindO (f ρ σ) fun v ρ σ => retO ρ σ (chrsO u v)) := by
  let FF : Value → Value → Prop := fun v y => ∀ (i : Int) u, v = .int i u → ∃ t, y = .str ⟨#[i.toNat]⟩ t
  let B : PT Value := fun A Q E s₁ => True
  let T : Value → Around → (Value → Shared → Prop) → (Value → Shared → Prop) → Shared → Prop := fun xv A Q E s₁ => wpAny (model G.prog G.w) A (pyIter xv) (fun it s₂ => ∃ I fp wr n P St, it = .ref I ∧ Walks G.prog G.w A I fp wr n P St ∧ n ≤ sizeLine ∧ St 0 s₂.heap ∧ (∀ b ∈ fp, b < s₂.heap.objs.size) ∧
      QuietOn G.prog G.w A X.env sc cd [] (.Call (.Name (Str.ofString "chr") p1) [.Name cd p2] [] p3) wr P (fun _ => true) FF s₂ ∧
      (∀ D h' tk ys (vs : List Value), s₂.heap.get? D = none → h'.IsList D ys → h'.PlainList D ys → vs.length = n → (∀ j v, vs[j]? = some v → P j v) → Paired FF (vs.filter fun _ => true) ys.toList →
        (∀ b o, b ∉ wr → s₂.heap.get? b = some o → h'.get? b = some o) → Q (.ref D) { s₂ with heap := h', toks := tk })) E s₁
  let K : Value → Value → PT Value := fun a b => fun A Q E s => wpAny (model G.prog G.w) A (call (.type "range") [a, b]) (fun xv s₁ => T xv A Q E s₁) E s
  refine tr_biName (b := 4) F hk hxr rfl rfl (TrW.bindV (K := fun a => fun A Q E s => wpAny (model G.prog G.w) A (eval eb X.env) (fun b s₁ => K a b A Q E s₁) E s) h1 fun u ρ₁ σ₁ a hu9 => TrW.bindV (K := fun b => K a b) (h2 (u :: ds) (a :: vs) ρ₁ σ₁) fun v ρ₂ σ₂ b hv9 => ?_)
    fun A Q E s h9 => wpAny_ListComp_walk (fun _ => true) FF S.free S.cell S.kind S.names S.loc (wpAny_Call_NameR (wpAny_mono h9 (fun fv s₁ ⟨e1, h8⟩ => ?_) fun _ _ e => e)) fun _ => rfl
  · refine trW_some fun r hr => ?_
    unfold chrsO at hr
    split at hr
    · rename_i x y
      split at hr
      · rename_i hz
        cases hr
        refine Tr.growW fun A s Y Q E hA hD hR kk => ?_
        cases hR.head
        cases hR.tail.head
        show wpAny _ A (call (.type "range") _) _ E s
        refine call_range_2 ?_
        generalize hs1 : s.heap.push { cls := .type "range", data := .fields #[.int x _, .int y _, .int 1 s.toks] } = h1
        have kp1 : Keeps s.heap h1 := fun b o e => hs1 ▸ Heap.get?_push_of_some _ e
        refine wpAny_pyIter_range (s := { s with heap := h1, toks := s.toks + 1 }) (by subst hs1; exact IsRange.new ..) (small_one (by lia) (by lia) (by lia) (by lia)) ?_
        have hsz : Builtin.Range.rangeSize x y 1 = ((y - x).toNat : Int) := by rw [rangeSize_one]; split <;> lia
        rw [hsz]
        have up : ∀ (h' : Heap), (∀ b o', b ∉ [h1.objs.size] → (h1.push { cls := .type "range_iterator", data := .fields #[rawInt x, rawInt ((y - x).toNat : Int), rawInt 1] }).get? b = some o' → h'.get? b = some o') → Keeps s.heap h' :=
          fun h' hk b o' e => hk b o' (fun hb => absurd (Heap.lt_size (kp1 b o' e)) ((List.mem_singleton.mp hb) ▸ Nat.lt_irrefl _)) (Heap.get?_push_of_some _ (kp1 b o' e))
        refine ⟨h1.objs.size, [h1.objs.size], [h1.objs.size], (y - x).toNat, _, _, rfl, (Walks.range hA.handled _ x 1 (y - x).toNat).bound, ?_, ?_, ?_, ⟨?_, ?_⟩, ?_⟩
        · rw [sizeLine_eq]; lia
        · have e1 : (x + ((0 : Nat) : Int) * 1) = x := by lia
          have e2 : (((y - x).toNat : Int) - ((0 : Nat) : Int)) = ((y - x).toNat : Int) := by lia
          show IsRangeIter _ _ _ _ _
          rw [e1, e2]
          exact Heap.get?_push_size _ rfl
        · intro b hb
          show b < (h1.push _).objs.size
          rw [Heap.size_push, List.mem_singleton.mp hb]
          exact Nat.lt_succ_self _
        · intro C i v s₃ m₃ E' hP hn hm hk _
          rw [List.forIn_nil]
          exact wpAny_pure ⟨rfl, s₃.heap, s₃.toks, rfl, fun _ _ e => e⟩
        · intro C i v s₃ m₃ E' hP _ hn hm hk _
          obtain ⟨hi, t, rfl⟩ := hP
          have hb : G.base.StaysIn s₃.heap := fun b o' e => up s₃.heap hk b o' (hD.stays b o' e)
          obtain ⟨g1, g2⟩ := F.bi 2 _ _ rfl
          refine wpAny_Call_NameR (Calls.Name_function_global (env := compEnv sc C X.env) S.kind hch (Calls.loadGlobal_builtin (env := compEnv sc C X.env) (F.top.g.keeps hb) g1 (F.top.b.keeps hb) g2 ?_) rfl)
          rw [backTo_one rfl]
          refine PySem.callWith_builtin1 (wpAny_Name (wpAny_loadName_local (env := compEnv sc C X.env) S.kind S.loc hn hm ?_) S.dbg)
          refine PySem.P.chr_of_int (by simp; lia) ⟨fun i' u' e => ?_, s₃.heap, _, rfl, fun _ _ e => e⟩
          cases e
          exact ⟨_, rfl⟩
        · intro D h' tk ys us hnew _ hpl hlen hP hF hk
          rw [filter_true] at hF
          obtain ⟨nn, g⟩ := hpl
          have kp := up h' hk
          have e9 : (List.range (y - x).toNat).map (fun i => V.str [x.toNat + i]) = (List.range' 0 (y - x).toNat).map fun i => V.str [x.toNat + i] := by rw [List.range_eq_range']
          refine kk h' tk (.ref D) kp ?_
          rw [show RV G h' Y (V.lst ((List.range (y - x).toNat).map fun i => V.str [x.toNat + i])) (.ref D) = Rp G.lvl h' Y (V.lst ((List.range' 0 (y - x).toNat).map fun i => V.str [x.toNat + i])) (.ref D) from by rw [e9]; rfl]
          refine .lst (vs := ys.toList) (by rw [Array.toArray_toList]; exact ⟨_, g, rfl, nn, rfl⟩) ⟨fun q => ?_, fun q => ?_⟩ (paired_chars x.toNat 0 _ hlen (fun j v hv => ?_) hF)
          · obtain ⟨o', e⟩ := hD.mu_live q
            rw [Heap.get?_push_of_some _ (kp1 _ _ e)] at hnew; cases hnew
          · obtain ⟨_, o', e⟩ := hD.no _ q
            rw [Heap.get?_push_of_some _ (kp1 _ _ e)] at hnew; cases hnew
          · obtain ⟨_, t, e⟩ := hP j v hv
            exact ⟨t, by rw [e]; congr 1; lia⟩
      · cases hr
    · cases hr
  · subst e1
    rw [star_plain hp]
    exact PySem.callWith_type rfl (Calls.evalArgs_plain (Calls.spliced_cons (wpAny_mono h8 (fun a s₂ h7 => Calls.spliced_cons (wpAny_mono h7 (fun b s₃ h6 => Calls.spliced_nil h6) fun _ _ e => e)) fun _ _ e => e)))
end
end Mine

end

section
set_option genInjectivity false
open PySem PySem.W PyProof.Rows
set_option maxRecDepth 100000
namespace Mine

noncomputable def sSelf : Str := Str.ofString "self"
noncomputable def sKind : Str := Str.ofString "kind"
noncomputable def sWord : Str := Str.ofString "word"
noncomputable def sArgs : Str := Str.ofString "args"
noncomputable def sOpnd : Str := Str.ofString "operands"
noncomputable def sOper : Str := Str.ofString "operators"
noncomputable def lvlBody (p1 p2 p3 p4 p5 p6 p7 p8 p9 p10 p11 p12 p13 p14 p15 p16 p17 p18 p19 p20 : Pos) : List Stmt :=
  [.Assign [.Attribute (.Name sSelf p1) sKind p2] (.Name sKind p3) p4,
   .Assign [.Attribute (.Name sSelf p5) sWord p6] (.Name sWord p7) p8,
   .Assign [.Attribute (.Name sSelf p9) sArgs p10] (.List [] p11) p12,
   .Assign [.Attribute (.Name sSelf p13) sOpnd p14] (.List [] p15) p16,
   .Assign [.Attribute (.Name sSelf p17) sOper p18] (.List [] p19) p20]

structure LvlFn (fd : FuncData) : Prop where
  body : ∃ p : Pos × Pos × Pos × Pos × Pos × Pos × Pos × Pos × Pos × Pos × Pos × Pos × Pos × Pos × Pos × Pos × Pos × Pos × Pos × Pos, fd.body = .stmts (lvlBody p.1 p.2.1 p.2.2.1 p.2.2.2.1 p.2.2.2.2.1 p.2.2.2.2.2.1 p.2.2.2.2.2.2.1 p.2.2.2.2.2.2.2.1 p.2.2.2.2.2.2.2.2.1 p.2.2.2.2.2.2.2.2.2.1 p.2.2.2.2.2.2.2.2.2.2.1 p.2.2.2.2.2.2.2.2.2.2.2.1 p.2.2.2.2.2.2.2.2.2.2.2.2.1 p.2.2.2.2.2.2.2.2.2.2.2.2.2.1 p.2.2.2.2.2.2.2.2.2.2.2.2.2.2.1 p.2.2.2.2.2.2.2.2.2.2.2.2.2.2.2.1 p.2.2.2.2.2.2.2.2.2.2.2.2.2.2.2.2.1 p.2.2.2.2.2.2.2.2.2.2.2.2.2.2.2.2.2.1 p.2.2.2.2.2.2.2.2.2.2.2.2.2.2.2.2.2.2.1 p.2.2.2.2.2.2.2.2.2.2.2.2.2.2.2.2.2.2.2)
  kind : fd.scope.kind = .function
  co : fd.scope.isCoroutine = false
  gen : fd.scope.isGenerator = false
  cell : ∀ x ∈ fd.scope.names, x.2 ≠ .cell
  bind : ∀ a b c : Value, bindArgs fd ⟨[a, b, c], []⟩ = pure [(sSelf, a), (sKind, b), (sWord, c)]
  loc : ∀ x ∈ [sSelf, sKind, sWord], fd.scope.names.lookup x = some .local

structure GM (G : Gx) : Prop extends GL G where
  keep : keepIn G.K (.ref G.lvl.lvl) = true
  makes : makesIn G.K G.lvl.lvl = true
  init : findIn G.K (.ref G.lvl.lvl) "__init__" = some (some (.ref G.lvlInit))
  initFn : typeIn G.K (.ref G.lvlInit) = some (.type "function")
  initAt : ∃ o fd, G.base.get? G.lvlInit = some o ∧ o.data = .func fd ∧ G.base.CodeRec fd.code fd.qualname ∧ LvlFn fd
  setA : findIn G.K (.ref G.lvl.lvl) "__setattr__" = some (some (.builtin "object.__setattr__"))
  over : plainOver G.K G.lvl.lvl = true
  taker : ∀ (k : Nat) (x : Str), attrTab[k]? = some x → takerIn G.K G.lvl.lvl x = some none
  name : G.mg (Str.ofString "Level") = some (.ref G.lvl.lvl)

section
variable {G : Gx} {X : Fx} {n : Nat} {ds : List V} {vs : List Value} {ρ : Loc} {σ : Mem}

theorem type_call_weight (C : Addr) (l : List Value) : Code.weight (.builtin "type.__call__" ⟨.ref C :: l, []⟩) = 1 := by kernel_rfl

theorem lvl_make (F : GF G) (M : GM G) {A : Around} {s : Shared} {E : Value → Shared → Prop} {Q : Value → Shared → Prop} (hdep : A.depth + 15 < recursionLimit) (hb : G.base.StaysIn s.heap) (vk vw : Value)
    (h : ∀ h' tk x dx a1 a2 a3 es n, PyProof.Rows.News s.heap (s.heap.objs.size + 2) h' [(a3, listOf [].toArray 0), (a2, listOf [].toArray 0), (a1, listOf [].toArray 0), (x, ⟨.ref G.lvl.lvl, some dx, .plain, #[]⟩), (dx, dictOf es n)] → Keeps s.heap h' → dx < x → x < a1 → a1 < a2 → a2 < a3 → es.length = 5 →
      getL sKind es = some (some vk) → getL sWord es = some (some vw) → getL sArgs es = some (some (.ref a1)) → getL sOpnd es = some (some (.ref a2)) → getL sOper es = some (some (.ref a3)) →
      Q (.ref x) { s with heap := h', toks := tk }) :
    wpAny (model G.prog G.w) A (call (.ref G.lvl.lvl) [vk, vw]) Q E s := by
  refine Classical.byContradiction fun ng => ?_
  obtain ⟨hh, g, dr, t, os⟩ := s
  have X₀ : G.K.In hh := M.K.keeps hb
  have TT := F.top.keeps hb
  obtain ⟨oI, fd, hoI, hfd, hcd, LF⟩ := M.initAt
  obtain ⟨p, hbody⟩ := LF.body
  refine ng (wpAny_call (make_core (makes_of X₀ M.makes) (looks_findIn X₀ M.init) (fun self => bind_fn X₀ self M.initFn) (.inl rfl) ?_))
  clear ng
  have kp : Keeps hh ((hh.push emptyDict).push (instObj G.lvl.lvl hh.objs.size)) := fun b o e => Heap.get?_push_of_some _ (Heap.get?_push_of_some _ e)
  refine codeAny_call_def (fd := fd) (binds := [(sSelf, .ref (hh.objs.size + 1)), (sKind, vk), (sWord, vw)]) ?_ (kp _ _ (hb _ _ hoI)) hfd (TT.nolimit.keeps kp) ((hcd.keeps hb).keeps kp) hbody (BindsTo.of_eq (LF.bind _ _ _)) LF.cell (fun x hx => LF.loc _ (by simp at hx; rcases hx with rfl | rfl | rfl <;> simp)) (fun h₁ hns hk₁ => ?_) LF.co LF.gen LF.kind
  · show A.depth + Code.weight _ < recursionLimit
    rw [type_call_weight]; lia
  · have hkf := LF.kind
    have hsz : ((hh.push emptyDict).push (instObj G.lvl.lvl hh.objs.size)).objs.size = hh.objs.size + 2 := by rw [Heap.size_push, Heap.size_push]
    rw [hsz] at hns
    rw [hsz]
    generalize hfenv : callEnv fd (hh.objs.size + 2) G.lvlInit = env
    have hsc : env.scope = fd.scope := by subst hfenv; rfl
    have hlo : env.locals = hh.objs.size + 2 := by subst hfenv; rfl
    have F1 : Fr hh (hh.objs.size + 2) h₁ (fun y => [(sSelf, Value.ref (hh.objs.size + 1)), (sKind, vk), (sWord, vw)].reverse.lookup y) := ⟨hns, fun b o e => hk₁ b o (kp b o e), Nat.le_add_right _ 2⟩
    have N1 : PyProof.Rows.News hh (hh.objs.size + 2) h₁ [(hh.objs.size + 1, (⟨.ref G.lvl.lvl, some hh.objs.size, .plain, #[]⟩ : Obj)), (hh.objs.size, dictOf [] 0)] := by
      intro p hp
      rcases List.mem_cons.mp hp with rfl | hp
      · exact ⟨hk₁ _ _ (by heap_get), Nat.ne_of_lt (Nat.lt_succ_self _), Heap.get?_none_of_le (Nat.le_succ _)⟩
      · rcases List.mem_cons.mp hp with rfl | hp
        · exact ⟨hk₁ _ _ (by heap_get), Nat.ne_of_lt (by lia), Heap.get?_none_of_le (Nat.le_refl _)⟩
        · cases hp
    have ldn : ∀ {A' : Around} {s' : Shared} {x : Str} {p : Pos} {v : Value} {Q : Value → Shared → Prop} {E : Value → Shared → Prop} {m : Str → Option Value}, Fr hh (hh.objs.size + 2) s'.heap m → m x = some v → x ∈ [sSelf, sKind, sWord] → (x == ("__debug__" : Str)) = false → Q v s' → wpAny (model G.prog G.w) A' (eval (.Name x p) env) Q E s' := fun F9 hm hx hd hq =>
      wpAny_Name (wpAny_loadName_local (env := env) (by rw [hsc]; exact hkf) (by show env.scope.names.lookup _ = _; rw [hsc]; exact LF.loc _ hx) (by rw [hlo]; exact F9.ns) hm hq) hd
    have neq1 : hh.objs.size + 1 ≠ hh.objs.size := Nat.ne_of_gt (Nat.lt_succ_self _)
    refine wpAny_execs_cons (plainObj_wpAny_Assign_Attribute (ldn F1 rfl (by simp) rfl (ldn F1 rfl (by simp) rfl ?_)) rfl)
    refine set_dict F1 X₀ N1 (InstAt.of_news N1 (.head _) (.tail _ (.head _))) rfl M.setA M.over (M.taker 0 _ rfl) M.hasD rfl rfl (.tail neq1 (.head (fun _ q => nomatch q))) (Nat.le_of_ble_eq_true rfl) fun h2 F2 N2 => ?_
    refine wpAny_execs_cons (plainObj_wpAny_Assign_Attribute (ldn F2 rfl (by simp) rfl (ldn F2 rfl (by simp) rfl ?_)) rfl)
    refine set_dict F2 X₀ N2 (InstAt.of_news N2 (.head _) (.tail _ (.head _))) rfl M.setA M.over (M.taker 1 _ rfl) M.hasD rfl rfl (.tail neq1 (.head (fun _ q => nomatch q))) (Nat.le_of_ble_eq_true rfl) fun h3 F3 N3 => ?_
    refine wpAny_execs_cons (plainObj_wpAny_Assign_Attribute (List_ (Calls.spliced_nil (wpAny_newObj_type ?_ (Nat.zero_le _)))) rfl)
    have c3 : hh.objs.size + 1 < h3.objs.size := Heap.lt_size (N3 _ (.head _)).1
    have F3' := F3.push (listOf ([] : List Value).toArray 0)
    have N3' := PyProof.Rows.News.push F3 N3 (listOf ([] : List Value).toArray 0)
    refine ldn F3' rfl (by simp) rfl ?_
    refine set_dict F3' X₀ N3' (InstAt.of_news N3' (.tail _ (.head _)) (.tail _ (.tail _ (.head _)))) rfl M.setA M.over (M.taker 2 _ rfl) M.hasD rfl rfl (.tail (Nat.ne_of_gt (Nat.lt_trans (Nat.lt_succ_self _) c3)) (.tail neq1 (.head (fun _ q => nomatch q)))) (Nat.le_of_ble_eq_true rfl) fun h4 F4 N4 => ?_
    refine wpAny_execs_cons (plainObj_wpAny_Assign_Attribute (List_ (Calls.spliced_nil (wpAny_newObj_type ?_ (Nat.zero_le _)))) rfl)
    have c4 : h3.objs.size < h4.objs.size := Heap.lt_size (N4 _ (.head _)).1
    have F4' := F4.push (listOf ([] : List Value).toArray 0)
    have N4' := PyProof.Rows.News.push F4 N4 (listOf ([] : List Value).toArray 0)
    refine ldn F4' rfl (by simp) rfl ?_
    have d3 := Nat.ne_of_gt (Nat.lt_trans (Nat.lt_succ_self _) c3)
    have d4 := Nat.ne_of_gt (Nat.lt_trans (Nat.lt_trans (Nat.lt_succ_self _) c3) c4)
    refine set_dict F4' X₀ N4' (InstAt.of_news N4' (.tail _ (.tail _ (.head _))) (.tail _ (.tail _ (.tail _ (.head _))))) rfl M.setA M.over (M.taker 3 _ rfl) M.hasD rfl rfl (.tail d4 (.tail d3 (.tail neq1 (.head (fun _ q => nomatch q))))) (Nat.le_of_ble_eq_true rfl) fun h5 F5 N5 => ?_
    refine wpAny_execs_cons (plainObj_wpAny_Assign_Attribute (List_ (Calls.spliced_nil (wpAny_newObj_type ?_ (Nat.zero_le _)))) rfl)
    have c5 : h4.objs.size < h5.objs.size := Heap.lt_size (N5 _ (.head _)).1
    have F5' := F5.push (listOf ([] : List Value).toArray 0)
    have N5' := PyProof.Rows.News.push F5 N5 (listOf ([] : List Value).toArray 0)
    refine ldn F5' rfl (by simp) rfl ?_
    have d5 := Nat.ne_of_gt (Nat.lt_trans (Nat.lt_trans (Nat.lt_trans (Nat.lt_succ_self _) c3) c4) c5)
    refine set_dict F5' X₀ N5' (InstAt.of_news N5' (.tail _ (.tail _ (.tail _ (.head _)))) (.tail _ (.tail _ (.tail _ (.tail _ (.head _)))))) rfl M.setA M.over (M.taker 4 _ rfl) M.hasD rfl rfl (.tail d5 (.tail d4 (.tail d3 (.tail neq1 (.head (fun _ q => nomatch q)))))) (Nat.le_of_ble_eq_true rfl) fun h6 F6 N6 => ?_
    refine wpAny_execs_nil ⟨rfl, ?_⟩
    exact h h6 _ _ _ _ _ _ _ _ N6 F6.keep (Nat.lt_succ_self _) c3 c4 c5 rfl rfl rfl rfl rfl rfl

theorem Dyn.addN {h h' : Heap} {Y : Lay} {as : List Addr} {cs : List Cell} (d : Dyn G X h Y ρ σ) (kp : Keeps h h') (fresh : ∀ a ∈ as, h.get? a = none) (hl : as.length = cs.length) (hnd : as.Nodup)
    (hc : ∀ (j : Nat) (a : Addr) (c : Cell), as[j]? = some a → cs[j]? = some c → CellAt G.lvl h' ⟨Y.mu ++ as, Y.fr, Y.no⟩ a c) :
    Step X.L h Y h' ⟨Y.mu ++ as, Y.fr, Y.no⟩ ∧ Dyn G X h' ⟨Y.mu ++ as, Y.fr, Y.no⟩ ρ (σ ++ cs) ∧ ∀ (j : Nat) (a : Addr), as[j]? = some a → (Y.mu ++ as)[σ.length + j]? = some a := by
  have d' := d.of_keeps kp
  have hbase : ∀ a ∈ as, G.base.get? a = none := fun a ha => by
    cases q : G.base.get? a with
    | none => rfl
    | some o => have := fresh a ha; rw [d.stays a o q] at this; cases this
  have hmu : ∀ a ∈ as, a ∉ Y.mu := fun a ha q => by obtain ⟨o, e⟩ := d.mu_live q; have := fresh a ha; rw [e] at this; cases this
  have hfr : ∀ a ∈ as, a ∉ Y.fr := fun a ha q => by obtain ⟨o, es, n, e, _⟩ := d.frs a q; have := fresh a ha; rw [e] at this; cases this
  have st : Step X.L h Y h' ⟨Y.mu ++ as, Y.fr, Y.no⟩ := by
    refine ⟨fun i b e => ?_, rfl, rfl, fun b o e => ⟨o, kp b o e⟩, fun b hm hn => ?_, fun b o e _ _ => kp b o e, fun b o e _ _ => ⟨o.slots, kp b o e⟩⟩
    · show (Y.mu ++ as)[i]? = some b
      rw [List.getElem?_append_left (List.getElem?_eq_some_iff.mp e).1]; exact e
    · rcases List.mem_append.mp hm with q | q
      · exact absurd q hn
      · exact fresh b q
  have m := st.moves d
  refine ⟨st, ⟨d'.stays, d'.funs, d'.fr, d'.frs, ⟨?_, ?_, ?_, ?_, ?_⟩, d'.no, ?_⟩, fun j a e => ?_⟩
  · show (Y.mu ++ as).length = (σ ++ cs).length
    rw [List.length_append, List.length_append, d.mem.len, hl]
  · show (Y.mu ++ as).Nodup
    rw [List.nodup_append]
    exact ⟨d.mem.nodup, hnd, fun b hb b' hb' e => hmu b' hb' (e ▸ hb)⟩
  · intro b hb
    rcases List.mem_append.mp hb with q | q
    · exact d.mem.new b q
    · exact hbase b q
  · intro b hb
    rcases List.mem_append.mp hb with q | q
    · exact d.mem.apart b q
    · exact hfr b q
  · intro i b c' hi hc'
    change (Y.mu ++ as)[i]? = some b at hi
    by_cases hlt : i < Y.mu.length
    · rw [List.getElem?_append_left hlt] at hi
      rw [List.getElem?_append_left (by rw [← d.mem.len]; exact hlt)] at hc'
      exact (d.mem.cell i b c' hi hc').mono m fun o e => kp b o e
    · have hge := Nat.le_of_not_lt hlt
      rw [List.getElem?_append_right hge] at hi
      rw [List.getElem?_append_right (by rw [← d.mem.len]; exact hge), ← d.mem.len] at hc'
      exact hc _ b c' hi hc'
  · obtain ⟨mm, hm, hl⟩ := d.loc
    refine ⟨mm, hm.keeps kp, fun i v e => ?_⟩
    obtain ⟨x, u, e1, e2, r⟩ := hl i v e
    exact ⟨x, u, e1, e2, r.mono m⟩
  · rw [List.getElem?_append_right (by rw [d.mem.len]; exact Nat.le_add_right _ _), d.mem.len, Nat.add_sub_cancel_left]
    exact e

theorem tr_mk {es : List Expr} {e : Expr} {p pos : Pos} {o : Out (List V)} (F : GF G) (M : GM G) (hk : X.sc.kind = .function) (hx : X.sc.names.lookup (Str.ofString "Level") = some .globalImplicit) (hp : plainArgs (e :: es) = true)
    (h : Tr G X n ds vs (spliced (backTo pos (starEach (e :: es) X.env))) (RVs G) ρ σ o) :
    Tr G X n ds vs (eval (.Call (.Name (Str.ofString "Level") p) (e :: es) [] pos) X.env) (RV G) ρ σ (bindO o fun bs ρ σ => mkO bs ρ σ) := by
  refine ((TrW.bind (ds1 := fun bs => bs ++ ds) (vs1 := fun as => as ++ vs) (K := fun as => fun A Q E s => G.K.In s.heap ∧ wpAny (model G.prog G.w) A (call (.ref G.lvl.lvl) as) Q E s) h (fun _ _ _ _ x y => Rps.append y x) fun bs ρ₁ σ₁ as ⟨_, _, hl⟩ => ?_).pre (W' := fun A Q E s => wpAny (model G.prog G.w) A (eval (.Name (Str.ofString "Level") p) X.env) (fun f s₁ => f = .ref G.lvl.lvl ∧ wpAny (model G.prog G.w) A (spliced (backTo pos (starEach (e :: es) X.env))) (fun as s₂ => G.K.In s₂.heap ∧ wpAny (model G.prog G.w) A (call (.ref G.lvl.lvl) as) Q E s₂) E s₁) E s)
    fun A s Y Q E hA hD hR kk => ?_).into fun A Q E s _ h9 => wpAny_Call_NameR (wpAny_mono h9 (fun f s₁ ⟨e1, h8⟩ => ?_) fun _ _ e => e)
  · unfold mkO
    split
    · rename_i k w
      intro A s Y Q E hA hD hR kk
      have hx := (hR.split hl.length).1
      cases hx with
      | @cons _ _ u1 _ r1 hx =>
      cases hx with
      | @cons _ _ u2 _ r2 hx =>
      cases hx
      refine ⟨M.K.keeps hD.stays, lvl_make F M (by have := hA.depth; lia) hD.stays u1 u2 fun h' tk x dx a1 a2 a3 es nn N kp c1 c2 c3 c4 hz g1 g2 g3 g4 g5 => ?_⟩
      have n3 := N _ (.head _)
      have n2 := N _ (.tail _ (.head _))
      have n1 := N _ (.tail _ (.tail _ (.head _)))
      have nx := N _ (.tail _ (.tail _ (.tail _ (.head _))))
      have nd := N _ (.tail _ (.tail _ (.tail _ (.tail _ (.head _)))))
      have hcells : ∀ (j : Nat) (a : Addr) (c : Cell), [a1, a2, a3][j]? = some a → [Cell.list [], .list [], .list []][j]? = some c → CellAt G.lvl h' ⟨Y.mu ++ [a1, a2, a3], Y.fr, Y.no⟩ a c := by
        intro j a c e1 e2
        match j, e1, e2 with
        | 0, e1, e2 => cases e1; cases e2; exact ⟨[], 0, n1.1, .nil⟩
        | 1, e1, e2 => cases e1; cases e2; exact ⟨[], 0, n2.1, .nil⟩
        | 2, e1, e2 => cases e1; cases e2; exact ⟨[], 0, n3.1, .nil⟩
      obtain ⟨st, d', hi⟩ := hD.addN (as := [a1, a2, a3]) (cs := [.list [], .list [], .list []]) kp (by
        intro a ha
        simp only [List.mem_cons, List.not_mem_nil, or_false] at ha
        rcases ha with rfl | rfl | rfl
        · exact n1.2.2
        · exact n2.2.2
        · exact n3.2.2) rfl (by
        simp only [List.nodup_cons, List.mem_cons, List.not_mem_nil, or_false, not_or, not_false_eq_true, List.nodup_nil, and_true]
        exact ⟨⟨Nat.ne_of_lt c3, Nat.ne_of_lt (Nat.lt_trans c3 c4)⟩, Nat.ne_of_lt c4⟩) hcells
      have m := st.moves hD
      have hdm : ∀ b o, h'.get? b = some o → s.heap.get? b = none → b ∉ Y.mu ∧ b ∉ Y.fr := fun b o e hn => ⟨(fun q => by obtain ⟨o', e'⟩ := hD.mu_live q; rw [hn] at e'; cases e'), fun q => by obtain ⟨o', _, _, e', _⟩ := hD.frs b q; rw [hn] at e'; cases e'⟩
      refine (kk h' tk _ st d').1 _ rfl _ (.lvl nx.1 ⟨nn, nd.1⟩ (fun q => ?_) (hdm _ _ nd.1 nd.2.2).2 hz g1 g2 g3 g4 g5 (.cons (r1.mono m) (.cons (r2.mono m) (.cons (.ref (hi 0 _ rfl)) (.cons (.ref (hi 1 _ rfl)) (.cons (.ref (hi 2 _ rfl)) .nil))))))
      rcases List.mem_append.mp q with q | q
      · exact (hdm _ _ nd.1 nd.2.2).1 q
      · simp only [List.mem_cons, List.not_mem_nil, or_false] at q
        rcases q with q | q | q
        · exact absurd q (Nat.ne_of_lt (Nat.lt_trans c1 c2))
        · exact absurd q (Nat.ne_of_lt (Nat.lt_trans (Nat.lt_trans c1 c2) c3))
        · exact absurd q (Nat.ne_of_lt (Nat.lt_trans (Nat.lt_trans (Nat.lt_trans c1 c2) c3) c4))
    · trivial
  · exact Calls.Name_function_global (env := X.env) hk hx (Calls.loadGlobal_global (env := X.env) (F.top.g.keeps hD.stays) M.name ⟨rfl, kk s.toks⟩) rfl
  · subst e1
    rw [star_plain hp] at h8 ⊢
    exact callWith_of (by rw [any_plain]; rfl) (keeps_K M.keep) (Calls.evalArgs_plain h8)
end
end Mine

end

section
set_option genInjectivity false
open PySem PySem.W PyProof.Rows
set_option maxRecDepth 100000
set_option maxHeartbeats 4000000
namespace Mine

noncomputable abbrev excObj0 (C t : Addr) : Obj := { cls := .ref C, data := .fields #[.ref t, .none, .none, .none, .bool false, .none] }

section
variable {prog : Program} {w : World} {A : Around} {E : Value → Shared → Prop} {h : Heap} {g : Array GenState} {d : Drawn} {t : Nat} {os : OsState}
variable {nm q : Str} {C N : Addr} {bs bm : List Value} {hdct : Bool} {sn : List Str} {sub : List Value} {ab : Bool} {col : Option Bool} {dd : Option Addr} {k0 k1 k2 k3 k5 : Option Value} {B newId initId : String} {K : Frag} {fI : Addr}

theorem type_call_exc (F : ExcBaseFacts B newId initId bm) {rest : List Value} {Q : Value → Shared → Prop} (X : K.In h) (hi : findIn K (.ref C) "__init__" = some (some (.ref fI))) (hf : typeIn K (.ref fI) = some (.type "function"))
    (hC : h.get? C = some (excClassObj nm q C N bs bm hdct sn sub ab col dd k0 k1 k2 k3 k5 newId))
    (hq : codeAny (model prog w) A (.call (.ref fI) ⟨.ref (h.objs.size + 1) :: rest, []⟩) (fun r s' => match r with | .ok (.ret v) => v = .none ∧ Q (.ref (h.objs.size + 1)) s' | .ok _ => False | .error e => E e s') ⟨(h.push { cls := .type "tuple", data := .seq rest.toArray }).push (excObj0 C h.objs.size), g, d, t, os⟩) (hrest : rest.length ≤ sizeLine) :
    wpAny (model prog w) A (Builtin.«type.__call__» ⟨.ref C :: rest, []⟩) (fun f s' => match f with | .done (.ret v) => Q v s' | _ => False) E ⟨h, g, d, t, os⟩ := by
  repeat (first | with_reducible refine wpAny_loadPart_at hC ?_ | with_reducible refine wpAny_madeBy_exc hC ?_ | wp_step)
  refine codeAny_call_builtin_code (Code.quiet_builtin _ F.quiet) (wpAny_check_new_sub F hC ?_)
  refine codeAny_exc_new_sub F hC ?_ hrest
  show wpAny _ _ _ _ _ _
  have kp : ∀ b o, h.get? b = some o → ((h.push { cls := .type "tuple", data := .seq rest.toArray }).push (excObj0 C h.objs.size)).get? b = some o := fun b o e => Heap.get?_push_of_some _ (Heap.get?_push_of_some _ e)
  have hC₁ := kp _ _ hC
  have X₁ := X.keeps kp
  have hget : ((h.push { cls := .type "tuple", data := .seq rest.toArray }).push (excObj0 C h.objs.size)).get? (h.objs.size + 1) = some (excObj0 C h.objs.size) := by heap_get
  have hcC : (Value.ref C :: bm).contains (.ref C) = true := by simp
  have L1 := looks_findIn (M := model prog w) X₁ hi
  have L2 := bind_fn (M := model prog w) X₁ (.ref (h.objs.size + 1)) hf
  unfold isInstance
  repeat (first | with_reducible refine wpAny_loadPart_at hget ?_ | (with_reducible refine wpAny_isSubtype_exc hC₁ ?_; rw [hcC]) | wp_step)
  show wpAny _ _ (typeLookup (.ref C) _) _ _ _
  refine L1.at (wpAny_holding (wpAny_bind (L2.at (wpAny_bind (wpAny_call (codeAny_mono hq fun r s' z => ?_))))))
  rcases r with e | (v | _ | _ | _) <;> first | exact z | exact z.elim | skip
  obtain ⟨rfl, z⟩ := z
  exact wpAny_pure (wpAny_pure z)

theorem call_exc_own (F : ExcBaseFacts B newId initId bm) {rest : List Value} {Q : Value → Shared → Prop} (X : K.In h) (hi : findIn K (.ref C) "__init__" = some (some (.ref fI))) (hf : typeIn K (.ref fI) = some (.type "function"))
    (hC : h.get? C = some (excClassObj nm q C N bs bm hdct sn sub ab col dd k0 k1 k2 k3 k5 newId))
    (hq : ∀ A' : Around, A'.depth ≤ A.depth + 2 → codeAny (model prog w) A' (.call (.ref fI) ⟨.ref (h.objs.size + 1) :: rest, []⟩) (fun r s' => match r with | .ok (.ret v) => v = .none ∧ Q (.ref (h.objs.size + 1)) s' | .ok _ => False | .error e => E e s') ⟨(h.push { cls := .type "tuple", data := .seq rest.toArray }).push (excObj0 C h.objs.size), g, d, t, os⟩) (hrest : rest.length ≤ sizeLine) :
    wpAny (model prog w) A (call (.ref C) rest) Q E ⟨h, g, d, t, os⟩ := by
  have f1 := tc_lookup
  have f2 := tc_bind (.ref C)
  have hT : (⟨h, g, d, t, os⟩ : Shared).TypeIs (.ref C) "type" := ⟨_, hC, rfl⟩
  refine wpAny_call (codeAny_of_tree ?_)
  show wpAny _ _ (callAny (.ref C) _) _ _ _
  repeat (any_goals (first | assumption | with_reducible refine wpAny_loadPart_at hC ?_ | wp_step))
  refine ⟨rfl, ?_⟩
  refine codeAny_call_builtin_at (Code.quiet_builtin _ (by decide +kernel)) entry_typeCall (wpAny_check_type_call_sub hC (wpAny_mono (type_call_exc F X hi hf hC (hq _ ?_) hrest) (fun f s' z => ?_) fun _ _ e => e))
  · show A.depth + Code.weight (.builtin "type.__call__" ⟨.ref C :: rest, []⟩) ≤ A.depth + 2
    rw [type_call_weight]; lia
  · rcases f with (v | _ | _ | _) | _ <;> first | exact z | exact z.elim
end

/-! a builtin's method found by way of super -/
namespace FX
theorem canon_init : (Manifest.canonical "Exception.__init__") = "BaseException.__init__" := by decide +kernel
theorem type_init : typeOf (.builtin "Exception.__init__") = pure (.type "wrapper_descriptor") := by kernel_rfl
theorem slot_wd_get : Slot "wrapper_descriptor" "__get__" "wrapper_descriptor.__get__" := .of (owner := "wrapper_descriptor") (n := "__get__") (by rw [typeLookup_type, builtinLookup_eq_fast]; kernel_rfl) (by decide +kernel) (by decide +kernel) (by decide +kernel)
  (by first | exact .inl (by decide +kernel) | exact .inr (by decide +kernel)) (by rw [isSubtype_type]; kernel_rfl)
theorem entry_wd_get : entryFor table "wrapper_descriptor.__get__" = some Builtin.«wrapper_descriptor.__get__» := entryFor_of_tree (by kernel_rfl)
theorem args_wd_get (a b c : Value) : argsOk "wrapper_descriptor.__get__" ⟨[a, b, c], []⟩ := by unfold argsOk; kernel_rfl
theorem owner_init : (".".intercalate ("Exception.__init__".cutAt '.').dropLast) = "Exception" := by
  have e0 : "Exception.__init__".cutAt '.' = ["Exception", "__init__"] := by first | rfl | decide +kernel
  rw [e0]; decide +kernel
end FX

noncomputable abbrev wrapObj (x : Addr) : Obj := { cls := .type "method-wrapper", data := .fields #[.builtin "Exception.__init__", .ref x] }

section
variable {prog : Program} {w : World} {A : Around} {E : Value → Shared → Prop} {h : Heap} {g : Array GenState} {d : Drawn} {t : Nat} {os : OsState}
variable {nm q : Str} {C N : Addr} {bs bm : List Value} {hdct : Bool} {sn : List Str} {sub : List Value} {ab : Bool} {col : Option Bool} {dd : Option Addr} {k0 k1 k2 k3 k5 : Option Value} {B newId initId : String} {K : Frag} {fI : Addr}

theorem super_ga_init {so x t₀ : Addr} {t' : Nat} {l₀ l : List Value} {tk : Tok} {Q : Fin → Shared → Prop}
    (hC : h.get? C = some (excClassObj nm q C N bs bm hdct sn sub ab col dd k0 k1 k2 k3 k5 newId)) (hx : h.get? x = some (excObj0 C t₀)) (hbE : bm.contains (.type "Exception") = true)
    (hso : h.get? so = some { cls := .type "super", dict := none, data := .fields #[.ref C, .ref x, .ref C], slots := #[] }) (hno : Looks (model prog w) h (opaqueClassAbove (.ref C)) none)
    (hl0 : Looks (model prog w) h (mroOf (.ref C)) l₀) (hl : (l₀.dropWhile (· != .ref C)).drop 1 = l) (X : K.In h)
    (hf : alongIn K "__init__" l = some (some (.builtin "Exception.__init__"))) (hxC : x ≠ C)
    (hq : Q (.done (.ret (.ref h.objs.size))) ⟨h.push (wrapObj x), g, d, t', os⟩) :
    wpAny (model prog w) A (Builtin.«super.__getattribute__» ⟨[.ref so, .str "__init__" tk], []⟩) Q E ⟨h, g, d, t', os⟩ := by
  have hlk := FX.slot_wd_get.lookup
  have hne : (Value.ref x == Value.ref C) = false := by simp [hxC]
  have hn : (("__init__" : Str) == ("__class__" : Str)) = false := by decide
  have hTf : (⟨h, g, d, t', os⟩ : Shared).TypeIs (.builtin "Exception.__init__") "wrapper_descriptor" := FX.type_init
  have f0t := FX.type_init
  have hdt : ({ cls := .type "super", dict := none, data := .fields #[.ref C, .ref x, .ref C], slots := #[] } : Obj).data = .fields #[.ref C, .ref x, .ref C] := rfl
  have f0 : (#[.ref C, .ref x, .ref C] : Array Value)[0]? = some (.ref C) := rfl
  have f1 : (#[.ref C, .ref x, .ref C] : Array Value)[1]? = some (.ref x) := rfl
  have f2 : (#[.ref C, .ref x, .ref C] : Array Value)[2]? = some (.ref C) := rfl
  have hcB : (Value.ref C :: bm).contains (.type "Exception") = true := by rw [List.contains_cons, hbE, Bool.or_true]
  unfold Builtin.«super.__getattribute__»
  repeat (first
    | (with_reducible refine wpAny_field hso hdt f0 ?_) | (with_reducible refine wpAny_field hso hdt f1 ?_) | (with_reducible refine wpAny_field hso hdt f2 ?_)
    | (with_reducible refine ks_wpAny_notOpaque hno ?_)
    | (with_reducible refine Looks.at hl0 ?_; rw [hl])
    | (refine ks_forIn_along X (fun _ _ => rfl) rfl ?_ hf)
    | (with_reducible refine wpAny_call_entry FX.slot_wd_get hTf FX.entry_wd_get ?_ (FX.args_wd_get _ _ _))
    | (with_reducible refine ⟨_, rfl, ?_⟩)
    | (simp only [hn, hne, Bool.or_false, Bool.false_eq_true, if_false])
    | wp_step
    | dsimp only)
  rw [FX.owner_init]
  refine wpAny_isSubtype_exc hC ?_
  rw [hcB]
  unfold newFields
  repeat (first | (with_reducible refine ⟨_, rfl, ?_⟩) | (with_reducible refine wpAny_newObj_type ?_ (by size_fits)) | wp_step)
  all_goals exact hq

theorem getMethod_super_init {so x t₀ : Addr} {l₀ l : List Value} {pl : Sem Bool} {Q : Value × List Value → Shared → Prop}
    (hC : h.get? C = some (excClassObj nm q C N bs bm hdct sn sub ab col dd k0 k1 k2 k3 k5 newId)) (hx : h.get? x = some (excObj0 C t₀)) (hbE : bm.contains (.type "Exception") = true)
    (hso : h.get? so = some { cls := .type "super", dict := none, data := .fields #[.ref C, .ref x, .ref C], slots := #[] }) (hno : Looks (model prog w) h (opaqueClassAbove (.ref C)) none)
    (hl0 : Looks (model prog w) h (mroOf (.ref C)) l₀) (hl : (l₀.dropWhile (· != .ref C)).drop 1 = l) (X : K.In h)
    (hf : alongIn K "__init__" l = some (some (.builtin "Exception.__init__"))) (hxC : x ≠ C)
    (hq : Q (.ref h.objs.size, []) ⟨h.push (wrapObj x), g, d, t + 1, os⟩) :
    wpAny (model prog w) A (getMethod (.ref so) "__init__" pl) Q E ⟨h, g, d, t, os⟩ := by
  have hlk := F.ks_slot_super_ga.lookup
  have hcan := F.ks_canon_super_ga
  have hT : ∀ t', (⟨h, g, d, t', os⟩ : Shared).TypeIs (.ref so) "super" := fun _ => ⟨_, hso, rfl⟩
  unfold getMethod
  refine wpAny_bind (wpAny_specialOf (hT _) hlk ?_)
  show wpAny _ _ (if (Manifest.canonical "super.__getattribute__" != "object.__getattribute__") = true then _ else _) _ _ _
  rw [if_pos hcan]
  unfold getAttr getAttrBy
  refine wpAny_bind (wpAny_bind (wpAny_mkText (wpAny_holding (wpAny_bind (wpAny_typeOf (hT _) (wpAny_bind (wpAny_of_eq hlk ?_)))))))
  show wpAny _ _ (getAttrByItsOwn (.ref so) (.str "__init__" t) (.type "super") (.builtin "super.__getattribute__") true false) _ _ _
  unfold getAttrByItsOwn hookBefore callGetattribute boundAndCalled
  refine wpAny_bind (wpAny_of_eq (show (if onTheHeap (.type "super") then typeLookup (.type "super") "__getattr__" else pure none) = pure none from rfl) ?_)
  refine wpAny_bind (wpAny_attempt (wpAny_holding ?_))
  show wpAny _ _ (bindSpecial (.builtin "super.__getattribute__") (.ref so) >>= _) _ _ _
  refine wpAny_bind (wpAny_of_eq (F.ks_slot_super_ga.bind _) ?_)
  refine wpAny_mono (Q := fun v s' => v = .ref h.objs.size ∧ s' = ⟨h.push (wrapObj x), g, d, t + 1, os⟩) (E := fun _ _ => False)
    (wpAny_call_entry F.ks_slot_super_ga (hT _) F.ks_entry_super_ga (super_ga_init hC hx hbE hso hno hl0 hl X hf hxC ⟨_, rfl, rfl, rfl⟩) (F.ks_gaArgs_super _ _)) (fun v s' hv => ?_) fun _ _ z => z.elim
  obtain ⟨rfl, rfl⟩ := hv
  exact wpAny_pure (wpAny_pure hq)

noncomputable def StandsW (u x : Addr) (h : Heap) : Prop := h.get? u = some (wrapObj x)
theorem callWith_wrap {M : Model} {s : Shared} {pos : Pos} {u x : Addr} {env : Env} {e : Expr} {Q : Value → Shared → Prop} (hp : plainArg e = true)
    (h : wpAny M A (eval e env) (fun v s₁ => StandsW u x s₁.heap ∧ wpAny M A (call (.ref u) [v]) Q E s₁) E s) :
    wpAny M A (callWith pos (.ref u) [] (backTo pos (starEach [e] env)) []) Q E s := by
  rw [backTo_one hp]
  have h' : wpAny M A (evalArgs (.ref u) true [(false, eval e env)] []) (fun x' s₁ => StandsW u x s₁.heap ∧ wpAny M A (call (.ref u) ([] ++ x'.pos) x'.kw) Q E s₁) E s :=
    Calls.evalArgs_plain (Calls.spliced_cons (wpAny_mono h (fun v s₁ h₁ => Calls.spliced_nil h₁) fun _ _ e => e))
  unfold callWith
  refine wpAny_bind (wpAny_holding (wpAny_mono h' (fun x' s₁ h₁ => wpAny_bind (wpAny_standAt ?_)) fun _ _ x => x))
  obtain ⟨ho, hcall⟩ := h₁
  simp only [List.any_cons, List.any_nil, Bool.or_false]
  refine wpAny_bind (m := keeperOf (.ref u)) ?_
  unfold keeperOf
  refine wpAny_bind (wpAny_load ho ?_)
  simp only [wrapObj, show (Value.type "method-wrapper" != Value.type "method") = true by decide, show (Value.type "method-wrapper" == Value.type "builtin_function_or_method" || Value.type "method-wrapper" == Value.type "method-wrapper") = true by decide, if_true]
  refine wpAny_pure ?_
  exact wpAny_bind (wpAny_mono hcall (fun r s₂ hr => wpAny_bind (wpAny_holding (wpAny_point (wpAny_pure hr)))) fun _ _ x => x)

theorem if_so {α : Type} {M : Model} {s : Shared} {c : Prop} [Decidable c] {a b : Sem α} {Q : α → Shared → Prop} (hc : c) (h : wpAny M A a Q E s) : wpAny M A (if c then a else b) Q E s := by rw [if_pos hc]; exact h

theorem check_wrap {M : Model} {x : Addr} {v : Value} {oe : Obj} {Q : Unit → Shared → Prop} (hC : h.get? C = some (excClassObj nm q C N bs bm hdct sn sub ab col dd k0 k1 k2 k3 k5 newId)) (he : h.get? x = some oe) (hcls : oe.cls = .ref C) (hq : Q () ⟨h, g, d, t, os⟩) :
    wpAny M A (checkBoundCall "Exception.__init__" ⟨[.ref x, v], []⟩) Q E ⟨h, g, d, t, os⟩ := by
  have F := PySem.F.excBase_Exception
  have hshort := F.noStar
  simp only [checkBoundCall, F.initKind, F.initRow]
  refine if_so (by decide) ?_
  repeat (first | (with_reducible refine wpAny_loadPart_at he ?_; rw [hcls]) | with_reducible refine wpAny_loadPart_at hC ?_ | wp_step)
  exact hq

theorem call_wrap_init {u x t₀ : Addr} {v : Value} {Q : Value → Shared → Prop} (hC : h.get? C = some (excClassObj nm q C N bs bm hdct sn sub ab col dd k0 k1 k2 k3 k5 newId)) (hu : StandsW u x h) (hx : h.get? x = some (excObj0 C t₀))
    (hq : ∀ h' t₁, (∀ b o, b ≠ x → h.get? b = some o → h'.get? b = some o) → h'.get? x = some (excObj0 C t₁) → Q .none ⟨h', g, d, t, os⟩) :
    wpAny (model prog w) A (call (.ref u) [v]) Q E ⟨h, g, d, t, os⟩ := by
  refine wpAny_call (codeAny_of_tree ?_)
  show wpAny _ A.in1 (callAny (.ref u) ⟨[v], []⟩) _ _ _
  simp only [callAny]
  refine wpAny_bind (wpAny_load hu ?_)
  simp only [wrapObj, show (Value.type "method-wrapper" == Value.type "method" || Value.type "method-wrapper" == Value.type "builtin_function_or_method" || Value.type "method-wrapper" == Value.type "method-wrapper") = true by decide, if_true]
  refine if_so (by decide) ?_
  refine wpAny_bind (check_wrap hC hx rfl ?_)
  refine wpAny_bind (wpAny_pure (wpAny_pure ?_))
  refine ⟨Code.quiet_builtin _ (by decide +kernel), codeAny_builtin PySem.F.excBase_Exception.initEntry ?_⟩
  unfold Builtin.«BaseException.__init__»
  wp_walk
  have hx' : (h.push { cls := Value.type "tuple", data := Data.seq #[v] }).get? x = some (excObj0 C t₀) := Heap.get?_push_of_some _ hx
  show Q .none _
  refine hq _ h.objs.size (fun b o hb e => ?_) ?_
  · rw [Heap.get?_update_other _ _ (Ne.symm hb)]
    exact Heap.get?_push_of_some _ e
  · rw [Heap.get?_update_self _ hx' rfl]
    rfl
end
end Mine

end

section
set_option genInjectivity false
open PySem PySem.W PyProof.Rows
set_option maxRecDepth 100000
set_option maxHeartbeats 4000000
namespace Mine

noncomputable abbrev excObjD (C t d : Addr) : Obj := { cls := .ref C, dict := some d, data := .fields #[.ref t, .none, .none, .none, .bool false, .none] }

section
variable {prog : Program} {w : World} {A : Around} {E : Value → Shared → Prop} {h : Heap} {g : Array GenState} {d : Drawn} {t : Nat} {os : OsState}
variable {nm q : Str} {C N x : Addr} {bs bm : List Value} {sn : List Str} {sub : List Value} {ab : Bool} {col : Option Bool} {dd : Option Addr} {k0 k1 k2 k3 k5 : Option Value} {B newId sa owner : String}
  {mN mA : Str → Option Value} {name : Str} {v : Value} {t₁ : Addr}

theorem store_first {o : Obj} {tk : Tok} {Q : Fin → Shared → Prop} (SF : StoreFacts B bm sa owner)
    (hC : h.get? C = some (excClassObj nm q C N bs bm true sn sub ab col dd k0 k1 k2 k3 k5 newId)) (hn : h.Ns N mN) (hna : mN name = none)
    (hB : typeLookup (.type B) name = pure none) (hx : h.get? x = some o) (hc : o.cls = .ref C) (hnc : ∀ c, o.data ≠ .cls c) (hdn : o.dict = none)
    (hq : ∀ h' tk', h'.get? x = some { cls := o.cls, dict := some h.objs.size, data := o.data, slots := o.slots } → h'.Ns1 h.objs.size (fun y => if y = name then some v else none) →
      (∀ b o, b ≠ x → h.get? b = some o → h'.get? b = some o) → Q (.done (.ret .none)) ⟨h', g, d, tk', os⟩) :
    wpAny (model prog w) A (Builtin.«object.__setattr__» ⟨[.ref x, .str name tk, v], []⟩) Q E ⟨h, g, d, t, os⟩ := by
  have hpass := SF.passes (.ref x)
  unfold Builtin.«object.__setattr__»
  repeat (first | rw [refuse_eq] | (rw [refuseLoop_ref, hpass]) | (with_reducible refine wpAny_loadPart_at hx ?_; rw [hc]) | with_reducible refine wpAny_mroOf_exc hC ?_ | (with_reducible refine wpAny_typeLookup_exc hC hn SF.mro hB ?_; rw [hna]) | wp_step)
  rw [hdn, if_neg (by simp [typeHasDict])]
  split
  · rename_i hcd
    cases hcd
  split
  · rename_i c hcd
    exact absurd hcd (hnc c)
  · have hx₁ : (h.push { cls := .type "dict", data := .dict #[] }).get? x = some o := Heap.get?_push_of_some _ hx
    have hxs : x ≠ h.objs.size := Nat.ne_of_lt (Heap.lt_size hx)
    refine wpAny_bind (wpAny_alloc' ?_)
    refine wpAny_bind (wpAny_update' hx₁ ?_)
    refine wpAny_pure ?_
    have hgd : ((h.push { cls := .type "dict", data := .dict #[] }).update x fun o => { cls := o.cls, dict := some h.objs.size, data := o.data, slots := o.slots }).get? h.objs.size
        = some { cls := .type "dict", data := .dict #[] } :=
      (Heap.get?_update_ne _ _ _ _ hxs.symm).trans (Heap.get?_push_at rfl rfl)
    have hnd : ((h.push { cls := .type "dict", data := .dict #[] }).update x fun o => { cls := o.cls, dict := some h.objs.size, data := o.data, slots := o.slots }).Ns h.objs.size (fun _ => none) :=
      ⟨_, #[], _, hgd, rfl, fun e he => absurd he (by simp), fun _ => rfl⟩
    show wpAny _ _ (Builtin.ObjectAttr.storeInDict h.objs.size (.str name tk) name v) _ _ _
    unfold Builtin.ObjectAttr.storeInDict Builtin.ObjectAttr.newKeyGuard
    refine wpAny_bind (wpAny_pure (wpAny_bind (wpAny_nsSet1 (Heap.Ns1.of_empty hnd) fun h' hn' hs => ?_)))
    obtain ⟨oD, esD, epD, hoD, hdD, hcD⟩ := hn'.count (Within.cons name v Within.nil)
    refine wpAny_bind (wpAny_lookBehind hoD (by rw [hdD]; exact pastItsLine_dict (Nat.le_trans hcD (by rw [List.length_cons, List.length_nil, sizeLine_eq]; lia))) ?_)
    wp_walk
    refine hq h' _ ?_ hn' (fun b ob hbx hb => ?_)
    · refine (hs.2 x hxs).trans (Heap.get?_update_self _ hx₁ ?_)
      have hfr := (Heap.get?_some_iff.mp hx).2
      obtain ⟨oc, od, odt, osl⟩ := o
      cases odt <;> first | rfl | exact hfr
    · exact (hs.2 b (Nat.ne_of_lt (Heap.lt_size hb))).trans ((Heap.get?_update_ne _ _ _ _ hbx).trans (Heap.get?_push_of_some _ hb))

theorem store_attr_first {o : Obj} {Q : Unit → Shared → Prop} (SF : StoreFacts B bm sa owner)
    (hC : h.get? C = some (excClassObj nm q C N bs bm true sn sub ab col dd k0 k1 k2 k3 k5 newId)) (hn : h.Ns N mN) (hns : mN "__setattr__" = none) (hna : mN name = none)
    (hB : typeLookup (.type B) name = pure none) (hx : h.get? x = some o) (hc : o.cls = .ref C) (hnc : ∀ c, o.data ≠ .cls c) (hdn : o.dict = none)
    (hq : ∀ h' tk', h'.get? x = some { cls := o.cls, dict := some h.objs.size, data := o.data, slots := o.slots } → h'.Ns1 h.objs.size (fun y => if y = name then some v else none) →
      (∀ b o, b ≠ x → h.get? b = some o → h'.get? b = some o) → Q () ⟨h', g, d, tk', os⟩) :
    wpAny (model prog w) A (setAttr (.ref x) name v) Q E ⟨h, g, d, t, os⟩ := by
  have f3 := SF.slot.bind (.ref x)
  unfold setAttr callSpecial? specialOf
  repeat (any_goals (first | assumption | (with_reducible refine wpAny_loadPart_at hx ?_; rw [hc]) | (with_reducible refine wpAny_typeLookup_exc hC hn SF.mro SF.slot.lookup ?_; rw [hns]) | wp_step))
  refine codeAny_call_builtin SF.slot.plain SF.entry (wpAny_check_sa SF hC hx hc (store_first SF hC hn hna hB hx hc hnc hdn fun h' tk' e1 e2 e3 => ?_))
  repeat (any_goals (first | assumption | wp_step))
  exact hq h' tk' e1 e2 e3
end
end Mine

end

section
set_option genInjectivity false
open PySem PySem.W PyProof.Rows
set_option maxRecDepth 100000
set_option maxHeartbeats 4000000
namespace Mine

noncomputable def sCode : Str := Str.ofString "code"
noncomputable def sTold : Str := Str.ofString "told"
noncomputable def excBody (p1 p2 p3 p4 p5 p6 p7 p8 p9 p10 p11 p12 p13 p14 : Pos) : List Stmt :=
  [.Expr (.Call (.Attribute (.Call (.Name (Str.ofString "super") p1) [] [] p2) (Str.ofString "__init__") p3) [.Name sCode p4] [] p5) p6,
   .Assign [.Attribute (.Name sSelf p7) sCode p8] (.Name sCode p9) p10,
   .Assign [.Attribute (.Name sSelf p11) sTold p12] (.Name sTold p13) p14]

noncomputable def excMro : List Value := [.type "Exception", .type "BaseException", .type "object"]

structure ExcK (G : Gx) (fd : FuncData) (qn : Str) (cda cc N : Addr) (ar : Arg) : Prop where
  hf : ∃ oc od osl, G.K.lookup G.excInit = some ⟨oc, od, .func fd, osl⟩
  env : ∀ L, callEnv fd L G.excInit = ksEnv qn fd.scope L G.excInit (.ref cda) cc
  body : ∃ p : Pos × Pos × Pos × Pos × Pos × Pos × Pos × Pos × Pos × Pos × Pos × Pos × Pos × Pos, fd.body = .stmts (excBody p.1 p.2.1 p.2.2.1 p.2.2.2.1 p.2.2.2.2.1 p.2.2.2.2.2.1 p.2.2.2.2.2.2.1 p.2.2.2.2.2.2.2.1 p.2.2.2.2.2.2.2.2.1 p.2.2.2.2.2.2.2.2.2.1 p.2.2.2.2.2.2.2.2.2.2.1 p.2.2.2.2.2.2.2.2.2.2.2.1 p.2.2.2.2.2.2.2.2.2.2.2.2.1 p.2.2.2.2.2.2.2.2.2.2.2.2.2) ∧
    ∃ pl : Env → Sem Bool, ∀ env : Env, eval (.Call (.Attribute (.Call (.Name (Str.ofString "super") p.1) [] [] p.2.1) (Str.ofString "__init__") p.2.2.1) [.Name sCode p.2.2.2.1] [] p.2.2.2.2.1) env = (do
      let ov ← attributeBase (.Call (.Name (Str.ofString "super") p.1) [] [] p.2.1) (Str.ofString "__init__") env (eval (.Call (.Name (Str.ofString "super") p.1) [] [] p.2.1) env)
      standAt p.2.2.1.atName
      let (f, first) ← holding [ov] (getMethod ov (Str.ofString "__init__") (pl env))
      callWith p.2.2.2.2.1 f first (backTo p.2.2.2.2.1 (starEach [.Name sCode p.2.2.2.1] env)) [])
  kind : fd.scope.kind = .function
  co : fd.scope.isCoroutine = false
  gen : fd.scope.isGenerator = false
  cell : ∀ x ∈ fd.scope.names, x.2 ≠ .cell
  bind : ∀ (s : Shared) (a b c : Value), G.K.In s.heap → BindsTo s fd ⟨[a, b, c], []⟩ [(sSelf, a), (sCode, b), (sTold, c)]
  loc : ∀ x ∈ [sSelf, sCode, sTold], fd.scope.names.lookup x = some .local
  sup : fd.scope.names.lookup (Str.ofString "super") = some .globalImplicit
  kls : fd.scope.names.lookup (Str.ofString "__class__") = some .free
  crec : ∀ h, G.K.In h → h.CodeRec fd.code fd.qualname
  first : (fd.params.posonlyargs ++ fd.params.args).head? = some ar
  firstIs : ar.arg = sSelf
  code : ∃ ccl cdd vs ccs file tf, G.K.lookup cda = some ⟨ccl, cdd, .fields vs, ccs⟩ ∧ vs[2]? = some (.str file tf) ∧ ((G.prog.main.file : Str) == file) = true
  cellAt : ∃ cl cld csl, G.K.lookup cc = some ⟨cl, cld, .cell (some (.ref G.exc)), csl⟩
  clsD : ∃ cd, clsIn G.K G.exc = some cd ∧ cd.mro = .ref G.exc :: excMro
  mro : mroIn G.K G.exc (.ref G.exc) = some true
  nosuper : nsIn G.K mainGlobals "super" = some none
  top : (G.prog.main.scope.names.lookup ("super" : Str)).isSome = false
  boot : bootBuiltins "super" = some (.type "super")
  hC : ∃ k : Str × Str × (List Value) × (List Str) × (List Value) × Bool × (Option Bool) × (Option Addr) × (Option Value) × (Option Value) × (Option Value) × (Option Value) × (Option Value), ∀ h, G.K.In h → h.get? G.exc = some (excClassObj k.1 k.2.1 G.exc N (k.2.2.1) excMro true (k.2.2.2.1) (k.2.2.2.2.1) (k.2.2.2.2.2.1) (k.2.2.2.2.2.2.1) (k.2.2.2.2.2.2.2.1) (k.2.2.2.2.2.2.2.2.1) (k.2.2.2.2.2.2.2.2.2.1) (k.2.2.2.2.2.2.2.2.2.2.1) (k.2.2.2.2.2.2.2.2.2.2.2.1) (k.2.2.2.2.2.2.2.2.2.2.2.2) "Exception.__new__")
  ns : ∃ mN, (∀ h, G.K.In h → h.Ns N mN) ∧ mN "__setattr__" = none ∧ mN sCode = none ∧ mN sTold = none ∧ mN "__getattribute__" = none ∧ mN "__getattr__" = none
  initIs : findIn G.K (.ref G.exc) "__init__" = some (some (.ref G.excInit))
  initFn : typeIn G.K (.ref G.excInit) = some (.type "function")
  along : alongIn G.K "__init__" excMro = some (some (.builtin "Exception.__init__"))
  noany : nsIn G.K cStatics "thirdparty.any" = some none
  keep : keepIn G.K (.ref G.exc) = true
  name : G.mg (Str.ofString "BasicError") = some (.ref G.exc)
  noC : typeLookup (.type "Exception") sCode = pure none
  noT : typeLookup (.type "Exception") sTold = pure none

section
variable {G : Gx} {X : Fx} {n : Nat} {ds : List V} {vs : List Value} {ρ : Loc} {σ : Mem}
variable {fd : FuncData} {qn : Str} {cda cc N : Addr} {ar : Arg}

theorem obj_of {o : Obj} {a : Value} {b : Option Addr} {c : Data} {d : Array (Option Value)} (e1 : o.cls = a) (e2 : o.data = c) (e3 : o.slots = d) (e4 : o.dict = b) : o = ⟨a, b, c, d⟩ := by
  cases o; cases e1; cases e2; cases e3; cases e4; rfl
theorem exc_make (F : GF G) (hK : G.K.In G.base) (Z : ExcK G fd qn cda cc N ar) {A : Around} {s : Shared} {E : Value → Shared → Prop} {Q : Value → Shared → Prop} (hdep : A.depth + 15 < recursionLimit) (hb : G.base.StaysIn s.heap) (vc vt : Value)
    (h : ∀ h' tk e d t mA od, Keeps s.heap h' → s.heap.get? e = none → s.heap.get? d = none → h'.get? e = some (excObjD G.exc t d) → h'.get? d = some od → ((∃ es ep, od.data = .dict es ep) ∧ ∀ h'' : Heap, h''.get? d = some od → h''.Ns1 d mA) → mA sCode = some vc →
      Q (.ref e) { s with heap := h', toks := tk }) :
    wpAny (model G.prog G.w) A (call (.ref G.exc) [vc, vt]) Q E s := by
  refine Classical.byContradiction fun ng => ?_
  obtain ⟨hh, g, dr, t, os⟩ := s
  have X₀ : G.K.In hh := hK.keeps hb
  have TT := F.top.keeps hb
  obtain ⟨oc, od, osl, hlf⟩ := Z.hf
  obtain ⟨p, hbody, pl, hpl⟩ := Z.body
  obtain ⟨k, hCl⟩ := Z.hC
  obtain ⟨mN, hNs, n1, n2, n3, n4, n5⟩ := Z.ns
  obtain ⟨ccl, cdd, cvs, ccs, file, tf, hcode, hvs, hfile⟩ := Z.code
  obtain ⟨cl, cld, csl, hcell⟩ := Z.cellAt
  obtain ⟨cd, hcd, hmro⟩ := Z.clsD
  refine ng (call_exc_own PySem.F.excBase_Exception X₀ Z.initIs Z.initFn (hCl hh X₀) (fun A' hA' => ?_) (by show 2 ≤ sizeLine; rw [sizeLine_eq]; lia))
  clear ng
  generalize hh1 : (hh.push { cls := .type "tuple", data := .seq [vc, vt].toArray }).push (excObj0 G.exc hh.objs.size) = h1
  have kp : Keeps hh h1 := fun b o e => by subst hh1; exact Heap.get?_push_of_some _ (Heap.get?_push_of_some _ e)
  have hsz : h1.objs.size = hh.objs.size + 2 := by subst hh1; rw [Heap.size_push, Heap.size_push]
  have he1 : h1.get? (hh.objs.size + 1) = some (excObj0 G.exc hh.objs.size) := by subst hh1; heap_get
  have X₁ : G.K.In h1 := X₀.keeps kp
  refine ks_codeAny_call_defAt (fd := fd) (binds := [(sSelf, .ref (hh.objs.size + 1)), (sCode, vc), (sTold, vt)]) (by lia) (X₁ _ _ hlf) rfl (TT.nolimit.keeps kp) (Z.crec h1 X₁) hbody (Z.bind _ _ _ _ X₁) Z.cell (fun x hx => Z.loc _ (by simp at hx; rcases hx with rfl | rfl | rfl <;> simp)) (fun h₂ hns hk₂ => ?_) Z.co Z.gen Z.kind
  rw [hsz] at hns
  rw [hsz, Z.env]
  have kp2 : Keeps hh h₂ := fun b o e => hk₂ b o (kp b o e)
  have F1 : Fr hh (hh.objs.size + 2) h₂ (fun y => [(sSelf, Value.ref (hh.objs.size + 1)), (sCode, vc), (sTold, vt)].reverse.lookup y) := ⟨hns, kp2, Nat.le_add_right _ 2⟩
  have N1 : PyProof.Rows.News hh (hh.objs.size + 2) h₂ [(hh.objs.size + 1, excObj0 G.exc hh.objs.size)] := by
    intro p hp
    rcases List.mem_cons.mp hp with rfl | hp
    · exact ⟨hk₂ _ _ he1, Nat.ne_of_lt (Nat.lt_succ_self _), Heap.get?_none_of_le (Nat.le_succ _)⟩
    · cases hp
  have I1 : PySem.W.InstAt h₂ (hh.objs.size + 1) (excObj0 G.exc hh.objs.size) G.exc none := ⟨(N1 _ (.head _)).1, rfl, rfl, trivial⟩
  have hopq := fun h (XX : G.K.In h) => looks_opaque (M := model G.prog G.w) (C := G.exc) XX Z.noany
  refine ks_wpAt_execs_cons (ks_wpAt_Expr_any (ks_wpAt_MethodCall (ks_node (D := G.exc) F1 X₀ N1 TT hlf Z.first (by rw [Z.firstIs]; rfl) I1 hcode hvs hfile hcell hcd Z.mro Z.nosuper (by decide) Z.sup Z.kls (by rw [Z.firstIs]; exact Z.loc _ (.head _)) Z.kind Z.top Z.boot fun so h₃ F3 N3 hlt => ?_) (hpl _)) (by show (fd.scope.kind == .module && _) = false; rw [Z.kind]; rfl) rfl)
  have X₃ : G.K.In h₃ := X₀.keeps F3.keep
  have N30 := N3 _ (.head _)
  have N31 := N3 _ (.tail _ (.head _))
  have hxC : hh.objs.size + 1 ≠ G.exc := fun q => by
    have := N31.2.2
    rw [q, hCl hh X₀] at this; cases this
  refine getMethod_super_init (hCl h₃ X₃) N31.1 (by decide) N30.1 (hopq h₃ X₃) (l₀ := cd.mro) (l := excMro) (fun A' Q' E' s' k' q' => wpAny_bind ((looks_clsIn X₃ hcd) A' _ E' s' k' (wpAny_pure q'))) (by rw [hmro]; simp [List.dropWhile]) X₃ Z.along hxC ?_
  have ldn : ∀ {A' : Around} {s' : Shared} {y : Str} {p : Pos} {v : Value} {Q : Value → Shared → Prop} {E : Value → Shared → Prop} {m : Str → Option Value}, s'.heap.Ns (hh.objs.size + 2) m → m y = some v → y ∈ [sSelf, sCode, sTold] → (y == ("__debug__" : Str)) = false → Q v s' → wpAny (model G.prog G.w) A' (eval (.Name y p) (ksEnv qn fd.scope (hh.objs.size + 2) G.excInit (.ref cda) cc)) Q E s' := fun hm hv hy hd hq =>
    wpAny_Name (wpAny_loadName_local (env := ksEnv qn fd.scope (hh.objs.size + 2) G.excInit (.ref cda) cc) Z.kind (Z.loc _ hy) hm hv hq) hd
  refine callWith_wrap rfl (ldn (F3.ns.push _) rfl (by simp) rfl ⟨Heap.get?_push_size _ rfl, ?_⟩)
  have kp3 : Keeps hh (h₃.push (wrapObj (hh.objs.size + 1))) := fun b o e => Heap.get?_push_of_some _ (F3.keep b o e)
  have X₃' : G.K.In (h₃.push (wrapObj (hh.objs.size + 1))) := X₀.keeps kp3
  refine call_wrap_init (hCl _ X₃') (Heap.get?_push_size _ rfl) (Heap.get?_push_of_some _ N31.1) fun h₄ t₁ k4 e4 => ?_
  have kp4 : Keeps hh h₄ := fun b o e => k4 b o (fun q => by rw [q, N31.2.2] at e; cases e) (kp3 b o e)
  have X₄ : G.K.In h₄ := X₀.keeps kp4
  have hLx : hh.objs.size + 2 ≠ hh.objs.size + 1 := Nat.ne_of_gt (Nat.lt_succ_self _)
  have ns4 : h₄.Ns (hh.objs.size + 2) (fun y => [(sSelf, Value.ref (hh.objs.size + 1)), (sCode, vc), (sTold, vt)].reverse.lookup y) := (F3.ns.push _).at' fun o e => k4 _ o hLx e
  refine wpAt_of_wpAny (wpAny_execs_cons (plainObj_wpAny_Assign_Attribute (ldn ns4 rfl (by simp) rfl (ldn ns4 rfl (by simp) rfl ?_)) rfl))
  refine store_attr_first PySem.F.store_Exception (hCl h₄ X₄) (hNs h₄ X₄) n1 n2 Z.noC e4 rfl (fun c q => by cases q) rfl fun h₅ tk5 e5 d5 k5' => ?_
  have hdx : hh.get? h₄.objs.size = none := by
    cases z : hh.get? h₄.objs.size with
    | none => rfl
    | some o => exact absurd (Heap.lt_size (kp4 _ _ z)) (Nat.lt_irrefl _)
  have hLd : hh.objs.size + 2 ≠ h₄.objs.size := fun q => by
    have := ns4.lt
    rw [q] at this; exact Nat.lt_irrefl _ this
  have kp5 : Keeps hh h₅ := fun b o e => k5' b o (fun q => by rw [q, N31.2.2] at e; cases e) (kp4 b o e)
  have X₅ : G.K.In h₅ := X₀.keeps kp5
  have ns5 : h₅.Ns (hh.objs.size + 2) (fun y => [(sSelf, Value.ref (hh.objs.size + 1)), (sCode, vc), (sTold, vt)].reverse.lookup y) := ns4.at' fun o e => k5' _ o hLx e
  have hxd : h₄.objs.size ≠ hh.objs.size + 1 := fun q => by
    have := Heap.lt_size e4
    rw [q] at this; exact Nat.lt_irrefl _ this
  refine wpAny_execs_cons (plainObj_wpAny_Assign_Attribute (ldn ns5 rfl (by simp) rfl (ldn ns5 rfl (by simp) rfl ?_)) rfl)
  refine store_attr (ns := [sCode]) PySem.F.store_Exception (hCl h₅ X₅) (hNs h₅ X₅) n1 n3 Z.noT hxC (mA := fun y => if y = sCode then some vc else none) ⟨_, e5, rfl, (fun c q => by cases q), .inr ⟨_, rfl, hxd, d5⟩⟩ (fun h₆ tk6 I6 k6 e6 => ?_) (Within.cons sCode vc Within.nil) (by show 1 ≤ sizeLine; rw [sizeLine_eq]; lia)
  refine wpAny_execs_nil ⟨rfl, ?_⟩
  refine Classical.byContradiction fun ng => ?_
  obtain ⟨o6, g6, c1, c2, c3, c4⟩ := e6 _ e5
  have c5 := c4 _ rfl
  obtain ⟨o7, g7, _, _, z7⟩ := I6
  rw [g6] at g7; cases g7
  have kp6 : Keeps hh h₆ := fun b o e => k6 b o (fun q => by rw [q, N31.2.2] at e; cases e) (fun o₀ dx q1 q2 q3 => by rw [e5] at q1; cases q1; cases q2; rw [q3, hdx] at e; cases e) (kp5 b o e)
  rcases z7 with ⟨z7, _⟩ | ⟨d7, z7, z8, z9⟩
  · rw [c5] at z7; cases z7
  · rw [c5] at z7; cases z7
    obtain ⟨od, es, ep, a1, a2, a3⟩ := id z9
    refine ng (h h₆ tk6 _ h₄.objs.size t₁ _ od kp6 N31.2.2 hdx (g6.trans (congrArg some (obj_of c1 c2 c3 c5))) a1 ⟨⟨es, ep, a2⟩, fun h'' e'' => z9.at fun o q => by rw [a1] at q; cases q; exact e''⟩ ?_)
    clear ng
    · show (if sCode = sTold then some vt else if sCode = sCode then some vc else none) = some vc
      rw [if_neg (by decide), if_pos rfl]
end
end Mine

end

section
set_option genInjectivity false
open PySem PySem.W PyProof.Rows
set_option maxRecDepth 100000
set_option maxHeartbeats 4000000
namespace Mine

section
variable {M : Model} {A : Around} {E : Value → Shared → Prop} {env : Env}
variable {nm q : Str} {C N : Addr} {bs bm : List Value} {hdct : Bool} {sn : List Str} {sub : List Value} {ab : Bool} {col : Option Bool} {dd : Option Addr} {k0 k1 k2 k3 k5 : Option Value} {newId : String}

theorem raiseStmt_own {s : Shared} {x : Sem Value} {Q : Flow → Shared → Prop} (hbase : bm.contains (.type "BaseException") = true) (hh : A.handled = none)
    (h : wpAny M A x (fun v s₁ => ∃ e t d, v = .ref e ∧ s₁.heap.get? C = some (excClassObj nm q C N bs bm hdct sn sub ab col dd k0 k1 k2 k3 k5 newId) ∧
      s₁.heap.get? e = some (excObjD C t d) ∧ E (.ref e) s₁) E s) :
    wpAny M A (raiseStmt env (some x) none) Q E s := by
  have hcB : (Value.ref C :: bm).contains (.type "BaseException") = true := by rw [List.contains_cons, hbase, Bool.or_true]
  unfold raiseStmt
  refine wpAny_bind (wpAny_mono h (fun v s₁ h₁ => ?_) fun _ _ x => x)
  obtain ⟨e, t, d, rfl, hC, he, hE⟩ := h₁
  obtain ⟨hp, g, d, tk, os⟩ := s₁
  repeat (first | with_reducible refine wpAny_loadPart_at he ?_ | with_reducible refine wpAny_loadPart_at hC ?_ | (with_reducible refine wpAny_isSubtype_exc hC ?_; rw [hcB]) | wp_step)
  exact wpAny_raiseNew_none hh hE
end

section
variable {G : Gx} {X : Fx} {n : Nat} {ds : List V} {vs : List Value} {ρ : Loc} {σ : Mem}
variable {fd : FuncData} {qn : Str} {cda cc N : Addr} {ar : Arg}

theorem tr_raise {e : Expr} {es : List Expr} {p cpos pos : Pos} {o : Out (List V)} (F : GF G) (hK : G.K.In G.base) (Z : ExcK G fd qn cda cc N ar) (hk : X.sc.kind = .function) (hx : X.sc.names.lookup (Str.ofString "BasicError") = some .globalImplicit) (hp : plainArgs (e :: es) = true)
    (h : Tr G X n ds vs (spliced (backTo cpos (starEach (e :: es) X.env))) (RVs G) ρ σ o) :
    Tr G X n ds vs (exec (.Raise (some (.Call (.Name (Str.ofString "BasicError") p) (e :: es) [] cpos)) none pos) X.env) (RF G) ρ σ (bindO o fun bs ρ σ => raiseO bs ρ σ) := by
  obtain ⟨kz, hCl⟩ := Z.hC
  refine ((TrW.bind (ds1 := fun bs => bs ++ ds) (vs1 := fun as => as ++ vs) (K := fun as => fun A Q E s => G.K.In s.heap ∧ wpAny (model G.prog G.w) A (call (.ref G.exc) as) (fun v s₁ => ∃ e t d, v = .ref e ∧ G.K.In s₁.heap ∧ s₁.heap.get? e = some (excObjD G.exc t d) ∧ E (.ref e) s₁) E s) h (fun _ _ _ _ x y => Rps.append y x) fun bs ρ₁ σ₁ as ⟨_, _, hl⟩ => ?_).pre (W' := fun A Q E s => wpAny (model G.prog G.w) A (eval (.Name (Str.ofString "BasicError") p) X.env) (fun f s₁ => f = .ref G.exc ∧ wpAny (model G.prog G.w) A (spliced (backTo cpos (starEach (e :: es) X.env))) (fun as s₂ => G.K.In s₂.heap ∧ wpAny (model G.prog G.w) A (call (.ref G.exc) as) (fun v s₁ => ∃ e t d, v = .ref e ∧ G.K.In s₁.heap ∧ s₁.heap.get? e = some (excObjD G.exc t d) ∧ E (.ref e) s₁) E s₂) E s₁) E s)
    fun A s Y Q E hA hD hR kk => ?_).into fun A Q E s hh h9 => ?_
  · unfold raiseO
    split
    · rename_i c v
      intro A s Y Q E hA hD hR kk
      have hx := (hR.split hl.length).1
      cases hx with
      | @cons _ _ u1 _ r1 hx =>
      cases hx with
      | @cons _ _ u2 _ r2 hx =>
      cases hx
      cases r1
      refine ⟨hK.keeps hD.stays, exc_make F hK Z (by have := hA.depth; lia) hD.stays _ u2 fun h' tk e d t mA od kp g1 g2 g3 g4 g5 g6 => ⟨e, t, d, rfl, hK.keeps fun b o e => kp b o (hD.stays b o e), g3, ?_⟩⟩
      exact (kk h' tk Y (.of_keeps kp) (hD.of_keeps kp)).2 _ rfl e ⟨g1, _, d, mA, od, _, g3, g2, g4, g5, ⟨_, g6⟩, .inl rfl⟩
    · trivial
  · exact Calls.Name_function_global (env := X.env) hk hx (Calls.loadGlobal_global (env := X.env) (F.top.g.keeps hD.stays) Z.name ⟨rfl, kk s.toks⟩) rfl
  · rw [arm_exec_Raise]
    refine wpAny_bind (wpAny_standAt ?_)
    show wpAny _ A (raiseStmt X.env (some (eval (.Call (.Name (Str.ofString "BasicError") p) (e :: es) [] cpos) X.env >>= fun v => standAt pos >>= fun _ => pure v)) none) Q E s
    refine raiseStmt_own (C := G.exc) (bm := excMro) (by decide) hh (wpAny_bind (wpAny_mono (Q := fun v s₁ => ∃ e t d, v = .ref e ∧ G.K.In s₁.heap ∧ s₁.heap.get? e = some (excObjD G.exc t d) ∧ E (.ref e) s₁) (wpAny_Call_NameR (wpAny_mono h9 (fun f s₁ ⟨e1, h8⟩ => ?_) fun _ _ e => e)) (fun v s₃ ⟨e, t, d, z1, z2, z3, z4⟩ => wpAny_bind (wpAny_standAt (wpAny_pure ⟨e, t, d, z1, hCl _ z2, z3, z4⟩))) fun _ _ e => e))
    subst e1
    rw [star_plain hp] at h8 ⊢
    exact callWith_of (by rw [any_plain]; rfl) (keeps_K Z.keep) (Calls.evalArgs_plain h8)
end
end Mine

end

section
set_option genInjectivity false
open PySem PySem.W PyProof.Rows
set_option maxRecDepth 100000
set_option maxHeartbeats 4000000
namespace Mine

namespace FX
theorem ga_exc : Slot "Exception" "__getattribute__" "BaseException.__getattribute__" := .of (owner := "BaseException") (n := "__getattribute__") (by rw [typeLookup_type, builtinLookup_eq_fast]; kernel_rfl) (by decide +kernel) (by decide +kernel) (by decide +kernel)
    (by first | exact .inl (by decide +kernel) | exact .inr (by decide +kernel)) (by rw [isSubtype_type]; kernel_rfl)
theorem nogetattr_exc : typeLookup (.type "Exception") "__getattr__" = pure none := by rw [typeLookup_type, builtinLookup_eq_fast]; kernel_rfl
theorem mro_exc : mroOf (.type "Exception") = pure excMro := by rw [mroOf_type]; kernel_rfl
end FX

section
variable {prog : Program} {w : World} {A : Around} {E : Value → Shared → Prop} {h : Heap} {g : Array GenState} {d : Drawn} {t : Nat} {os : OsState} {a : Addr} {o : Obj} {dx : Addr}
  {nm q : Str} {C N : Addr} {bs : List Value} {sn : List Str} {sub : List Value} {ab : Bool} {col : Option Bool} {dd : Option Addr} {k0 k1 k2 k3 k5 : Option Value} {newId : String} {mN mA : Str → Option Value} {v : Value}

theorem check_ga {M : Model} {nameV : Value} {Q : Unit → Shared → Prop} (hC : h.get? C = some (excClassObj nm q C N bs excMro true sn sub ab col dd k0 k1 k2 k3 k5 newId))
    (hx : h.get? a = some o) (hc : o.cls = .ref C) (hq : Q () ⟨h, g, d, t, os⟩) : wpAny M A (checkBuiltinCall "BaseException.__getattribute__" ⟨[.ref a, nameV], []⟩) Q E ⟨h, g, d, t, os⟩ := by
  have hk : builtinKind "BaseException.__getattribute__" = some .slot := by decide +kernel
  have hsplit : splitId "BaseException.__getattribute__" = some ("BaseException", "__getattribute__") := by decide +kernel
  have hcB : (Value.ref C :: excMro).contains (.type "BaseException") = true := by rw [List.contains_cons, show excMro.contains (.type "BaseException") = true from by decide +kernel, Bool.or_true]
  have ha := PySem.F.args_bexc_ga (.ref a) nameV
  simp only [checkBuiltinCall, hk, hsplit]
  refine wpAny_bind ?_
  · unfold isInstance
    repeat (first | (with_reducible refine wpAny_loadPart_at hx ?_; rw [hc]) | (with_reducible refine wpAny_isSubtype_exc hC ?_; rw [hcB]) | wp_step)
    exact hq

theorem ga_entry {tk : Tok} {Q : Fin → Shared → Prop} (hC : h.get? C = some (excClassObj nm q C N bs excMro true sn sub ab col dd k0 k1 k2 k3 k5 newId)) (hN : h.Ns N mN)
    (hmN : mN sCode = none) (hB : typeLookup (.type "Exception") sCode = pure none) (hx : h.get? a = some o) (hc : o.cls = .ref C) (hnc : ∀ c, o.data ≠ .cls c) (hd : o.dict = some dx) (hns : h.Ns1 dx mA) (hv : mA sCode = some v) (hh : handedOut v = pure v)
    (hq : Q (.done (.ret v)) ⟨h, g, d, t, os⟩) :
    wpAny (model prog w) A (Builtin.«object.__getattribute__» ⟨[.ref a, .str sCode tk], []⟩) Q E ⟨h, g, d, t, os⟩ := by
  have hn := hns.ns
  unfold Builtin.«object.__getattribute__»
  repeat (any_goals (first | assumption | (with_reducible refine wpAny_loadPart_at hx ?_; rw [hc]) | (with_reducible refine wpAny_typeLookup_exc hC hN FX.mro_exc hB ?_; rw [hmN]) | wp_step))
  split
  · rename_i c hcd
    exact absurd hcd (hnc c)
  unfold instanceDict
  repeat (first | (with_reducible refine wpAny_loadPart_at hx ?_; rw [hc]) | with_reducible refine wpAny_loadPart_at hC ?_ | wp_step)
  rw [hd]
  repeat (first | (with_reducible refine wpAny_nsGet hn ?_; rw [hv]) | wp_step)
  all_goals exact hq

theorem ga_call {tk : Tok} {R : Result → Shared → Prop} (hC : h.get? C = some (excClassObj nm q C N bs excMro true sn sub ab col dd k0 k1 k2 k3 k5 newId)) (hN : h.Ns N mN)
    (hmN : mN sCode = none) (hB : typeLookup (.type "Exception") sCode = pure none) (hx : h.get? a = some o) (hc : o.cls = .ref C) (hnc : ∀ c, o.data ≠ .cls c) (hd : o.dict = some dx) (hns : h.Ns1 dx mA) (hv : mA sCode = some v) (hh : handedOut v = pure v)
    (hq : R (.ok (.ret v)) ⟨h, g, d, t, os⟩) :
    codeAny (model prog w) A (.call (.builtin "BaseException.__getattribute__") ⟨[.ref a, .str sCode tk], []⟩) R ⟨h, g, d, t, os⟩ :=
  codeAny_call_builtin FX.ga_exc.plain PySem.F.entry_bexc_ga (check_ga hC hx hc (ga_entry hC hN hmN hB hx hc hnc hd hns hv hh hq))

theorem ga_by {tk : Tok} {fill expr : Bool} {Q : Value → Shared → Prop} (hC : h.get? C = some (excClassObj nm q C N bs excMro true sn sub ab col dd k0 k1 k2 k3 k5 newId)) (hN : h.Ns N mN)
    (hmN : mN sCode = none) (hga : mN "__getattribute__" = none) (hgt : mN "__getattr__" = none) (hB : typeLookup (.type "Exception") sCode = pure none) (hx : h.get? a = some o) (hc : o.cls = .ref C) (hnc : ∀ c, o.data ≠ .cls c) (hd : o.dict = some dx) (hns : h.Ns1 dx mA) (hv : mA sCode = some v) (hh : handedOut v = pure v)
    (hq : Q v ⟨h, g, d, t, os⟩) :
    wpAny (model prog w) A (getAttrBy (.ref a) (.str sCode tk) fill expr) Q E ⟨h, g, d, t, os⟩ := by
  have f3 := FX.ga_exc.bind (.ref a)
  have hx0 : (expr && onTheHeap (Value.builtin "BaseException.__getattribute__")) = false := by cases expr <;> rfl
  have hx2 : (Value.builtin "BaseException.__getattribute__" == Value.builtin "object.__getattribute__") = false := by decide +kernel
  have hx1 : (onTheHeap (Value.ref C) && Value.builtin "BaseException.__getattribute__" == Value.builtin "object.__getattribute__") = false := by rw [hx2]; rfl
  repeat (any_goals (first | assumption | (with_reducible refine wpAny_loadPart_at hx ?_; rw [hc]) | (with_reducible refine wpAny_typeLookup_exc hC hN FX.mro_exc FX.ga_exc.lookup ?_; rw [hga]) | (with_reducible refine wpAny_typeLookup_exc hC hN FX.mro_exc FX.nogetattr_exc ?_; rw [hgt]) | wp_step))
  refine ga_call hC hN hmN hB hx hc hnc hd hns hv hh ?_
  repeat (any_goals (first | assumption | rw [hh] | wp_step))

theorem ga_attr {expr : Bool} {Q : Value → Shared → Prop} (hC : h.get? C = some (excClassObj nm q C N bs excMro true sn sub ab col dd k0 k1 k2 k3 k5 newId)) (hN : h.Ns N mN)
    (hmN : mN sCode = none) (hga : mN "__getattribute__" = none) (hgt : mN "__getattr__" = none) (hB : typeLookup (.type "Exception") sCode = pure none) (hx : h.get? a = some o) (hc : o.cls = .ref C) (hnc : ∀ c, o.data ≠ .cls c) (hd : o.dict = some dx) (hns : h.Ns1 dx mA) (hv : mA sCode = some v) (hh : handedOut v = pure v)
    (hq : Q v ⟨h, g, d, t + 1, os⟩) :
    wpAny (model prog w) A (getAttr (.ref a) sCode expr) Q E ⟨h, g, d, t, os⟩ := by
  unfold getAttr
  repeat (any_goals (first | assumption | with_reducible apply ga_by hC hN hmN hga hgt hB hx hc hnc hd hns hv hh | wp_step))
end
end Mine

end

section
set_option genInjectivity false
open PySem PySem.W PyProof.Rows
set_option maxRecDepth 100000
set_option maxHeartbeats 4000000
namespace Mine

section
variable {G : Gx} {X : Fx} {n : Nat} {ds : List V} {vs : List Value} {ρ : Loc} {σ : Mem}
variable {fd : FuncData} {qn : Str} {cda cc N : Addr} {ar : Arg}

theorem Dyn.anyloc {h h' : Heap} {Y : Lay} {m : Str → Option Value} (d : Dyn G X h Y ρ σ) (hn : h'.Ns X.L m) (hs : Heap.SameBut X.L h h') : Step X.L h Y h' Y ∧ Dyn G X h' Y [] σ := by
  have hL : X.L ∈ Y.fr := by rw [d.fr]; exact List.mem_filterMap.mpr ⟨X.env, .head _, rfl⟩
  obtain ⟨oL, es, ep, hoL, hdL, _⟩ := id hn
  have st : Step X.L h Y h' Y := by
    refine ⟨fun _ _ e => e, rfl, rfl, fun b o e => ?_, fun _ x y => absurd x y, fun b o e hb hf => (hs.2 b fun q => hf (q ▸ hL)).trans e, fun b o e hb hb2 => ⟨o.slots, (hs.2 b hb2).trans e⟩⟩
    by_cases q : b = X.L
    · rw [q]; exact ⟨_, hoL⟩
    · exact ⟨o, (hs.2 b q).trans e⟩
  have mv := st.moves d
  have hnb : ∀ b o, G.base.get? b = some o → b ≠ X.L := fun b o e q => by
    have := (fun_new d.funs X.L (List.mem_filterMap.mpr ⟨X.env, .head _, rfl⟩)).1
    rw [← q, e] at this; cases this
  refine ⟨st, fun b o e => (hs.2 b (hnb b o e)).trans (d.stays b o e), ?_, d.fr, fun b hb => ?_, ⟨d.mem.len, d.mem.nodup, d.mem.new, d.mem.apart, fun j a c hi hc => ?_⟩, (fun b hb => ⟨(d.no b hb).1, by obtain ⟨o, e⟩ := (d.no b hb).2; exact st.live b o e⟩), _, hn, fun j w e => by simp at e⟩
  · have : ∀ l : List Env, h.FunFrames G.base l → h'.FunFrames G.base l := by
      intro l
      induction l with
      | nil => intro _; trivial
      | cons env l ih =>
        intro ⟨hk, ⟨L, o, hf, hn', ho, hd⟩, hr⟩
        refine ⟨hk, ?_, ih hr⟩
        by_cases q : L = X.L
        · exact ⟨L, oL, hf, hn', q ▸ hoL, fun vs z => by rw [hdL] at z; cases z⟩
        · exact ⟨L, o, hf, hn', (hs.2 L q).trans ho, hd⟩
    exact this _ d.funs
  · by_cases q : b = X.L
    · subst q; exact ⟨_, _, _, hoL, hdL⟩
    · obtain ⟨o, es, n, e, r⟩ := d.frs b hb
      exact ⟨o, es, n, (hs.2 b q).trans e, r⟩
  · refine (d.mem.cell j a c hi hc).mono mv fun o e => (hs.2 a fun q => ?_).trans e
    exact d.mem.apart a (List.mem_of_getElem? hi) (q ▸ hL)

theorem tr_tryC {body : List Stmt} {np p1 p2 p3 hp pos : Pos} {wr : Str} {o : Out Fl} (F : GF G) (hK : G.K.In G.base) (Z : ExcK G fd qn cda cc N ar) (hk : X.sc.kind = .function) (hx : X.sc.names.lookup (Str.ofString "BasicError") = some .globalImplicit)
    (hw : X.sc.names.lookup wr = some .local) (hwd : (wr == ("__debug__" : Str)) = false) (he : eval (.Attribute (.Name wr p1) sCode p2) X.env = (do
      let o ← eval (.Name wr p1) X.env
      standAt p2.atName
      let r ← holding [o] (getAttr o sCode true)
      letTemporaryGo (.Name wr p1) o r
      pure r))
    (h : Tr G X n ds vs (execs body X.env) (RF G) ρ σ o) :
    Tr G X n ds vs (exec (.Try body [.ExceptHandler (some (.Name (Str.ofString "BasicError") np)) (some wr) [.Return (some (.Attribute (.Name wr p1) sCode p2)) p3] hp] [] [] pos) X.env) (RF G) ρ σ (tryO o) := by
  obtain ⟨kz, hCl⟩ := Z.hC
  obtain ⟨mN, hNs, n1, n2, n3, n4, n5⟩ := Z.ns
  rcases o with _ | ⟨c | fl, ρ', σ'⟩
  · trivial
  · intro A s Y Q E hA hD hR kk
    obtain ⟨sh, sg, sd, stk, sos⟩ := s
    refine wpAny_Try_except (h A _ Y _ _ hA hD hR fun h1 tk1 Y1 st1 D1 => ⟨(fun b e => nomatch e), fun c' e x hx' => ?_⟩)
    rw [← Except.error.inj e] at hx'
    clear e
    have hYl : ∀ b ∈ Y1.fr, sh.get? b ≠ none := fun b hb => hD.fr_live b (by rw [st1.fr] at hb; exact hb)
    have hYn : ∀ b ∈ Y1.no, sh.get? b ≠ none := fun b hb => hD.no_live b (by rw [st1.no] at hb; exact hb)
    refine hx'.note (s := ⟨h1, sg, sd, tk1, sos⟩) hA.frames D1 hYl st1.live fun h2 sl2 x2 => ?_
    refine x2.flight (fr := Y1.fr) (s := ⟨h2, sg, sd, tk1, sos⟩) hYl fun h3 sl3 x3 => ?_
    have sl13 := sl2.trans sl3
    have st3 := sl13.step st1
    have D3 := sl13.dyn hD.stays hYn D1
    refine Classical.byContradiction fun ng => ?_
    obtain ⟨y0, vs3, d3, mA3, od3, sl3', b1, b2, b3, ⟨_, b4⟩, ⟨tk3, b5⟩, _⟩ := id x3
    have hp : (X.env.scope.kind == .class || (X.env.scope.kind == .module && X.env.locals != X.env.globals)) = false := by
      show (X.sc.kind == .class || (X.sc.kind == .module && X.L != mainGlobals)) = false
      rw [hk]; rfl
    have hLl : sh.get? X.L ≠ none := hD.fr_live X.L (by rw [hD.fr]; exact List.mem_filterMap.mpr ⟨X.env, .head _, rfl⟩)
    have heL : x ≠ X.L := fun z => hLl (z ▸ y0)
    have X3 := hK.keeps D3.stays
    refine ng ?_
    clear ng
    refine wpAny_handleBy_cons (codeAny_handlers_test (Calls.Name_function_global (env := X.env) hk hx (Calls.loadGlobal_global (env := X.env) (F.top.g.keeps D3.stays) Z.name ?_) rfl)) (by intro z; cases z)
    refine wpAny_excMatches_sub_self (hCl h3 X3) b1 rfl (by decide) ?_
    rw [if_pos rfl]
    refine codeAny_handlers_suite_as (x3.flight (fr := Y1.fr) (s := ⟨h3, sg, sd, tk1, sos⟩) (f := none) hYl fun h4 sl4 x4 => ?_)
    have st4 := sl4.step st3
    have D4 := sl4.dyn hD.stays hYn D3
    refine Classical.byContradiction fun ng => ?_
    obtain ⟨y0', vs4, d4, mA4, od4, sl4', c1, c2, c3, ⟨_, c4⟩, ⟨tk4, c5⟩, _⟩ := id x4
    obtain ⟨m4, hm4, _⟩ := D4.loc
    refine ng ?_
    clear ng
    refine wpAny_storeName_local (env := X.env) hw hm4 (fun h5 hn5 hs5 => ?_) hp
    obtain ⟨st5, D5⟩ := D4.anyloc hn5 hs5
    have hdL : d4 ≠ X.L := fun z => hLl (z ▸ c2)
    have X5 := hK.keeps D5.stays
    refine wpAny_execs_cons (wpAny_Return_some (Attribute_any_ (wpAny_Name (wpAny_loadName_local (env := X.env) hk hw hn5 (by simp; rfl) ?_) hwd) he))
    refine ga_attr (hCl h5 X5) (hNs h5 X5) n2 n4 n5 Z.noC ((hs5.2 _ heL).trans c1) rfl (fun c z => by cases z) rfl (c4 h5 ((hs5.2 _ hdL).trans c3)) c5 rfl ?_
    refine wpAny_nameGoes (env := X.env) hw hn5 hp fun h6 m6 hn6 hs6 => ?_
    obtain ⟨st6, D6⟩ := D5.anyloc hn6 hs6
    exact (kk h6 _ Y1 ((st4.trans st5).trans st6) D6).1 _ rfl _ (.str _ _)
  · intro A s Y Q E hA hD hR kk
    refine wpAny_Try_except (h A s Y _ _ hA hD hR fun h1 tk1 Y1 st1 D1 => ⟨fun b e a ha => ?_, fun c' e => nomatch e⟩)
    cases e
    have z := (kk h1 tk1 Y1 st1 D1).1 _ rfl a ha
    cases a with
    | next => exact wpAny_execs_nil z
    | _ => exact z
end
end Mine

end

section
set_option genInjectivity false
open PySem PySem.W PyProof.Rows
set_option maxRecDepth 100000
namespace Mine

noncomputable def notDbg (x : Str) : Bool := !(x == ("__debug__" : Str))
noncomputable def isGl (sc : Scope) (x : Str) : Bool := match sc.names.lookup x with
  | some .globalImplicit => true
  | _ => false
theorem isGl_of {sc : Scope} {x : Str} (h : isGl sc x = true) : sc.names.lookup x = some .globalImplicit := by
  unfold isGl at h
  split at h
  · assumption
  · cases h
noncomputable def plainTest : Expr → Bool
  | .UnaryOp .Not _ _ => false
  | .BoolOp .. => false
  | .IfExp .. => false
  | .Compare .. => false
  | _ => true

noncomputable def chkL (k : ME → Expr → Bool) : List ME → List Expr → Bool
  | [], [] => true
  | m :: l, e :: es => plainArg e && k m e && chkL k l es
  | _, _ => false
noncomputable def chkTs (k : ME → Expr → Bool) : List ME → List Expr → Bool
  | [], [] => true
  | m :: l, e :: es => k m e && chkTs k l es
  | _, _ => false
noncomputable def chkO (k : ME → Expr → Bool) : Option ME → Option Expr → Bool
  | none, none => true
  | some m, some e => k m e
  | _, _ => false

noncomputable def compOk (sc : Scope) (sg : Str) : Bool :=
  sc.names.all (fun y => !(y.2 == .free) && !(y.2 == .cell) && (!(y.2 == .local) || isLocal sc y.1)) && decide (sc.kind = .function) && isLocal sc sg && notDbg sg

structure Cx where
  T : Tab
  sc : Scope
  ns : List Str

noncomputable def uCst (e : Expr) : Option {z : Const × Nat × Pos // e = .Constant z.1 z.2.1 z.2.2} := match e with | .Constant k n q => some ⟨(k, n, q), rfl⟩ | _ => none
noncomputable def wCst (e : Expr) (k : Const → Bool) : Bool := wS (uCst e) fun z => k z.1.1
theorem wCst_of {e : Expr} {k : Const → Bool} (h : wCst e k = true) : ∃ z : {z : Const × Nat × Pos // e = .Constant z.1 z.2.1 z.2.2}, k z.1.1 = true := by obtain ⟨z, _, h⟩ := wS_of h; exact ⟨z, h⟩
noncomputable def uNeg (e : Expr) : Option {z : Expr × Pos // e = .UnaryOp .USub z.1 z.2} := match e with | .UnaryOp .USub e q => some ⟨(e, q), rfl⟩ | _ => none
noncomputable def wNeg (e : Expr) (k : Expr → Bool) : Bool := wS (uNeg e) fun z => k z.1.1
theorem wNeg_of {e : Expr} {k : Expr → Bool} (h : wNeg e k = true) : ∃ z : {z : Expr × Pos // e = .UnaryOp .USub z.1 z.2}, k z.1.1 = true := by obtain ⟨z, _, h⟩ := wS_of h; exact ⟨z, h⟩
noncomputable def uNot (e : Expr) : Option {z : Expr × Pos // e = .UnaryOp .Not z.1 z.2} := match e with | .UnaryOp .Not e q => some ⟨(e, q), rfl⟩ | _ => none
noncomputable def wNot (e : Expr) (k : Expr → Bool) : Bool := wS (uNot e) fun z => k z.1.1
theorem wNot_of {e : Expr} {k : Expr → Bool} (h : wNot e k = true) : ∃ z : {z : Expr × Pos // e = .UnaryOp .Not z.1 z.2}, k z.1.1 = true := by obtain ⟨z, _, h⟩ := wS_of h; exact ⟨z, h⟩
noncomputable def uBin (e : Expr) : Option {z : Expr × Operator × Expr × Pos // e = .BinOp z.1 z.2.1 z.2.2.1 z.2.2.2} := match e with | .BinOp e1 o e2 q => some ⟨(e1, o, e2, q), rfl⟩ | _ => none
noncomputable def wBin (e : Expr) (k : Expr → Operator → Expr → Bool) : Bool := wS (uBin e) fun z => k z.1.1 z.1.2.1 z.1.2.2.1
theorem wBin_of {e : Expr} {k : Expr → Operator → Expr → Bool} (h : wBin e k = true) : ∃ z : {z : Expr × Operator × Expr × Pos // e = .BinOp z.1 z.2.1 z.2.2.1 z.2.2.2}, k z.1.1 z.1.2.1 z.1.2.2.1 = true := by obtain ⟨z, _, h⟩ := wS_of h; exact ⟨z, h⟩
noncomputable def uCmp1 (e : Expr) : Option {z : Expr × CmpOp × Expr × Pos // e = .Compare z.1 [z.2.1] [z.2.2.1] z.2.2.2} := match e with | .Compare e1 [r] [e2] q => some ⟨(e1, r, e2, q), rfl⟩ | _ => none
noncomputable def wCmp1 (e : Expr) (k : Expr → CmpOp → Expr → Bool) : Bool := wS (uCmp1 e) fun z => k z.1.1 z.1.2.1 z.1.2.2.1
theorem wCmp1_of {e : Expr} {k : Expr → CmpOp → Expr → Bool} (h : wCmp1 e k = true) : ∃ z : {z : Expr × CmpOp × Expr × Pos // e = .Compare z.1 [z.2.1] [z.2.2.1] z.2.2.2}, k z.1.1 z.1.2.1 z.1.2.2.1 = true := by obtain ⟨z, _, h⟩ := wS_of h; exact ⟨z, h⟩
noncomputable def uCmp2 (e : Expr) : Option {z : Expr × CmpOp × CmpOp × Expr × Expr × Pos // e = .Compare z.1 [z.2.1, z.2.2.1] [z.2.2.2.1, z.2.2.2.2.1] z.2.2.2.2.2} := match e with | .Compare e1 [r1, r2] [e2, e3] q => some ⟨(e1, r1, r2, e2, e3, q), rfl⟩ | _ => none
noncomputable def wCmp2 (e : Expr) (k : Expr → CmpOp → CmpOp → Expr → Expr → Bool) : Bool := wS (uCmp2 e) fun z => k z.1.1 z.1.2.1 z.1.2.2.1 z.1.2.2.2.1 z.1.2.2.2.2.1
theorem wCmp2_of {e : Expr} {k : Expr → CmpOp → CmpOp → Expr → Expr → Bool} (h : wCmp2 e k = true) : ∃ z : {z : Expr × CmpOp × CmpOp × Expr × Expr × Pos // e = .Compare z.1 [z.2.1, z.2.2.1] [z.2.2.2.1, z.2.2.2.2.1] z.2.2.2.2.2}, k z.1.1 z.1.2.1 z.1.2.2.1 z.1.2.2.2.1 z.1.2.2.2.2.1 = true := by obtain ⟨z, _, h⟩ := wS_of h; exact ⟨z, h⟩
noncomputable def uAnd (e : Expr) : Option {z : (List Expr) × Pos // e = .BoolOp .And z.1 z.2} := match e with | .BoolOp .And l q => some ⟨(l, q), rfl⟩ | _ => none
noncomputable def wAnd (e : Expr) (k : List Expr → Bool) : Bool := wS (uAnd e) fun z => k z.1.1
theorem wAnd_of {e : Expr} {k : List Expr → Bool} (h : wAnd e k = true) : ∃ z : {z : (List Expr) × Pos // e = .BoolOp .And z.1 z.2}, k z.1.1 = true := by obtain ⟨z, _, h⟩ := wS_of h; exact ⟨z, h⟩
noncomputable def uOr (e : Expr) : Option {z : (List Expr) × Pos // e = .BoolOp .Or z.1 z.2} := match e with | .BoolOp .Or l q => some ⟨(l, q), rfl⟩ | _ => none
noncomputable def wOr (e : Expr) (k : List Expr → Bool) : Bool := wS (uOr e) fun z => k z.1.1
theorem wOr_of {e : Expr} {k : List Expr → Bool} (h : wOr e k = true) : ∃ z : {z : (List Expr) × Pos // e = .BoolOp .Or z.1 z.2}, k z.1.1 = true := by obtain ⟨z, _, h⟩ := wS_of h; exact ⟨z, h⟩
noncomputable def uIf (e : Expr) : Option {z : Expr × Expr × Expr × Pos // e = .IfExp z.1 z.2.1 z.2.2.1 z.2.2.2} := match e with | .IfExp e1 e2 e3 q => some ⟨(e1, e2, e3, q), rfl⟩ | _ => none
noncomputable def wIf (e : Expr) (k : Expr → Expr → Expr → Bool) : Bool := wS (uIf e) fun z => k z.1.1 z.1.2.1 z.1.2.2.1
theorem wIf_of {e : Expr} {k : Expr → Expr → Expr → Bool} (h : wIf e k = true) : ∃ z : {z : Expr × Expr × Expr × Pos // e = .IfExp z.1 z.2.1 z.2.2.1 z.2.2.2}, k z.1.1 z.1.2.1 z.1.2.2.1 = true := by obtain ⟨z, _, h⟩ := wS_of h; exact ⟨z, h⟩
noncomputable def uTup (e : Expr) : Option {z : (List Expr) × Nat × Pos // e = .Tuple z.1 z.2.1 z.2.2} := match e with | .Tuple l n q => some ⟨(l, n, q), rfl⟩ | _ => none
noncomputable def wTup (e : Expr) (k : List Expr → Bool) : Bool := wS (uTup e) fun z => k z.1.1
theorem wTup_of {e : Expr} {k : List Expr → Bool} (h : wTup e k = true) : ∃ z : {z : (List Expr) × Nat × Pos // e = .Tuple z.1 z.2.1 z.2.2}, k z.1.1 = true := by obtain ⟨z, _, h⟩ := wS_of h; exact ⟨z, h⟩
noncomputable def uLst (e : Expr) : Option {z : (List Expr) × Pos // e = .List z.1 z.2} := match e with | .List l q => some ⟨(l, q), rfl⟩ | _ => none
noncomputable def wLst (e : Expr) (k : List Expr → Bool) : Bool := wS (uLst e) fun z => k z.1.1
theorem wLst_of {e : Expr} {k : List Expr → Bool} (h : wLst e k = true) : ∃ z : {z : (List Expr) × Pos // e = .List z.1 z.2}, k z.1.1 = true := by obtain ⟨z, _, h⟩ := wS_of h; exact ⟨z, h⟩
noncomputable def uSub (e : Expr) : Option {z : Expr × Expr × Pos // e = .Subscript z.1 z.2.1 z.2.2} := match e with | .Subscript e1 e2 q => some ⟨(e1, e2, q), rfl⟩ | _ => none
noncomputable def wSub (e : Expr) (k : Expr → Expr → Bool) : Bool := wS (uSub e) fun z => k z.1.1 z.1.2.1
theorem wSub_of {e : Expr} {k : Expr → Expr → Bool} (h : wSub e k = true) : ∃ z : {z : Expr × Expr × Pos // e = .Subscript z.1 z.2.1 z.2.2}, k z.1.1 z.1.2.1 = true := by obtain ⟨z, _, h⟩ := wS_of h; exact ⟨z, h⟩
noncomputable def uSlc (e : Expr) : Option {z : Expr × (Option Expr) × (Option Expr) × Pos × Pos // e = .Subscript z.1 (.Slice z.2.1 z.2.2.1 none z.2.2.2.1) z.2.2.2.2} := match e with | .Subscript e1 (.Slice m1 m2 none q1) q2 => some ⟨(e1, m1, m2, q1, q2), rfl⟩ | _ => none
noncomputable def wSlc (e : Expr) (k : Expr → Option Expr → Option Expr → Bool) : Bool := wS (uSlc e) fun z => k z.1.1 z.1.2.1 z.1.2.2.1
theorem wSlc_of {e : Expr} {k : Expr → Option Expr → Option Expr → Bool} (h : wSlc e k = true) : ∃ z : {z : Expr × (Option Expr) × (Option Expr) × Pos × Pos // e = .Subscript z.1 (.Slice z.2.1 z.2.2.1 none z.2.2.2.1) z.2.2.2.2}, k z.1.1 z.1.2.1 z.1.2.2.1 = true := by obtain ⟨z, _, h⟩ := wS_of h; exact ⟨z, h⟩
noncomputable def uCall (e : Expr) : Option {z : Str × (List Expr) × Pos × Pos // e = .Call (.Name z.1 z.2.2.1) z.2.1 [] z.2.2.2} := match e with | .Call (.Name x q1) l [] q2 => some ⟨(x, l, q1, q2), rfl⟩ | _ => none
noncomputable def wCall (e : Expr) (k : Str → List Expr → Bool) : Bool := wS (uCall e) fun z => k z.1.1 z.1.2.1
theorem wCall_of {e : Expr} {k : Str → List Expr → Bool} (h : wCall e k = true) : ∃ z : {z : Str × (List Expr) × Pos × Pos // e = .Call (.Name z.1 z.2.2.1) z.2.1 [] z.2.2.2}, k z.1.1 z.1.2.1 = true := by obtain ⟨z, _, h⟩ := wS_of h; exact ⟨z, h⟩
noncomputable def uCallN (e : Expr) : Option {z : Str × Expr × (List Expr) × Pos × Pos // e = .Call (.Name z.1 z.2.2.2.1) (z.2.1 :: z.2.2.1) [] z.2.2.2.2} := match e with | .Call (.Name x q1) (e1 :: l) [] q2 => some ⟨(x, e1, l, q1, q2), rfl⟩ | _ => none
noncomputable def wCallN (e : Expr) (k : Str → Expr → List Expr → Bool) : Bool := wS (uCallN e) fun z => k z.1.1 z.1.2.1 z.1.2.2.1
theorem wCallN_of {e : Expr} {k : Str → Expr → List Expr → Bool} (h : wCallN e k = true) : ∃ z : {z : Str × Expr × (List Expr) × Pos × Pos // e = .Call (.Name z.1 z.2.2.2.1) (z.2.1 :: z.2.2.1) [] z.2.2.2.2}, k z.1.1 z.1.2.1 z.1.2.2.1 = true := by obtain ⟨z, _, h⟩ := wS_of h; exact ⟨z, h⟩
noncomputable def uMet1 (e : Expr) : Option {z : Expr × Str × Pos × Expr × Pos // e = .Call (.Attribute z.1 z.2.1 z.2.2.1) [z.2.2.2.1] [] z.2.2.2.2} := match e with | .Call (.Attribute e1 x q1) [e2] [] q2 => some ⟨(e1, x, q1, e2, q2), rfl⟩ | _ => none
noncomputable def wMet1 (e : Expr) (k : Expr → Str → Pos → Expr → Pos → Bool) : Bool := wS (uMet1 e) fun z => k z.1.1 z.1.2.1 z.1.2.2.1 z.1.2.2.2.1 z.1.2.2.2.2
theorem wMet1_of {e : Expr} {k : Expr → Str → Pos → Expr → Pos → Bool} (h : wMet1 e k = true) : ∃ z : {z : Expr × Str × Pos × Expr × Pos // e = .Call (.Attribute z.1 z.2.1 z.2.2.1) [z.2.2.2.1] [] z.2.2.2.2}, k z.1.1 z.1.2.1 z.1.2.2.1 z.1.2.2.2.1 z.1.2.2.2.2 = true := by obtain ⟨z, _, h⟩ := wS_of h; exact ⟨z, h⟩
noncomputable def uMet0 (e : Expr) : Option {z : Expr × Str × Pos × Pos // e = .Call (.Attribute z.1 z.2.1 z.2.2.1) [] [] z.2.2.2} := match e with | .Call (.Attribute e1 x q1) [] [] q2 => some ⟨(e1, x, q1, q2), rfl⟩ | _ => none
noncomputable def wMet0 (e : Expr) (k : Expr → Str → Pos → Pos → Bool) : Bool := wS (uMet0 e) fun z => k z.1.1 z.1.2.1 z.1.2.2.1 z.1.2.2.2
theorem wMet0_of {e : Expr} {k : Expr → Str → Pos → Pos → Bool} (h : wMet0 e k = true) : ∃ z : {z : Expr × Str × Pos × Pos // e = .Call (.Attribute z.1 z.2.1 z.2.2.1) [] [] z.2.2.2}, k z.1.1 z.1.2.1 z.1.2.2.1 z.1.2.2.2 = true := by obtain ⟨z, _, h⟩ := wS_of h; exact ⟨z, h⟩
noncomputable def uMetS (e : Expr) : Option {z : Expr × Str × Pos × Expr × (List Expr) × Pos // e = .Call (.Attribute z.1 z.2.1 z.2.2.1) (z.2.2.2.1 :: z.2.2.2.2.1) [] z.2.2.2.2.2} := match e with | .Call (.Attribute e1 x q1) (e2 :: l) [] q2 => some ⟨(e1, x, q1, e2, l, q2), rfl⟩ | _ => none
noncomputable def wMetS (e : Expr) (k : Expr → Str → Pos → Expr → List Expr → Pos → Bool) : Bool := wS (uMetS e) fun z => k z.1.1 z.1.2.1 z.1.2.2.1 z.1.2.2.2.1 z.1.2.2.2.2.1 z.1.2.2.2.2.2
theorem wMetS_of {e : Expr} {k : Expr → Str → Pos → Expr → List Expr → Pos → Bool} (h : wMetS e k = true) : ∃ z : {z : Expr × Str × Pos × Expr × (List Expr) × Pos // e = .Call (.Attribute z.1 z.2.1 z.2.2.1) (z.2.2.2.1 :: z.2.2.2.2.1) [] z.2.2.2.2.2}, k z.1.1 z.1.2.1 z.1.2.2.1 z.1.2.2.2.1 z.1.2.2.2.2.1 z.1.2.2.2.2.2 = true := by obtain ⟨z, _, h⟩ := wS_of h; exact ⟨z, h⟩
noncomputable def uAttr (e : Expr) : Option {z : Expr × Str × Pos // e = .Attribute z.1 z.2.1 z.2.2} := match e with | .Attribute e1 x q => some ⟨(e1, x, q), rfl⟩ | _ => none
noncomputable def wAttr (e : Expr) (k : Expr → Str → Bool) : Bool := wS (uAttr e) fun z => k z.1.1 z.1.2.1
theorem wAttr_of {e : Expr} {k : Expr → Str → Bool} (h : wAttr e k = true) : ∃ z : {z : Expr × Str × Pos // e = .Attribute z.1 z.2.1 z.2.2}, k z.1.1 z.1.2.1 = true := by obtain ⟨z, _, h⟩ := wS_of h; exact ⟨z, h⟩
noncomputable def uJug (e : Expr) : Option {z : Str × Str × Int × Int × Str × Nat × Pos × Nat × Pos × Pos × Nat × Pos × Pos × Pos × Nat × Pos × Pos // e = .Dict [some (.Constant (.str z.1) z.2.2.2.2.2.1 z.2.2.2.2.2.2.1), some (.Constant (.str z.2.1) z.2.2.2.2.2.2.2.1 z.2.2.2.2.2.2.2.2.1)] [.Subscript (.Name z.2.2.2.2.1 z.2.2.2.2.2.2.2.2.2.1) (.Slice none (some (.Constant (.int z.2.2.2.1) z.2.2.2.2.2.2.2.2.2.2.1 z.2.2.2.2.2.2.2.2.2.2.2.1)) none z.2.2.2.2.2.2.2.2.2.2.2.2.1) z.2.2.2.2.2.2.2.2.2.2.2.2.2.1, .Constant (.int z.2.2.1) z.2.2.2.2.2.2.2.2.2.2.2.2.2.2.1 z.2.2.2.2.2.2.2.2.2.2.2.2.2.2.2.1] z.2.2.2.2.2.2.2.2.2.2.2.2.2.2.2.2} := match e with | .Dict [some (.Constant (.str a) n1 q1), some (.Constant (.str b) n2 q2)] [.Subscript (.Name x q3) (.Slice none (some (.Constant (.int i) n3 q4)) none q5) q6, .Constant (.int j) n4 q7] q8 => some ⟨(a, b, j, i, x, n1, q1, n2, q2, q3, n3, q4, q5, q6, n4, q7, q8), rfl⟩ | _ => none
noncomputable def wJug (e : Expr) (k : Str → Str → Int → Int → Str → Bool) : Bool := wS (uJug e) fun z => k z.1.1 z.1.2.1 z.1.2.2.1 z.1.2.2.2.1 z.1.2.2.2.2.1
theorem wJug_of {e : Expr} {k : Str → Str → Int → Int → Str → Bool} (h : wJug e k = true) : ∃ z : {z : Str × Str × Int × Int × Str × Nat × Pos × Nat × Pos × Pos × Nat × Pos × Pos × Pos × Nat × Pos × Pos // e = .Dict [some (.Constant (.str z.1) z.2.2.2.2.2.1 z.2.2.2.2.2.2.1), some (.Constant (.str z.2.1) z.2.2.2.2.2.2.2.1 z.2.2.2.2.2.2.2.2.1)] [.Subscript (.Name z.2.2.2.2.1 z.2.2.2.2.2.2.2.2.2.1) (.Slice none (some (.Constant (.int z.2.2.2.1) z.2.2.2.2.2.2.2.2.2.2.1 z.2.2.2.2.2.2.2.2.2.2.2.1)) none z.2.2.2.2.2.2.2.2.2.2.2.2.1) z.2.2.2.2.2.2.2.2.2.2.2.2.2.1, .Constant (.int z.2.2.1) z.2.2.2.2.2.2.2.2.2.2.2.2.2.2.1 z.2.2.2.2.2.2.2.2.2.2.2.2.2.2.2.1] z.2.2.2.2.2.2.2.2.2.2.2.2.2.2.2.2}, k z.1.1 z.1.2.1 z.1.2.2.1 z.1.2.2.2.1 z.1.2.2.2.2.1 = true := by obtain ⟨z, _, h⟩ := wS_of h; exact ⟨z, h⟩
noncomputable def uCapj (e : Expr) : Option {z : Str × Str × Pos × Pos × Expr × Scope × Str × Int × Str × Pos × Nat × Pos × Pos × Pos // e = .Call (.Attribute (.Constant (.str z.1) z.2.2.2.2.2.2.2.2.2.2.1 z.2.2.2.2.2.2.2.2.2.2.2.1) z.2.1 z.2.2.1) [.ListComp z.2.2.2.2.1 [⟨.Name z.2.2.2.2.2.2.1 z.2.2.2.2.2.2.2.2.2.2.2.2.1, .Name z.2.2.2.2.2.2.2.2.1 z.2.2.2.2.2.2.2.2.2.1, [], z.2.2.2.2.2.2.2.1⟩] z.2.2.2.2.2.1 z.2.2.2.2.2.2.2.2.2.2.2.2.2] [] z.2.2.2.1} := match e with | .Call (.Attribute (.Constant (.str a) n1 q1) x q2) [.ListComp e1 [⟨.Name b q3, .Name d q4, [], i⟩] s q5] [] q6 => some ⟨(a, x, q2, q6, e1, s, b, i, d, q4, n1, q1, q3, q5), rfl⟩ | _ => none
noncomputable def wCapj (e : Expr) (k : Str → Str → Pos → Pos → Expr → Scope → Str → Int → Str → Pos → Bool) : Bool := wS (uCapj e) fun z => k z.1.1 z.1.2.1 z.1.2.2.1 z.1.2.2.2.1 z.1.2.2.2.2.1 z.1.2.2.2.2.2.1 z.1.2.2.2.2.2.2.1 z.1.2.2.2.2.2.2.2.1 z.1.2.2.2.2.2.2.2.2.1 z.1.2.2.2.2.2.2.2.2.2.1
theorem wCapj_of {e : Expr} {k : Str → Str → Pos → Pos → Expr → Scope → Str → Int → Str → Pos → Bool} (h : wCapj e k = true) : ∃ z : {z : Str × Str × Pos × Pos × Expr × Scope × Str × Int × Str × Pos × Nat × Pos × Pos × Pos // e = .Call (.Attribute (.Constant (.str z.1) z.2.2.2.2.2.2.2.2.2.2.1 z.2.2.2.2.2.2.2.2.2.2.2.1) z.2.1 z.2.2.1) [.ListComp z.2.2.2.2.1 [⟨.Name z.2.2.2.2.2.2.1 z.2.2.2.2.2.2.2.2.2.2.2.2.1, .Name z.2.2.2.2.2.2.2.2.1 z.2.2.2.2.2.2.2.2.2.1, [], z.2.2.2.2.2.2.2.1⟩] z.2.2.2.2.2.1 z.2.2.2.2.2.2.2.2.2.2.2.2.2] [] z.2.2.2.1}, k z.1.1 z.1.2.1 z.1.2.2.1 z.1.2.2.2.1 z.1.2.2.2.2.1 z.1.2.2.2.2.2.1 z.1.2.2.2.2.2.2.1 z.1.2.2.2.2.2.2.2.1 z.1.2.2.2.2.2.2.2.2.1 z.1.2.2.2.2.2.2.2.2.2.1 = true := by obtain ⟨z, _, h⟩ := wS_of h; exact ⟨z, h⟩
noncomputable def uChrs (e : Expr) : Option {z : Str × Str × Str × Str × Int × Scope × Expr × Expr × Pos × Pos × Pos × Pos × Pos × Pos × Pos // e = .ListComp (.Call (.Name z.1 z.2.2.2.2.2.2.2.2.1) [.Name z.2.1 z.2.2.2.2.2.2.2.2.2.1] [] z.2.2.2.2.2.2.2.2.2.2.1) [⟨.Name z.2.2.1 z.2.2.2.2.2.2.2.2.2.2.2.1, .Call (.Name z.2.2.2.1 z.2.2.2.2.2.2.2.2.2.2.2.2.1) [z.2.2.2.2.2.2.1, z.2.2.2.2.2.2.2.1] [] z.2.2.2.2.2.2.2.2.2.2.2.2.2.1, [], z.2.2.2.2.1⟩] z.2.2.2.2.2.1 z.2.2.2.2.2.2.2.2.2.2.2.2.2.2} := match e with | .ListComp (.Call (.Name a q1) [.Name b q2] [] q3) [⟨.Name c q4, .Call (.Name d q5) [e1, e2] [] q6, [], i⟩] s q7 => some ⟨(a, b, c, d, i, s, e1, e2, q1, q2, q3, q4, q5, q6, q7), rfl⟩ | _ => none
noncomputable def wChrs (e : Expr) (k : Str → Str → Str → Str → Int → Scope → Expr → Expr → Bool) : Bool := wS (uChrs e) fun z => k z.1.1 z.1.2.1 z.1.2.2.1 z.1.2.2.2.1 z.1.2.2.2.2.1 z.1.2.2.2.2.2.1 z.1.2.2.2.2.2.2.1 z.1.2.2.2.2.2.2.2.1
theorem wChrs_of {e : Expr} {k : Str → Str → Str → Str → Int → Scope → Expr → Expr → Bool} (h : wChrs e k = true) : ∃ z : {z : Str × Str × Str × Str × Int × Scope × Expr × Expr × Pos × Pos × Pos × Pos × Pos × Pos × Pos // e = .ListComp (.Call (.Name z.1 z.2.2.2.2.2.2.2.2.1) [.Name z.2.1 z.2.2.2.2.2.2.2.2.2.1] [] z.2.2.2.2.2.2.2.2.2.2.1) [⟨.Name z.2.2.1 z.2.2.2.2.2.2.2.2.2.2.2.1, .Call (.Name z.2.2.2.1 z.2.2.2.2.2.2.2.2.2.2.2.2.1) [z.2.2.2.2.2.2.1, z.2.2.2.2.2.2.2.1] [] z.2.2.2.2.2.2.2.2.2.2.2.2.2.1, [], z.2.2.2.2.1⟩] z.2.2.2.2.2.1 z.2.2.2.2.2.2.2.2.2.2.2.2.2.2}, k z.1.1 z.1.2.1 z.1.2.2.1 z.1.2.2.2.1 z.1.2.2.2.2.1 z.1.2.2.2.2.2.1 z.1.2.2.2.2.2.2.1 z.1.2.2.2.2.2.2.2.1 = true := by obtain ⟨z, _, h⟩ := wS_of h; exact ⟨z, h⟩
noncomputable def uCap1 (e : Expr) : Option {z : Str × CmpOp × CmpOp × Str × Str × Nat × Pos × Pos × Nat × Pos × Pos // e = .Compare (.Constant (.str z.1) z.2.2.2.2.2.1 z.2.2.2.2.2.2.1) [z.2.1, z.2.2.1] [.Name z.2.2.2.1 z.2.2.2.2.2.2.2.1, .Constant (.str z.2.2.2.2.1) z.2.2.2.2.2.2.2.2.1 z.2.2.2.2.2.2.2.2.2.1] z.2.2.2.2.2.2.2.2.2.2} := match e with | .Compare (.Constant (.str a) n1 q1) [r1, r2] [.Name b q2, .Constant (.str c) n2 q3] q4 => some ⟨(a, r1, r2, b, c, n1, q1, q2, n2, q3, q4), rfl⟩ | _ => none
noncomputable def wCap1 (e : Expr) (k : Str → CmpOp → CmpOp → Str → Str → Bool) : Bool := wS (uCap1 e) fun z => k z.1.1 z.1.2.1 z.1.2.2.1 z.1.2.2.2.1 z.1.2.2.2.2.1
theorem wCap1_of {e : Expr} {k : Str → CmpOp → CmpOp → Str → Str → Bool} (h : wCap1 e k = true) : ∃ z : {z : Str × CmpOp × CmpOp × Str × Str × Nat × Pos × Pos × Nat × Pos × Pos // e = .Compare (.Constant (.str z.1) z.2.2.2.2.2.1 z.2.2.2.2.2.2.1) [z.2.1, z.2.2.1] [.Name z.2.2.2.1 z.2.2.2.2.2.2.2.1, .Constant (.str z.2.2.2.2.1) z.2.2.2.2.2.2.2.2.1 z.2.2.2.2.2.2.2.2.2.1] z.2.2.2.2.2.2.2.2.2.2}, k z.1.1 z.1.2.1 z.1.2.2.1 z.1.2.2.2.1 z.1.2.2.2.2.1 = true := by obtain ⟨z, _, h⟩ := wS_of h; exact ⟨z, h⟩
noncomputable def uCap2 (e : Expr) : Option {z : Str × Str × Str × Operator × Int × Pos × Pos × Pos × Pos × Nat × Pos × Pos × Pos // e = .Call (.Name z.1 z.2.2.2.2.2.1) [.BinOp (.Call (.Name z.2.1 z.2.2.2.2.2.2.1) [.Name z.2.2.1 z.2.2.2.2.2.2.2.1] [] z.2.2.2.2.2.2.2.2.1) z.2.2.2.1 (.Constant (.int z.2.2.2.2.1) z.2.2.2.2.2.2.2.2.2.1 z.2.2.2.2.2.2.2.2.2.2.1) z.2.2.2.2.2.2.2.2.2.2.2.1] [] z.2.2.2.2.2.2.2.2.2.2.2.2} := match e with | .Call (.Name a q1) [.BinOp (.Call (.Name b q2) [.Name c q3] [] q4) o (.Constant (.int i) n1 q5) q6] [] q7 => some ⟨(a, b, c, o, i, q1, q2, q3, q4, n1, q5, q6, q7), rfl⟩ | _ => none
noncomputable def wCap2 (e : Expr) (k : Str → Str → Str → Operator → Int → Bool) : Bool := wS (uCap2 e) fun z => k z.1.1 z.1.2.1 z.1.2.2.1 z.1.2.2.2.1 z.1.2.2.2.2.1
theorem wCap2_of {e : Expr} {k : Str → Str → Str → Operator → Int → Bool} (h : wCap2 e k = true) : ∃ z : {z : Str × Str × Str × Operator × Int × Pos × Pos × Pos × Pos × Nat × Pos × Pos × Pos // e = .Call (.Name z.1 z.2.2.2.2.2.1) [.BinOp (.Call (.Name z.2.1 z.2.2.2.2.2.2.1) [.Name z.2.2.1 z.2.2.2.2.2.2.2.1] [] z.2.2.2.2.2.2.2.2.1) z.2.2.2.1 (.Constant (.int z.2.2.2.2.1) z.2.2.2.2.2.2.2.2.2.1 z.2.2.2.2.2.2.2.2.2.2.1) z.2.2.2.2.2.2.2.2.2.2.2.1] [] z.2.2.2.2.2.2.2.2.2.2.2.2}, k z.1.1 z.1.2.1 z.1.2.2.1 z.1.2.2.2.1 z.1.2.2.2.2.1 = true := by obtain ⟨z, _, h⟩ := wS_of h; exact ⟨z, h⟩

section
variable (cx : Cx) (kE kT : ME → Expr → Bool)
noncomputable def isCap (sg : Str) (e : Expr) : Bool := wIf e fun t b f => wCap1 t fun a o1 o2 s1 z => wCap2 b fun c o s2 op k => wName f fun s3 =>
  decide (o1 = .LtE) && decide (o2 = .LtE) && decide (op = .Sub) && (a == ⟨#[97]⟩) && (z == ⟨#[122]⟩) && (s1 == sg) && (s2 == sg) && (s3 == sg) && (c == Str.ofString "chr") && (o == Str.ofString "ord") && decide (k = 32)
noncomputable def kCmp (o : CmpOp) (a b : ME) (e : Expr) : Bool := wCmp1 e fun l op r => decide (op = o) && notSet r && kE a l && kE b r
noncomputable def kCmp2 (o1 o2 : CmpOp) (a b c : ME) (e : Expr) : Bool := wCmp2 e fun l p1 p2 r1 r2 => decide (p1 = o1) && decide (p2 = o2) && notSet r2 && kE a l && kE b r1 && kE c r2
noncomputable def cCallN (name : Str) (l : List ME) (e : Expr) : Bool := wCallN e fun x a r => (x == name) && isGl cx.sc name && notDbg name && chkL kE l (a :: r)
noncomputable def cMeth1 (name : Str) (m a : ME) (e : Expr) : Bool := wMet1 e fun o nm ap av pos => (nm == name) && plainBase o && plainArg av && (ap.endLine == pos.line) && kE m o && kE a av

noncomputable def stepKE (m : ME) (e : Expr) : Bool := match m with
  | .var i => wName e fun x => (cx.ns[i]? == some x) && isLocal cx.sc x && notDbg x
  | .gl k => wName e fun x => isGl cx.sc x && notDbg x && wS cx.T.CT[k]? fun y => y.1 == x
  | .lit v => wCst e fun c => litOk c v
  | .not _ => false
  | .neg a => wNeg e fun x => kE a x
  | .bin o a b => wBin e fun l op r => decide (op = o) && kE a l && kE b r
  | .cmp o a b => kCmp kE o a b e
  | .cmp2 o1 o2 a b c => kCmp2 kE o1 o2 a b c e
  | .andL l => wAnd e fun es => chkTs kE l es
  | .orL l => wOr e fun es => chkTs kE l es
  | .ite t a b => wIf e fun t' a' b' => kT t t' && kE a a' && kE b b'
  | .tup l => wTup e fun es => chkL kE l es
  | .lstF l => wLst e fun es => chkL kE l es
  | .lstM l => wLst e fun es => chkL kE l es
  | .idx a i => wSub e fun v s => plainArg s && kE a v && kE i s
  | .slc a lo hi => wSlc e fun v l h => kE a v && chkO kE lo l && chkO kE hi h
  | .call f l => wS cx.T.FT[f]? fun fd => wCall e fun x es => (x == fd.name) && isGl cx.sc fd.name && notDbg fd.name && chkL kE l es
  | .mk l => cCallN cx kE (Str.ofString "Level") l e
  | .bi b l => decide (b < 4) && wS biTab[b]? fun x => cCallN cx kE x.1 l e
  | .app a x => cMeth1 kE (Str.ofString "append") a x e
  | .ext a x => cMeth1 kE (Str.ofString "extend") a x e
  | .pop a => wMet0 e fun o nm ap pos => (nm == Str.ofString "pop") && plainBase o && (ap.endLine == pos.line) && kE a o
  | .meth m a l => decide (m < 2) && wS methTab[m]? fun x => wMetS e fun o nm ap av es pos => (nm == x.1) && plainBase o && (ap.endLine == pos.line) && decide ((av :: es).length < 29) && kE a o && chkL kE l (av :: es)
  | .attr a k => wAttr e fun v x => (attrTab[k]? == some x) && plainBase v && kE a v
  | .jug i k => wJug e fun a b z k' x => (a == sCells) && (b == sCount) && decide (z = 0) && decide (k' = (k : Int)) && (cx.ns[i]? == some x) && isLocal cx.sc x && notDbg x
  | .capj a => wCapj e fun c nm ap pos elt sc sg z it ip => (c == ⟨#[]⟩) && (nm == Str.ofString "join") && decide (z = 0) && (ap.endLine == pos.line) && isCap sg elt && compOk sc sg && isGl sc (Str.ofString "chr") && isGl sc (Str.ofString "ord") && kE a (.Name it ip)
  | .chrs a b => wChrs e fun c cd cd' r z sc ea eb => (c == Str.ofString "chr") && (cd == cd') && (r == Str.ofString "range") && decide (z = 0) && compOk sc cd' && isGl sc (Str.ofString "chr") && isGl cx.sc (Str.ofString "range") && plainArg ea && plainArg eb && kE a ea && kE b eb
  | .bad => true

noncomputable def stepKT (m : ME) (e : Expr) : Bool := match m with
  | .not a => wNot e fun x => kT a x
  | .andL l => wAnd e fun es => chkTs kT l es
  | .orL l => wOr e fun es => chkTs kT l es
  | .ite t a b => wIf e fun t' a' b' => kT t t' && kT a a' && kT b b'
  | .cmp o a b => kCmp kE o a b e
  | .cmp2 o1 o2 a b c => kCmp2 kE o1 o2 a b c e
  | m => plainTest e && kE m e
end

noncomputable def ck (cx : Cx) : Nat → (ME → Expr → Bool) × (ME → Expr → Bool)
  | 0 => (fun _ _ => false, fun _ _ => false)
  | n + 1 => (stepKE cx (ck cx n).1 (ck cx n).2, stepKT (ck cx n).1 (ck cx n).2)

noncomputable def chkB (k : MS → Stmt → Bool) : List MS → List Stmt → Bool
  | [], [] => true
  | m :: l, s :: ss => k m s && chkB k l ss
  | _, _ => false

noncomputable def namesOk (cx : Cx) (names : List Str) (l : List Nat) : Bool := (names.length == l.length) && (names.zip l).all fun p => (cx.ns[p.2]? == some p.1) && isLocal cx.sc p.1

noncomputable def uAsg (e : Stmt) : Option {z : Str × Expr × Pos × Pos // e = .Assign [.Name z.1 z.2.2.1] z.2.1 z.2.2.2} := match e with | .Assign [.Name x q1] e1 q2 => some ⟨(x, e1, q1, q2), rfl⟩ | _ => none
noncomputable def wAsg (e : Stmt) (k : Str → Expr → Bool) : Bool := wS (uAsg e) fun z => k z.1.1 z.1.2.1
theorem wAsg_of {e : Stmt} {k : Str → Expr → Bool} (h : wAsg e k = true) : ∃ z : {z : Str × Expr × Pos × Pos // e = .Assign [.Name z.1 z.2.2.1] z.2.1 z.2.2.2}, k z.1.1 z.1.2.1 = true := by obtain ⟨z, _, h⟩ := wS_of h; exact ⟨z, h⟩
noncomputable def uAsgT (e : Stmt) : Option {z : (List Expr) × Expr × Nat × Pos × Pos // e = .Assign [.Tuple z.1 z.2.2.1 z.2.2.2.1] z.2.1 z.2.2.2.2} := match e with | .Assign [.Tuple l n q1] e1 q2 => some ⟨(l, e1, n, q1, q2), rfl⟩ | _ => none
noncomputable def wAsgT (e : Stmt) (k : List Expr → Expr → Bool) : Bool := wS (uAsgT e) fun z => k z.1.1 z.1.2.1
theorem wAsgT_of {e : Stmt} {k : List Expr → Expr → Bool} (h : wAsgT e k = true) : ∃ z : {z : (List Expr) × Expr × Nat × Pos × Pos // e = .Assign [.Tuple z.1 z.2.2.1 z.2.2.2.1] z.2.1 z.2.2.2.2}, k z.1.1 z.1.2.1 = true := by obtain ⟨z, _, h⟩ := wS_of h; exact ⟨z, h⟩
noncomputable def uAug (e : Stmt) : Option {z : Str × Operator × Expr × Pos × Pos // e = .AugAssign (.Name z.1 z.2.2.2.1) z.2.1 z.2.2.1 z.2.2.2.2} := match e with | .AugAssign (.Name x q1) o e1 q2 => some ⟨(x, o, e1, q1, q2), rfl⟩ | _ => none
noncomputable def wAug (e : Stmt) (k : Str → Operator → Expr → Bool) : Bool := wS (uAug e) fun z => k z.1.1 z.1.2.1 z.1.2.2.1
theorem wAug_of {e : Stmt} {k : Str → Operator → Expr → Bool} (h : wAug e k = true) : ∃ z : {z : Str × Operator × Expr × Pos × Pos // e = .AugAssign (.Name z.1 z.2.2.2.1) z.2.1 z.2.2.1 z.2.2.2.2}, k z.1.1 z.1.2.1 z.1.2.2.1 = true := by obtain ⟨z, _, h⟩ := wS_of h; exact ⟨z, h⟩
noncomputable def uAugJ (e : Stmt) : Option {z : Str × Str × Operator × Int × Pos × Nat × Pos × Pos × Nat × Pos × Pos // e = .AugAssign (.Subscript (.Name z.1 z.2.2.2.2.1) (.Constant (.str z.2.1) z.2.2.2.2.2.1 z.2.2.2.2.2.2.1) z.2.2.2.2.2.2.2.1) z.2.2.1 (.Constant (.int z.2.2.2.1) z.2.2.2.2.2.2.2.2.1 z.2.2.2.2.2.2.2.2.2.1) z.2.2.2.2.2.2.2.2.2.2} := match e with | .AugAssign (.Subscript (.Name x q1) (.Constant (.str a) n1 q2) q3) o (.Constant (.int i) n2 q4) q5 => some ⟨(x, a, o, i, q1, n1, q2, q3, n2, q4, q5), rfl⟩ | _ => none
noncomputable def wAugJ (e : Stmt) (k : Str → Str → Operator → Int → Bool) : Bool := wS (uAugJ e) fun z => k z.1.1 z.1.2.1 z.1.2.2.1 z.1.2.2.2.1
theorem wAugJ_of {e : Stmt} {k : Str → Str → Operator → Int → Bool} (h : wAugJ e k = true) : ∃ z : {z : Str × Str × Operator × Int × Pos × Nat × Pos × Pos × Nat × Pos × Pos // e = .AugAssign (.Subscript (.Name z.1 z.2.2.2.2.1) (.Constant (.str z.2.1) z.2.2.2.2.2.1 z.2.2.2.2.2.2.1) z.2.2.2.2.2.2.2.1) z.2.2.1 (.Constant (.int z.2.2.2.1) z.2.2.2.2.2.2.2.2.1 z.2.2.2.2.2.2.2.2.2.1) z.2.2.2.2.2.2.2.2.2.2}, k z.1.1 z.1.2.1 z.1.2.2.1 z.1.2.2.2.1 = true := by obtain ⟨z, _, h⟩ := wS_of h; exact ⟨z, h⟩
noncomputable def uXp (e : Stmt) : Option {z : Expr × Pos // e = .Expr z.1 z.2} := match e with | .Expr e1 q => some ⟨(e1, q), rfl⟩ | _ => none
noncomputable def wXp (e : Stmt) (k : Expr → Bool) : Bool := wS (uXp e) fun z => k z.1.1
theorem wXp_of {e : Stmt} {k : Expr → Bool} (h : wXp e k = true) : ∃ z : {z : Expr × Pos // e = .Expr z.1 z.2}, k z.1.1 = true := by obtain ⟨z, _, h⟩ := wS_of h; exact ⟨z, h⟩
noncomputable def uIfS (e : Stmt) : Option {z : Expr × (List Stmt) × (List Stmt) × Pos // e = .If z.1 z.2.1 z.2.2.1 z.2.2.2} := match e with | .If e1 t1 t2 q => some ⟨(e1, t1, t2, q), rfl⟩ | _ => none
noncomputable def wIfS (e : Stmt) (k : Expr → List Stmt → List Stmt → Bool) : Bool := wS (uIfS e) fun z => k z.1.1 z.1.2.1 z.1.2.2.1
theorem wIfS_of {e : Stmt} {k : Expr → List Stmt → List Stmt → Bool} (h : wIfS e k = true) : ∃ z : {z : Expr × (List Stmt) × (List Stmt) × Pos // e = .If z.1 z.2.1 z.2.2.1 z.2.2.2}, k z.1.1 z.1.2.1 z.1.2.2.1 = true := by obtain ⟨z, _, h⟩ := wS_of h; exact ⟨z, h⟩
noncomputable def uWhl (e : Stmt) : Option {z : Expr × (List Stmt) × Pos // e = .While z.1 z.2.1 [] z.2.2} := match e with | .While e1 t1 [] q => some ⟨(e1, t1, q), rfl⟩ | _ => none
noncomputable def wWhl (e : Stmt) (k : Expr → List Stmt → Bool) : Bool := wS (uWhl e) fun z => k z.1.1 z.1.2.1
theorem wWhl_of {e : Stmt} {k : Expr → List Stmt → Bool} (h : wWhl e k = true) : ∃ z : {z : Expr × (List Stmt) × Pos // e = .While z.1 z.2.1 [] z.2.2}, k z.1.1 z.1.2.1 = true := by obtain ⟨z, _, h⟩ := wS_of h; exact ⟨z, h⟩
noncomputable def uFor (e : Stmt) : Option {z : Str × Str × Expr × (List Stmt) × Pos × Pos × Pos × Pos // e = .For (.Name z.1 z.2.2.2.2.1) (.Call (.Name z.2.1 z.2.2.2.2.2.1) [z.2.2.1] [] z.2.2.2.2.2.2.1) z.2.2.2.1 [] z.2.2.2.2.2.2.2} := match e with | .For (.Name x q1) (.Call (.Name a q2) [e1] [] q3) t1 [] q4 => some ⟨(x, a, e1, t1, q1, q2, q3, q4), rfl⟩ | _ => none
noncomputable def wFor (e : Stmt) (k : Str → Str → Expr → List Stmt → Bool) : Bool := wS (uFor e) fun z => k z.1.1 z.1.2.1 z.1.2.2.1 z.1.2.2.2.1
theorem wFor_of {e : Stmt} {k : Str → Str → Expr → List Stmt → Bool} (h : wFor e k = true) : ∃ z : {z : Str × Str × Expr × (List Stmt) × Pos × Pos × Pos × Pos // e = .For (.Name z.1 z.2.2.2.2.1) (.Call (.Name z.2.1 z.2.2.2.2.2.1) [z.2.2.1] [] z.2.2.2.2.2.2.1) z.2.2.2.1 [] z.2.2.2.2.2.2.2}, k z.1.1 z.1.2.1 z.1.2.2.1 z.1.2.2.2.1 = true := by obtain ⟨z, _, h⟩ := wS_of h; exact ⟨z, h⟩
noncomputable def uRet (e : Stmt) : Option {z : Expr × Pos // e = .Return (some z.1) z.2} := match e with | .Return (some e1) q => some ⟨(e1, q), rfl⟩ | _ => none
noncomputable def wRet (e : Stmt) (k : Expr → Bool) : Bool := wS (uRet e) fun z => k z.1.1
theorem wRet_of {e : Stmt} {k : Expr → Bool} (h : wRet e k = true) : ∃ z : {z : Expr × Pos // e = .Return (some z.1) z.2}, k z.1.1 = true := by obtain ⟨z, _, h⟩ := wS_of h; exact ⟨z, h⟩
noncomputable def uRai (e : Stmt) : Option {z : Str × Expr × (List Expr) × Pos × Pos × Pos // e = .Raise (some (.Call (.Name z.1 z.2.2.2.1) (z.2.1 :: z.2.2.1) [] z.2.2.2.2.1)) none z.2.2.2.2.2} := match e with | .Raise (some (.Call (.Name x q1) (e1 :: l) [] q2)) none q3 => some ⟨(x, e1, l, q1, q2, q3), rfl⟩ | _ => none
noncomputable def wRai (e : Stmt) (k : Str → Expr → List Expr → Bool) : Bool := wS (uRai e) fun z => k z.1.1 z.1.2.1 z.1.2.2.1
theorem wRai_of {e : Stmt} {k : Str → Expr → List Expr → Bool} (h : wRai e k = true) : ∃ z : {z : Str × Expr × (List Expr) × Pos × Pos × Pos // e = .Raise (some (.Call (.Name z.1 z.2.2.2.1) (z.2.1 :: z.2.2.1) [] z.2.2.2.2.1)) none z.2.2.2.2.2}, k z.1.1 z.1.2.1 z.1.2.2.1 = true := by obtain ⟨z, _, h⟩ := wS_of h; exact ⟨z, h⟩
noncomputable def uTry (e : Stmt) : Option {z : (List Stmt) × Str × Str × Str × Str × Pos × Pos × Pos × Pos × Pos × Pos // e = .Try z.1 [.ExceptHandler (some (.Name z.2.1 z.2.2.2.2.2.1)) (some z.2.2.1) [.Return (some (.Attribute (.Name z.2.2.2.1 z.2.2.2.2.2.2.1) z.2.2.2.2.1 z.2.2.2.2.2.2.2.1)) z.2.2.2.2.2.2.2.2.1] z.2.2.2.2.2.2.2.2.2.1] [] [] z.2.2.2.2.2.2.2.2.2.2} := match e with | .Try t1 [.ExceptHandler (some (.Name x q1)) (some a) [.Return (some (.Attribute (.Name w q2) b q3)) q4] q5] [] [] q6 => some ⟨(t1, x, a, w, b, q1, q2, q3, q4, q5, q6), rfl⟩ | _ => none
noncomputable def wTry (e : Stmt) (k : List Stmt → Str → Str → Str → Str → Bool) : Bool := wS (uTry e) fun z => k z.1.1 z.1.2.1 z.1.2.2.1 z.1.2.2.2.1 z.1.2.2.2.2.1
theorem wTry_of {e : Stmt} {k : List Stmt → Str → Str → Str → Str → Bool} (h : wTry e k = true) : ∃ z : {z : (List Stmt) × Str × Str × Str × Str × Pos × Pos × Pos × Pos × Pos × Pos // e = .Try z.1 [.ExceptHandler (some (.Name z.2.1 z.2.2.2.2.2.1)) (some z.2.2.1) [.Return (some (.Attribute (.Name z.2.2.2.1 z.2.2.2.2.2.2.1) z.2.2.2.2.1 z.2.2.2.2.2.2.2.1)) z.2.2.2.2.2.2.2.2.1] z.2.2.2.2.2.2.2.2.2.1] [] [] z.2.2.2.2.2.2.2.2.2.2}, k z.1.1 z.1.2.1 z.1.2.2.1 z.1.2.2.2.1 z.1.2.2.2.2.1 = true := by obtain ⟨z, _, h⟩ := wS_of h; exact ⟨z, h⟩

noncomputable def swapC (cx : Cx) (l : List Nat) (o : Option (Option (List Str))) : Bool := wS o fun o => match o with
  | none => true
  | some names => namesOk cx names l
noncomputable def swapOk (cx : Cx) (elts : List Expr) (l : List Nat) (v : Expr) : Bool := notTuple v || wTup v fun es => swapC cx l (swapP cx.sc elts es)

noncomputable def stepKS (cx : Cx) (kE kT : ME → Expr → Bool) (kS : MS → Stmt → Bool) (m : MS) (s : Stmt) : Bool := match m with
  | .asg i e => wAsg s fun x value => (cx.ns[i]? == some x) && isLocal cx.sc x && notComp value && kE e value
  | .asgT l e => wAsgT s fun elts value => tgts cx.sc cx.ns elts l && notComp value && swapOk cx elts l value && kE e value
  | .aug i o e => wAug s fun x op value => (cx.ns[i]? == some x) && isLocal cx.sc x && decide (op = o) && kE e value
  | .augJ i k => wAugJ s fun x c op k' => decide (op = .Add) && (c == sCount) && decide (k' = k) && (cx.ns[i]? == some x) && isLocal cx.sc x && notDbg x
  | .expr e => wXp s fun value => notComp value && kE e value
  | .ife t a b => wIfS s fun test x y => kT t test && chkB kS a x && chkB kS b y
  | .whl t b => wWhl s fun test body => kT t test && chkB kS b body
  | .forR i e b => wFor s fun x r ex body => (cx.ns[i]? == some x) && isLocal cx.sc x && (r == Str.ofString "range") && isGl cx.sc (Str.ofString "range") && plainArg ex && kE e ex && chkB kS b body
  | .ret e => wRet s fun value => kE e value
  | .raise c l => wRai s fun x a r => (x == Str.ofString "BasicError") && isGl cx.sc (Str.ofString "BasicError") && chkL kE (c :: l) (a :: r)
  | .tryC b => wTry s fun body x wr w a => (x == Str.ofString "BasicError") && isGl cx.sc (Str.ofString "BasicError") && (w == wr) && (a == sCode) && isLocal cx.sc wr && notDbg wr && chkB kS b body
  | .bad => true

noncomputable def ckS (cx : Cx) : Nat → MS → Stmt → Bool
  | 0 => fun _ _ => false
  | n + 1 => stepKS cx (ck cx n).1 (ck cx n).2 (ckS cx n)
end Mine

end

section
set_option genInjectivity false
open PySem PySem.W PyProof.Rows
set_option maxRecDepth 100000
set_option maxHeartbeats 4000000
namespace Mine

structure XOk (X : Fx) : Prop where
  kind : X.sc.kind = .function
  nodup : X.ns.Nodup

structure GAll (G : Gx) (T : Tab) : Prop where
  F : GF G
  M : GM G
  Z : ∃ fd qn cda cc N ar, ExcK G fd qn cda cc N ar
  C : ∀ (k : Nat) (x : Str) (v : V), T.CT[k]? = some (x, v) → ∃ u, G.mg x = some u ∧ ∀ (h : Heap) (Y : Lay), G.base.StaysIn h → (∀ a, a ∈ Y.mu ∨ a ∈ Y.fr ∨ a ∈ Y.no → G.base.get? a = none) → Rp G.lvl h Y v u
  D : ∀ (f : Nat) (fd : FD), T.FT[f]? = some fd → ∃ d ∈ recsOf G.p, DefOk d fd ∧ ∃ c, chkB (ckS ⟨T, d.scope, fd.ns⟩ c) fd.body d.body = true

noncomputable abbrev cxOf (T : Tab) (X : Fx) : Cx := ⟨T, X.sc, X.ns⟩
noncomputable def SE (G : Gx) (T : Tab) (X : Fx) (N : Nat) : Prop := ∀ c m e, (ck (cxOf T X) c).1 m e = true → ∀ ds vs ρ σ, Tr G X N ds vs (eval e X.env) (RV G) ρ σ ((run T N).E m ρ σ)
noncomputable def ST (G : Gx) (T : Tab) (X : Fx) (N : Nat) : Prop := ∀ c m e, (ck (cxOf T X) c).2 m e = true → ∀ ds vs ρ σ, Tr G X N ds vs (isTrue e X.env (eval e X.env)) RB ρ σ ((run T N).T m ρ σ)
noncomputable def SEs (G : Gx) (T : Tab) (X : Fx) (N : Nat) : Prop := ∀ c l es pos, chkL (ck (cxOf T X) c).1 l es = true → ∀ ds vs ρ σ, Tr G X N ds vs (spliced (backTo pos (starEach es X.env))) (RVs G) ρ σ ((run T N).Es l ρ σ)
noncomputable def SS (G : Gx) (T : Tab) (X : Fx) (N : Nat) : Prop := ∀ c m s, ckS (cxOf T X) c m s = true → ∀ ds vs ρ σ, Tr G X N ds vs (exec s X.env) (RF G) ρ σ ((run T N).S m ρ σ)
noncomputable def SSs (G : Gx) (T : Tab) (X : Fx) (N : Nat) : Prop := ∀ c l ss, chkB (ckS (cxOf T X) c) l ss = true → ∀ ds vs ρ σ, Tr G X N ds vs (execs ss X.env) (RF G) ρ σ ((run T N).Ss l ρ σ)

theorem chkL_plain {k : ME → Expr → Bool} : ∀ {l : List ME} {es : List Expr}, chkL k l es = true → plainArgs es = true
  | [], [], _ => rfl
  | _ :: _, e :: es, h => by
    unfold chkL at h
    simp only [Bool.and_eq_true] at h
    show (plainArg e && plainArgs es) = true
    rw [h.1.1, chkL_plain h.2]; rfl
  | [], _ :: _, h => by cases h
  | _ :: _, [], h => by cases h

section
variable {G : Gx} {T : Tab} {X : Fx} {N : Nat}

theorem snd_Es (hE : SE G T X N) (hEs : SEs G T X N) : SEs G T X (N + 1) := by
  intro c l es pos h ds vs ρ σ
  show Tr G X (N + 1) ds vs _ (RVs G) ρ σ (stepEs (run T N) l ρ σ)
  cases l with
  | nil => cases es with
    | nil => exact tr_args_nil
    | cons _ _ => cases h
  | cons m l => cases es with
    | nil => cases h
    | cons e es =>
      have hp := chkL_plain h
      unfold chkL at h
      simp only [Bool.and_eq_true] at h
      have hp2 := chkL_plain h.2
      rw [star_plain hp]
      refine tr_args_cons ((hE c m e h.1.2 ds vs ρ σ).lift (Nat.le_succ N)) fun b ρ₁ σ₁ a => ?_
      have z := (hEs c l es pos h.2 (b :: ds) (a :: vs) ρ₁ σ₁).lift (Nat.le_succ N)
      rw [star_plain hp2] at z
      exact z

theorem snd_gl (A : GAll G T) (XK : XOk X) {k : Nat} {x : Str} {v : V} {pos : Pos} {ds : List V} {vs : List Value} {ρ : Loc} {σ : Mem} (hc : T.CT[k]? = some (x, v)) (hx : isGl X.sc x = true) (hd : notDbg x = true) :
    Tr G X N ds vs (eval (.Name x pos) X.env) (RV G) ρ σ (some (.ok v, ρ, σ)) := by
  refine Tr.one fun B s Y Q E hA hD hR kk => ?_
  obtain ⟨u, hu, hr⟩ := A.C k x v hc
  have hnew : ∀ a, a ∈ Y.mu ∨ a ∈ Y.fr ∨ a ∈ Y.no → G.base.get? a = none := fun a h => by
    rcases h with h | h | h
    · exact hD.mem.new a h
    · rw [hD.fr] at h; exact (fun_new hD.funs a h).1
    · exact (hD.no a h).1
  exact Calls.Name_function_global (env := X.env) XK.kind (isGl_of hx) (Calls.loadGlobal_global (env := X.env) (A.F.top.g.keeps hD.stays) hu (kk s.toks u (hr s.heap Y hD.stays hnew))) (by simpa [notDbg] using hd)

theorem dbg_of {x : Str} (h : notDbg x = true) : (x == ("__debug__" : Str)) = false := by simpa [notDbg] using h

theorem eval_attr {value : Expr} {x : Str} {pos : Pos} {env : Env} (h : plainBase value = true) : eval (.Attribute value x pos) env = (do
      let o ← eval value env
      standAt pos.atName
      let r ← holding [o] (getAttr o x true)
      letTemporaryGo value o r
      pure r) := by
  have e : eval (.Attribute value x pos) env = (do
      let o ← attributeBase value x env (eval value env)
      standAt pos.atName
      let r ← holding [o] (getAttr o x true)
      letTemporaryGo value o r
      pure r) := by with_unfolding_all rfl
  rw [e, base_plain h]

theorem isCap_fin {sg a s1 z c o s2 s3 : Str} {o1 o2 : CmpOp} {op : Operator} {k : Int} {k1 k2 k3 : Nat} {p1 p2 p3 p4 p5 p6 p7 p8 p9 p10 p11 p12 p13 : Pos} {e t b f : Expr}
    (z4 : f = .Name s3 p12) (z3 : b = .Call (.Name c p5) [.BinOp (.Call (.Name o p6) [.Name s2 p7] [] p8) op (.Constant (.int k) k3 p9) p10] [] p11)
    (z2 : t = .Compare (.Constant (.str a) k1 p1) [o1, o2] [.Name s1 p2, .Constant (.str z) k2 p3] p4) (z1 : e = .IfExp t b f p13)
    (r1 : o1 = .LtE) (r2 : o2 = .LtE) (r3 : op = .Sub) (r4 : a = ⟨#[97]⟩) (r5 : z = ⟨#[122]⟩) (r6 : s1 = sg) (r7 : s2 = sg) (r8 : s3 = sg) (r9 : c = Str.ofString "chr") (r10 : o = Str.ofString "ord") (r11 : k = 32) : ∃ p q, e = capElt sg p q := by
  subst r1 r2 r3 r4 r5 r6 r7 r8 r9 r10 r11 z4 z3 z2 z1
  exact ⟨[p1, p2, p3, p4, p5, p6, p7, p8, p9, p10, p11, p12, p13], [k1, k2, k3], rfl⟩
theorem biTab_is {b : Nat} {x : Str} {v : Value} (hb : b < 4) (h : biTab[b]? = some (x, v)) : ∃ id, v = .builtin id := by
  match b, hb, h with
  | 0, _, h => cases h; exact ⟨_, rfl⟩
  | 1, _, h => cases h; exact ⟨_, rfl⟩
  | 2, _, h => cases h; exact ⟨_, rfl⟩
  | 3, _, h => cases h; exact ⟨_, rfl⟩
theorem kCmp_of {kE : ME → Expr → Bool} {o : CmpOp} {a b : ME} {e : Expr} (h : kCmp kE o a b e = true) : ∃ l r p, e = .Compare l [o] [r] p ∧ notSet r = true ∧ kE a l = true ∧ kE b r = true := by
  obtain ⟨⟨⟨l, op, r, p⟩, hz⟩, h1⟩ := wCmp1_of h
  cases of_decide_eq_true (al (al (al h1)))
  exact ⟨l, r, p, hz, ar (al (al h1)), ar (al h1), ar h1⟩
theorem kCmp2_of {kE : ME → Expr → Bool} {o1 o2 : CmpOp} {a b c : ME} {e : Expr} (h : kCmp2 kE o1 o2 a b c e = true) : ∃ l r1 r2 p, e = .Compare l [o1, o2] [r1, r2] p ∧ notSet r2 = true ∧ kE a l = true ∧ kE b r1 = true ∧ kE c r2 = true := by
  obtain ⟨⟨⟨l, p1, p2, r1, r2, p⟩, hz⟩, h1⟩ := wCmp2_of h
  cases of_decide_eq_true (al (al (al (al (al h1)))))
  cases of_decide_eq_true (ar (al (al (al (al h1)))))
  exact ⟨l, r1, r2, p, hz, ar (al (al (al h1))), ar (al (al h1)), ar (al h1), ar h1⟩
theorem cCallN_of {cx : Cx} {kE : ME → Expr → Bool} {name : Str} {l : List ME} {e : Expr} (h : cCallN cx kE name l e = true) : ∃ a r p q, e = .Call (.Name name p) (a :: r) [] q ∧ isGl cx.sc name = true ∧ notDbg name = true ∧ chkL kE l (a :: r) = true := by
  obtain ⟨⟨⟨x, a, r, p, q⟩, hz⟩, h1⟩ := wCallN_of h
  cases eqS (al (al (al h1)))
  exact ⟨a, r, p, q, hz, ar (al (al h1)), ar (al h1), ar h1⟩
theorem cMeth1_of {kE : ME → Expr → Bool} {name : Str} {m a : ME} {e : Expr} (h : cMeth1 kE name m a e = true) : ∃ o ap av pos, e = .Call (.Attribute o name ap) [av] [] pos ∧ plainBase o = true ∧ plainArg av = true ∧ (ap.endLine == pos.line) = true ∧ kE m o = true ∧ kE a av = true := by
  obtain ⟨⟨⟨o, nm, ap, av, pos⟩, hz⟩, h1⟩ := wMet1_of h
  cases eqS (al (al (al (al (al h1)))))
  exact ⟨o, ap, av, pos, hz, ar (al (al (al (al h1)))), ar (al (al (al h1))), ar (al (al h1)), ar (al h1), ar h1⟩

theorem isCap_of {sg : Str} {e : Expr} (h : isCap sg e = true) : ∃ p q, e = capElt sg p q := by
  obtain ⟨z1, g1⟩ := wIf_of h
  obtain ⟨z2, g2⟩ := wCap1_of g1
  obtain ⟨z3, g3⟩ := wCap2_of g2
  obtain ⟨z4, g4⟩ := wName_of g3
  exact isCap_fin z4.2 z3.2 z2.2 z1.2 (of_decide_eq_true (al (al (al (al (al (al (al (al (al (al g4))))))))))) (of_decide_eq_true (ar (al (al (al (al (al (al (al (al (al g4))))))))))) (of_decide_eq_true (ar (al (al (al (al (al (al (al (al g4))))))))))
    (eqS (ar (al (al (al (al (al (al (al g4))))))))) (eqS (ar (al (al (al (al (al (al g4)))))))) (eqS (ar (al (al (al (al (al g4))))))) (eqS (ar (al (al (al (al g4)))))) (eqS (ar (al (al (al g4))))) (eqS (ar (al (al g4)))) (eqS (ar (al g4))) (of_decide_eq_true (ar g4))

theorem compOk_of {sc : Scope} {sg : Str} (h : compOk sc sg = true) : CompScope sc sg := by
  unfold compOk at h
  simp only [Bool.and_eq_true, decide_eq_true_eq, List.all_eq_true, Bool.not_eq_true', Bool.or_eq_true] at h
  obtain ⟨⟨⟨h1, h2⟩, h3⟩, h4⟩ := h
  refine ⟨fun y hy e => ?_, fun y hy e => ?_, h2, fun y hy e => ?_, isLocal_of h3, dbg_of h4⟩
  · have := (h1 y hy).1.1; rw [e] at this; cases this
  · have := (h1 y hy).1.2; rw [e] at this; cases this
  · rcases (h1 y hy).2 with q | q
    · rw [e] at q; cases q
    · exact isLocal_of q

theorem jug_fin {ds : List V} {vs : List Value} {ρ : Loc} {σ : Mem} (A : GAll G T) (XK : XOk X) {a b x : Str} {j i' : Int} {i k : Nat} {p1 p2 p3 p4 p5 p6 p7 pos : Pos} {q1 q2 q3 q4 : Nat}
    (r1 : a = sCells) (r2 : b = sCount) (r3 : j = 0) (r4 : i' = (k : Int)) (h1 : X.ns[i]? = some x) (h2 : isLocal X.sc x = true) (h3 : notDbg x = true) :
    Tr G X N ds vs (eval (.Dict [some (.Constant (.str a) q1 p1), some (.Constant (.str b) q2 p2)] [.Subscript (.Name x p3) (.Slice none (some (.Constant (.int i') q3 p4)) none p5) p6, .Constant (.int j) q4 p7] pos) X.env) (RV G) ρ σ (jugO i k ρ σ) := by
  subst r1 r2 r3 r4
  exact tr_jug A.F XK.kind h1 (isLocal_of h2) (dbg_of h3)
theorem capj_fin {ds : List V} {vs : List Value} {ρ : Loc} {σ : Mem} {o : Loc → Mem → Out V} (A : GAll G T) {c nm sg it : Str} {apos pos p0 px ip cpos : Pos} {k0 : Nat} {elt : Expr} {sc : Scope} {z : Int}
    (r1 : c = ⟨#[]⟩) (r2 : nm = Str.ofString "join") (r3 : z = 0) (h1 : (apos.endLine == pos.line) = true) (r4 : ∃ p q, elt = capElt sg p q) (h3 : compOk sc sg = true) (h4 : isGl sc (Str.ofString "chr") = true) (h5 : isGl sc (Str.ofString "ord") = true)
    (h : ∀ ds vs ρ σ, Tr G X N ds vs (eval (.Name it ip) X.env) (RV G) ρ σ (o ρ σ)) :
    Tr G X N ds vs (eval (.Call (.Attribute (.Constant (.str c) k0 p0) nm apos) [.ListComp elt [⟨.Name sg px, .Name it ip, [], z⟩] sc cpos] [] pos) X.env) (RV G) ρ σ (bindO (o ρ σ) fun u ρ σ => match u with
          | .str s => if s.length ≤ 1000 then some (.ok (.str (s.map capC)), ρ, σ) else none
          | _ => none) := by
  obtain ⟨p, q, rfl⟩ := r4
  subst r1 r2 r3
  exact tr_capj A.F (compOk_of h3) (isGl_of h4) (isGl_of h5) (fun x => rfl) h1 h
theorem chrs_fin {ds : List V} {vs : List Value} {ρ : Loc} {σ : Mem} {o : Out V} {f : Loc → Mem → Out V} (A : GAll G T) (XK : XOk X) {c cd cd1 r : Str} {z : Int} {px cpos p1 p2 p3 p4 p5 : Pos} {sc : Scope} {ea eb : Expr}
    (r1 : c = Str.ofString "chr") (r2 : cd = cd1) (r3 : r = Str.ofString "range") (r4 : z = 0) (h3 : compOk sc cd1 = true) (h4 : isGl sc (Str.ofString "chr") = true) (h5 : isGl X.sc (Str.ofString "range") = true) (h6 : plainArg ea = true) (h7 : plainArg eb = true)
    (h1 : Tr G X N ds vs (eval ea X.env) (RV G) ρ σ o) (h2 : ∀ ds vs ρ σ, Tr G X N ds vs (eval eb X.env) (RV G) ρ σ (f ρ σ)) :
    Tr G X N ds vs (eval (.ListComp (.Call (.Name c p1) [.Name cd p2] [] p3) [⟨.Name cd1 px, .Call (.Name r p4) [ea, eb] [] p5, [], z⟩] sc cpos) X.env) (RV G) ρ σ (bindO o fun u ρ σ => bindO (f ρ σ) fun v ρ σ => retO ρ σ (chrsO u v)) := by
  subst r1 r2 r3 r4
  exact tr_chrs A.F (compOk_of h3) (isGl_of h4) XK.kind (isGl_of h5) (by show (plainArg _ && (plainArg _ && true)) = true; rw [h6, h7]; rfl) h1 h2
theorem meth_fin {ds : List V} {vs : List Value} {ρ : Loc} {σ : Mem} {k : Nat} {x nm : Str} {id : String} {ov e : Expr} {es : List Expr} {apos pos : Pos} {oo : Out V} {f : Loc → Mem → Out (List V)} (hb : k < 2) (hv : methTab[k]? = some (x, id))
    (r : nm = x) (hbase : plainBase ov = true) (hline : (apos.endLine == pos.line) = true) (hlen : (e :: es).length < 29) (hpl : plainArgs (e :: es) = true)
    (h1 : Tr G X N ds vs (eval ov X.env) (RV G) ρ σ oo) (h2 : ∀ ds vs ρ σ, Tr G X N ds vs (spliced (backTo pos (starEach (e :: es) X.env))) (RVs G) ρ σ (f ρ σ)) :
    Tr G X N ds vs (eval (.Call (.Attribute ov nm apos) (e :: es) [] pos) X.env) (RV G) ρ σ (bindO oo fun u ρ σ => if isStr u then bindO (f ρ σ) fun vs ρ σ => retO ρ σ (methV k u vs) else none) := by
  subst r
  cases k with
  | zero => cases hv; exact tr_str_method (m := 0) hbase hpl hlen hline rfl PySem.F.slot_str_find PySem.F.type_str_find h1 h2
  | succ k => cases k with
    | zero => cases hv; exact tr_str_method (m := 1) hbase hpl hlen hline rfl PySem.F.slot_str_split PySem.F.type_str_split h1 h2
    | succ k => exact absurd hb (by lia)

theorem snd_E (A : GAll G T) (XK : XOk X) (hE : SE G T X N) (hT : ST G T X N) (hEs : SEs G T X N) (hB : ∀ M, M < N → ∀ X', XOk X' → SSs G T X' M) : SE G T X (N + 1) := by
  intro c m e h ds vs ρ σ
  cases c with
  | zero => cases h
  | succ c =>
  change stepKE (cxOf T X) (ck (cxOf T X) c).1 (ck (cxOf T X) c).2 m e = true at h
  have LE : ∀ {m e}, (ck (cxOf T X) c).1 m e = true → ∀ ds vs ρ σ, Tr G X (N + 1) ds vs (eval e X.env) (RV G) ρ σ ((run T N).E m ρ σ) := fun h ds vs ρ σ => (hE c _ _ h ds vs ρ σ).lift (Nat.le_succ N)
  have LT : ∀ {m e}, (ck (cxOf T X) c).2 m e = true → ∀ ds vs ρ σ, Tr G X (N + 1) ds vs (isTrue e X.env (eval e X.env)) RB ρ σ ((run T N).T m ρ σ) := fun h ds vs ρ σ => (hT c _ _ h ds vs ρ σ).lift (Nat.le_succ N)
  have LEs : ∀ {l es pos}, chkL (ck (cxOf T X) c).1 l es = true → ∀ ds vs ρ σ, Tr G X (N + 1) ds vs (spliced (backTo pos (starEach es X.env))) (RVs G) ρ σ ((run T N).Es l ρ σ) := fun h ds vs ρ σ => (hEs c _ _ _ h ds vs ρ σ).lift (Nat.le_succ N)
  cases m with
  | var i =>
    dsimp only [stepKE] at h
    obtain ⟨⟨⟨x, _⟩, hz⟩, h1⟩ := wName_of h
    clear h
    subst hz
    exact tr_var XK.kind (beq_iff_eq.mp (al (al h1))) (isLocal_of (ar (al h1))) (dbg_of (ar h1))
  | gl k =>
    dsimp only [stepKE] at h
    obtain ⟨⟨⟨x, _⟩, hz⟩, h1⟩ := wName_of h
    clear h
    subst hz
    obtain ⟨⟨y, v⟩, q, h4⟩ := wS_of (ar h1)
    have : y = x := beq_iff_eq.mp h4
    subst this
    show Tr G X (N + 1) ds vs _ (RV G) ρ σ (match T.CT[k]? with
        | some (_, v) => some (.ok v, ρ, σ)
        | none => none)
    rw [show T.CT[k]? = _ from q]
    exact snd_gl A XK q (al (al h1)) (ar (al h1))
  | lit v =>
    dsimp only [stepKE] at h
    obtain ⟨⟨⟨c1, _, _⟩, hz⟩, h1⟩ := wCst_of h
    clear h
    subst hz
    exact tr_const h1
  | not a => cases h
  | neg a =>
    dsimp only [stepKE] at h
    obtain ⟨⟨⟨r, _⟩, hz⟩, h1⟩ := wNeg_of h
    clear h
    subst hz
    exact tr_neg (LE h1 ds vs ρ σ)
  | bin o a b =>
    dsimp only [stepKE] at h
    obtain ⟨⟨⟨l, op, r, _⟩, hz⟩, h1⟩ := wBin_of h
    clear h
    subst hz
    cases of_decide_eq_true (al (al h1))
    exact tr_bin (LE (ar (al h1)) ds vs ρ σ) (LE (ar h1))
  | cmp o a b =>
    dsimp only [stepKE] at h
    obtain ⟨l, r, p, rfl, h2, h3, h4⟩ := kCmp_of h
    exact tr_Compare1 A.F.pr h2 (LE h3 ds vs ρ σ) (LE h4)
  | cmp2 o1 o2 a b d =>
    dsimp only [stepKE] at h
    obtain ⟨l, r1, r2, p, rfl, h2, h3, h4, h5⟩ := kCmp2_of h
    exact tr_Compare2 A.F.pr h2 (LE h3 ds vs ρ σ) (LE h4) (LE h5)
  | andL l =>
    dsimp only [stepKE] at h
    obtain ⟨⟨⟨es, pos⟩, hz⟩, h3⟩ := wAnd_of h
    clear h
    subst hz
    cases l with
    | nil => trivial
    | cons m l => cases es with
      | nil => cases h3
      | cons e1 es =>
        cases l with
        | nil => cases es with
          | cons _ _ => cases (ar h3 : false = true)
          | nil =>
            have e : eval (.BoolOp .And [e1] pos) X.env = eval e1 X.env := by with_unfolding_all rfl
            rw [e]
            exact LE (al h3) ds vs ρ σ
        | cons m2 r => cases es with
          | nil => cases (ar h3 : false = true)
          | cons e2 rest =>
            exact tr_and (LE (al h3) ds vs ρ σ) fun ds vs ρ σ => (hE (c + 1) (.andL (m2 :: r)) (.BoolOp .And (e2 :: rest) pos) (ar h3) ds vs ρ σ).lift (Nat.le_succ N)
  | orL l =>
    dsimp only [stepKE] at h
    obtain ⟨⟨⟨es, pos⟩, hz⟩, h3⟩ := wOr_of h
    clear h
    subst hz
    cases l with
    | nil => trivial
    | cons m l => cases es with
      | nil => cases h3
      | cons e1 es =>
        cases l with
        | nil => cases es with
          | cons _ _ => cases (ar h3 : false = true)
          | nil =>
            have e : eval (.BoolOp .Or [e1] pos) X.env = eval e1 X.env := by with_unfolding_all rfl
            rw [e]
            exact LE (al h3) ds vs ρ σ
        | cons m2 r => cases es with
          | nil => cases (ar h3 : false = true)
          | cons e2 rest =>
            exact tr_or (LE (al h3) ds vs ρ σ) fun ds vs ρ σ => (hE (c + 1) (.orL (m2 :: r)) (.BoolOp .Or (e2 :: rest) pos) (ar h3) ds vs ρ σ).lift (Nat.le_succ N)
  | ite t a b =>
    dsimp only [stepKE] at h
    obtain ⟨⟨⟨e1, e2, e3, _⟩, hz⟩, h1⟩ := wIf_of h
    clear h
    subst hz
    exact tr_IfExp (LT (al (al h1)) ds vs ρ σ) (fun ρ σ => LE (ar (al h1)) ds vs ρ σ) fun ρ σ => LE (ar h1) ds vs ρ σ
  | tup l =>
    dsimp only [stepKE] at h
    obtain ⟨⟨⟨es, _, _⟩, hz⟩, h1⟩ := wTup_of h
    clear h
    subst hz
    exact tr_tuple (LEs h1 ds vs ρ σ)
  | lstF l =>
    dsimp only [stepKE] at h
    obtain ⟨⟨⟨es, _⟩, hz⟩, h1⟩ := wLst_of h
    clear h
    subst hz
    exact tr_listF (LEs h1 ds vs ρ σ)
  | lstM l =>
    dsimp only [stepKE] at h
    obtain ⟨⟨⟨es, _⟩, hz⟩, h1⟩ := wLst_of h
    clear h
    subst hz
    exact tr_listM (LEs h1 ds vs ρ σ)
  | idx a i =>
    dsimp only [stepKE] at h
    obtain ⟨⟨⟨v, s, _⟩, hz⟩, h1⟩ := wSub_of h
    clear h
    subst hz
    exact tr_subscript A.F.pr A.F.pw (al (al h1)) (LE (ar (al h1)) ds vs ρ σ) (LE (ar h1))
  | slc a lo hi =>
    dsimp only [stepKE] at h
    obtain ⟨⟨⟨v, l, r, _, _⟩, hz⟩, h1⟩ := wSlc_of h
    clear h
    subst hz
    have part : ∀ {x : Option ME} {y : Option Expr}, chkO (ck (cxOf T X) c).1 x y = true → ∀ ds vs ρ σ, TrW G X (N + 1) ds vs (tree G (evalPart y X.env)) RO ρ σ (optO x (run T N).E ρ σ) := by
      intro x y hx ds vs ρ σ
      cases x with
      | none => cases y with
        | none => exact tr_part_none
        | some _ => cases hx
      | some m => cases y with
        | none => cases hx
        | some e => exact tr_part_some (LE hx ds vs ρ σ)
    exact tr_slice (LE (al (al h1)) ds vs ρ σ) (part (ar (al h1))) (part (ar h1))
  | call f l =>
    dsimp only [stepKE] at h
    obtain ⟨fd, hfd, h0⟩ := wS_of h
    clear h
    obtain ⟨⟨⟨x, es, p, pos⟩, hz⟩, h9⟩ := wCall_of h0
    clear h0
    subst hz
    have h1 := ar (al (al h9))
    have h2 := ar (al h9)
    have h3 := ar h9
    have h4 := eqS (al (al (al h9)))
    clear h9
    subst h4
    obtain ⟨d, hd, ok, c', hck⟩ := A.D f fd hfd
    cases N with
    | zero => trivial
    | succ M =>
      have e : ∀ vs σ, (run T (M + 1)).C f vs σ = callO fd ((run T M).Ss fd.body) vs σ := fun vs σ => by
        show (match T.FT[f]? with
          | none => none
          | some fd => callO fd ((run T M).Ss fd.body) vs σ) = _
        rw [show T.FT[f]? = some fd from hfd]
      show Tr G X (M + 1 + 1) ds vs _ (RV G) ρ σ (bindO ((run T (M + 1)).Es l ρ σ) fun vs ρ σ => ((run T (M + 1)).C f vs σ).map fun x => (x.1, ρ, x.2))
      simp only [e]
      refine TrW.lift (n := M + 1) (tr_def A.F ok hd (fun X' e1 e2 e3 ρ σ => ?_) XK.kind (isGl_of h1) (dbg_of h2) (chkL_plain h3) (hEs c l es pos h3 ds vs ρ σ)) (Nat.le_succ _)
      refine hB M (Nat.lt_succ_self M) X' ⟨by rw [e2]; exact ok.kind, by rw [e3]; exact ok.nodup⟩ c' fd.body d.body ?_ [] [] ρ σ
      show chkB (ckS ⟨T, X'.sc, X'.ns⟩ c') fd.body d.body = true
      rw [e2, e3]; exact hck
  | mk l =>
    dsimp only [stepKE] at h
    obtain ⟨e, es, p, pos, rfl, h1, h2, h3⟩ := cCallN_of h
    exact tr_mk A.F A.M XK.kind (isGl_of h1) (chkL_plain h3) (LEs h3 ds vs ρ σ)
  | bi b l =>
    dsimp only [stepKE] at h
    obtain ⟨⟨x, v⟩, hv, h0⟩ := wS_of (ar h)
    have hb : b < 4 := of_decide_eq_true (al h)
    clear h
    obtain ⟨e, es, p, pos, rfl, h1, h2, h3⟩ := cCallN_of h0
    clear h0
    obtain ⟨id, rfl⟩ := biTab_is hb hv
    exact tr_bi A.F XK.kind (isGl_of h1) (dbg_of h2) hv (chkL_plain h3) (LEs h3 ds vs ρ σ)
  | app a x =>
    dsimp only [stepKE] at h
    obtain ⟨o, ap, av, pos, rfl, h1, h2, h3, h4, h5⟩ := cMeth1_of h
    exact tr_append h1 h2 h3 (LE h4 ds vs ρ σ) (LE h5)
  | ext a x =>
    dsimp only [stepKE] at h
    obtain ⟨o, ap, av, pos, rfl, h1, h2, h3, h4, h5⟩ := cMeth1_of h
    exact tr_extend h1 h2 h3 (LE h4 ds vs ρ σ) (LE h5)
  | pop a =>
    dsimp only [stepKE] at h
    obtain ⟨⟨⟨o, nm, ap, pos⟩, hz⟩, h1⟩ := wMet0_of h
    clear h
    subst hz
    cases eqS (al (al (al h1)))
    exact tr_pop (ar (al (al h1))) (ar (al h1)) (LE (ar h1) ds vs ρ σ)
  | meth k a l =>
    dsimp only [stepKE] at h
    obtain ⟨⟨x, id⟩, hv, h0⟩ := wS_of (ar h)
    obtain ⟨z, h0⟩ := wMetS_of h0
    rw [z.2]
    exact meth_fin (of_decide_eq_true (al h)) hv (eqS (al (al (al (al (al h0)))))) (ar (al (al (al (al h0))))) (ar (al (al (al h0)))) (of_decide_eq_true (ar (al (al h0)))) (chkL_plain (ar h0)) (LE (ar (al h0)) ds vs ρ σ) (LEs (ar h0))
  | attr a k =>
    dsimp only [stepKE] at h
    obtain ⟨⟨⟨v, x, _⟩, hz⟩, h1⟩ := wAttr_of h
    clear h
    subst hz
    exact tr_attr A.M.toGL (beq_iff_eq.mp (al (al h1))) (LE (ar h1) ds vs ρ σ) (eval_attr (ar (al h1)))
  | jug i k =>
    dsimp only [stepKE] at h
    obtain ⟨z, h0⟩ := wJug_of h
    rw [z.2]
    exact jug_fin A XK (eqS (al (al (al (al (al (al h0))))))) (eqS (ar (al (al (al (al (al h0))))))) (of_decide_eq_true (ar (al (al (al (al h0)))))) (of_decide_eq_true (ar (al (al (al h0))))) (beq_iff_eq.mp (ar (al (al h0)))) (ar (al h0)) (ar h0)
  | capj a =>
    dsimp only [stepKE] at h
    obtain ⟨z, h0⟩ := wCapj_of h
    rw [z.2]
    exact capj_fin A (eqS (al (al (al (al (al (al (al (al h0))))))))) (eqS (ar (al (al (al (al (al (al (al h0))))))))) (of_decide_eq_true (ar (al (al (al (al (al (al h0)))))))) (ar (al (al (al (al (al h0)))))) (isCap_of (ar (al (al (al (al h0)))))) (ar (al (al (al h0)))) (ar (al (al h0))) (ar (al h0)) (LE (ar h0))
  | chrs a b =>
    dsimp only [stepKE] at h
    obtain ⟨z, h0⟩ := wChrs_of h
    rw [z.2]
    exact chrs_fin A XK (eqS (al (al (al (al (al (al (al (al (al (al h0))))))))))) (eqS (ar (al (al (al (al (al (al (al (al (al h0))))))))))) (eqS (ar (al (al (al (al (al (al (al (al h0)))))))))) (of_decide_eq_true (ar (al (al (al (al (al (al (al h0))))))))) (ar (al (al (al (al (al (al h0))))))) (ar (al (al (al (al (al h0)))))) (ar (al (al (al (al h0))))) (ar (al (al (al h0)))) (ar (al (al h0))) (LE (ar (al h0)) ds vs ρ σ) (LE (ar h0))
  | bad => trivial
end
end Mine

end

section
set_option genInjectivity false
open PySem PySem.W PyProof.Rows
set_option maxRecDepth 100000
set_option maxHeartbeats 4000000
namespace Mine

section
variable {G : Gx} {T : Tab} {X : Fx} {N : Nat}

theorem plain_test {e : Expr} (h : plainTest e = true) {env : Env} : ∀ w, isTrue e env w = (do let v ← w; standAt e.pos; holding [v] (truthy v)) := by
  cases e with
  | UnaryOp op e pos => cases op <;> first | exact fun w => rfl | cases h
  | _ => first | exact fun w => rfl | cases h

theorem snd_T (A : GAll G T) (XK : XOk X) (hE : SE G T X N) (hT : ST G T X N) : ST G T X (N + 1) := by
  intro c m e h ds vs ρ σ
  cases c with
  | zero => cases h
  | succ c =>
  change stepKT (ck (cxOf T X) c).1 (ck (cxOf T X) c).2 m e = true at h
  have LE : ∀ {m e}, (ck (cxOf T X) c).1 m e = true → ∀ ds vs ρ σ, Tr G X (N + 1) ds vs (eval e X.env) (RV G) ρ σ ((run T N).E m ρ σ) := fun h ds vs ρ σ => (hE c _ _ h ds vs ρ σ).lift (Nat.le_succ N)
  have LT : ∀ {m e}, (ck (cxOf T X) c).2 m e = true → ∀ ds vs ρ σ, Tr G X (N + 1) ds vs (isTrue e X.env (eval e X.env)) RB ρ σ ((run T N).T m ρ σ) := fun h ds vs ρ σ => (hT c _ _ h ds vs ρ σ).lift (Nat.le_succ N)
  have plain : ∀ {m e}, (plainTest e && (ck (cxOf T X) c).1 m e) = true → Tr G X (N + 1) ds vs (isTrue e X.env (eval e X.env)) RB ρ σ (bindO ((run T N).E m ρ σ) fun v ρ σ => retO ρ σ (truthyV v)) := fun h => by
    obtain ⟨h1, h2⟩ := Bool.and_eq_true_iff.mp h
    exact tr_isPlain (plain_test h1) (LE h2 ds vs ρ σ)
  cases m with
  | not a =>
    dsimp only [stepKT] at h
    obtain ⟨z, h1⟩ := wNot_of h
    rw [z.2]
    exact tr_isNot (LT h1 ds vs ρ σ)
  | andL l =>
    dsimp only [stepKT] at h
    obtain ⟨⟨⟨es, pos⟩, hz⟩, h1⟩ := wAnd_of h
    clear h
    subst hz
    cases l with
    | nil => cases es with
      | nil => exact tr_isAndNil
      | cons _ _ => cases h1
    | cons m l => cases es with
      | nil => cases h1
      | cons e1 es => exact tr_isAnd (LT (al h1) ds vs ρ σ) fun ρ σ => (hT (c + 1) (.andL l) (.BoolOp .And es pos) (ar h1) ds vs ρ σ).lift (Nat.le_succ N)
  | orL l =>
    dsimp only [stepKT] at h
    obtain ⟨⟨⟨es, pos⟩, hz⟩, h1⟩ := wOr_of h
    clear h
    subst hz
    cases l with
    | nil => cases es with
      | nil => exact tr_isOrNil
      | cons _ _ => cases h1
    | cons m l => cases es with
      | nil => cases h1
      | cons e1 es => exact tr_isOr (LT (al h1) ds vs ρ σ) fun ρ σ => (hT (c + 1) (.orL l) (.BoolOp .Or es pos) (ar h1) ds vs ρ σ).lift (Nat.le_succ N)
  | ite t a b =>
    dsimp only [stepKT] at h
    obtain ⟨z, h1⟩ := wIf_of h
    rw [z.2]
    exact tr_isIf (LT (al (al h1)) ds vs ρ σ) (fun ρ σ => LT (ar (al h1)) ds vs ρ σ) fun ρ σ => LT (ar h1) ds vs ρ σ
  | cmp o a b =>
    dsimp only [stepKT] at h
    obtain ⟨l, r, p, rfl, h2, h3, h4⟩ := kCmp_of h
    exact tr_testCompare1 A.F.pr h2 (LE h3 ds vs ρ σ) (LE h4)
  | cmp2 o1 o2 a b d =>
    dsimp only [stepKT] at h
    obtain ⟨l, r1, r2, p, rfl, h2, h3, h4, h5⟩ := kCmp2_of h
    exact tr_testCompare2 A.F.pr h2 (LE h3 ds vs ρ σ) (LE h4) (LE h5)
  | _ => exact plain h

theorem snd_Ss (hS : SS G T X N) (hSs : SSs G T X N) : SSs G T X (N + 1) := by
  intro c l ss h ds vs ρ σ
  cases l with
  | nil => cases ss with
    | nil => exact tr_stmts_nil
    | cons _ _ => cases h
  | cons m l => cases ss with
    | nil => cases h
    | cons s ss =>
      obtain ⟨h1, h2⟩ := Bool.and_eq_true_iff.mp h
      exact tr_stmts_cons ((hS c m s h1 ds vs ρ σ).lift (Nat.le_succ N)) fun ρ σ => (hSs c l ss h2 ds vs ρ σ).lift (Nat.le_succ N)

theorem namesOk_of {cx : Cx} {names : List Str} {l : List Nat} (h : namesOk cx names l = true) : names.length = l.length ∧ ∀ p ∈ names.zip l, cx.ns[p.2]? = some p.1 ∧ cx.sc.names.lookup p.1 = some .local := by
  unfold namesOk at h
  simp only [Bool.and_eq_true, beq_iff_eq, List.all_eq_true] at h
  exact ⟨h.1, fun p hp => ⟨(h.2 p hp).1, isLocal_of (h.2 p hp).2⟩⟩

theorem asgT_fin {ds : List V} {vs : List Value} {ρ : Loc} {σ : Mem} {l : List Nat} {elts : List Expr} {n : Nat} {tp pos : Pos} {value : Expr} {o : Out V} (XK : XOk X)
    (h1 : tgts X.sc X.ns elts l = true) (h2 : notComp value = true) (h3 : swapOk (cxOf T X) elts l value = true) (h4 : Tr G X N ds vs (eval value X.env) (RV G) ρ σ o) :
    Tr G X N ds vs (exec (.Assign [.Tuple elts n tp] value pos) X.env) (RF G) ρ σ (bindO o fun v ρ σ => asgTO l v ρ σ) := by
  rcases Bool.or_eq_true_iff.mp h3 with q | q
  · refine tr_asgT XK.kind XK.nodup h1 h2 ?_ h4
    cases value <;> first | rfl | cases q
  · obtain ⟨⟨⟨es, k2, p2⟩, hz⟩, q1⟩ := wTup_of q
    clear q h3
    subst hz
    obtain ⟨w, q2, q3⟩ := wS_of q1
    cases w with
    | none => exact tr_asgT XK.kind XK.nodup h1 h2 (swap_of XK.kind q2) h4
    | some names =>
      obtain ⟨z1, z2⟩ := namesOk_of q3
      exact tr_asgS XK.kind XK.nodup h1 h2 z1 z2 (swap_of XK.kind q2) h4
theorem augJ_fin {ds : List V} {vs : List Value} {ρ : Loc} {σ : Mem} (A : GAll G T) (XK : XOk X) {i : Nat} {k k' : Int} {op : Operator} {x c : Str} {p1 p2 p3 p4 pos : Pos} {q1 q2 : Nat}
    (r1 : op = .Add) (r2 : c = sCount) (r3 : k' = k) (h1 : X.ns[i]? = some x) (h2 : isLocal X.sc x = true) (h3 : notDbg x = true) :
    Tr G X N ds vs (exec (.AugAssign (.Subscript (.Name x p1) (.Constant (.str c) q1 p2) p3) op (.Constant (.int k') q2 p4) pos) X.env) (RF G) ρ σ (augJO i k ρ σ) := by
  subst r1 r2 r3
  exact tr_augJ A.F XK.kind h1 (isLocal_of h2) (dbg_of h3)
theorem snd_S (A : GAll G T) (XK : XOk X) (hA : ∀ j, j ≤ N → SE G T X j ∧ ST G T X j ∧ SEs G T X j ∧ SS G T X j ∧ SSs G T X j) : SS G T X (N + 1) := by
  intro c m s h ds vs ρ σ
  cases c with
  | zero => cases h
  | succ c =>
  obtain ⟨hE, hT, hEs, hS, hSs⟩ := hA N (Nat.le_refl N)
  change stepKS (cxOf T X) (ck (cxOf T X) c).1 (ck (cxOf T X) c).2 (ckS (cxOf T X) c) m s = true at h
  have LE : ∀ {m e}, (ck (cxOf T X) c).1 m e = true → ∀ ds vs ρ σ, Tr G X (N + 1) ds vs (eval e X.env) (RV G) ρ σ ((run T N).E m ρ σ) := fun h ds vs ρ σ => (hE c _ _ h ds vs ρ σ).lift (Nat.le_succ N)
  have LT : ∀ {m e}, (ck (cxOf T X) c).2 m e = true → ∀ ds vs ρ σ, Tr G X (N + 1) ds vs (isTrue e X.env (eval e X.env)) RB ρ σ ((run T N).T m ρ σ) := fun h ds vs ρ σ => (hT c _ _ h ds vs ρ σ).lift (Nat.le_succ N)
  have LEs : ∀ {l es pos}, chkL (ck (cxOf T X) c).1 l es = true → ∀ ds vs ρ σ, Tr G X (N + 1) ds vs (spliced (backTo pos (starEach es X.env))) (RVs G) ρ σ ((run T N).Es l ρ σ) := fun h ds vs ρ σ => (hEs c _ _ _ h ds vs ρ σ).lift (Nat.le_succ N)
  have LSs : ∀ {l ss}, chkB (ckS (cxOf T X) c) l ss = true → ∀ ds vs ρ σ, Tr G X (N + 1) ds vs (execs ss X.env) (RF G) ρ σ ((run T N).Ss l ρ σ) := fun h ds vs ρ σ => (hSs c _ _ h ds vs ρ σ).lift (Nat.le_succ N)
  cases m with
  | asg i e =>
    dsimp only [stepKS] at h
    obtain ⟨z, h1⟩ := wAsg_of h
    rw [z.2]
    exact tr_asg XK.kind (beq_iff_eq.mp (al (al (al h1)))) (isLocal_of (ar (al (al h1)))) XK.nodup (ar (al h1)) (LE (ar h1) ds vs ρ σ)
  | asgT l e =>
    dsimp only [stepKS] at h
    obtain ⟨z, h1⟩ := wAsgT_of h
    rw [z.2]
    exact asgT_fin (T := T) XK (al (al (al h1))) (ar (al (al h1))) (ar (al h1)) (LE (ar h1) ds vs ρ σ)
  | aug i o e =>
    dsimp only [stepKS] at h
    obtain ⟨z, h1⟩ := wAug_of h
    rw [z.2, of_decide_eq_true (ar (al h1))]
    exact tr_aug XK.kind (beq_iff_eq.mp (al (al (al h1)))) (isLocal_of (ar (al (al h1)))) XK.nodup fun ds vs => LE (ar h1) ds vs ρ σ
  | augJ i k =>
    dsimp only [stepKS] at h
    obtain ⟨z, h1⟩ := wAugJ_of h
    rw [z.2]
    exact augJ_fin A XK (of_decide_eq_true (al (al (al (al (al h1)))))) (eqS (ar (al (al (al (al h1)))))) (of_decide_eq_true (ar (al (al (al h1))))) (beq_iff_eq.mp (ar (al (al h1)))) (ar (al h1)) (ar h1)
  | expr e =>
    dsimp only [stepKS] at h
    obtain ⟨z, h1⟩ := wXp_of h
    rw [z.2]
    exact tr_expr XK.kind (al h1) (LE (ar h1) ds vs ρ σ)
  | ife t a b =>
    dsimp only [stepKS] at h
    obtain ⟨z, h1⟩ := wIfS_of h
    rw [z.2]
    exact tr_ife (LT (al (al h1)) ds vs ρ σ) (fun ρ σ => LSs (ar (al h1)) ds vs ρ σ) fun ρ σ => LSs (ar h1) ds vs ρ σ
  | whl t b =>
    dsimp only [stepKS] at h
    obtain ⟨z, h1⟩ := wWhl_of h
    rw [z.2]
    exact tr_while (f := fun j => (run T j).T t) (g := fun j => (run T j).Ss b) (W := fun j => (run T j).S (.whl t b)) (fun ρ σ => rfl) (fun j ρ σ => rfl) (N + 1)
        (fun j hj ρ σ => ((hA j (by lia)).2.1 c t _ (al h1) [] [] ρ σ).lift (by lia)) (fun j hj ρ σ => ((hA j (by lia)).2.2.2.2 c b _ (ar h1) [] [] ρ σ).lift (by lia))
  | forR i e b =>
    dsimp only [stepKS] at h
    obtain ⟨z, h1⟩ := wFor_of h
    rw [z.2, eqS (ar (al (al (al (al h1)))))]
    exact tr_for A.F XK.kind (beq_iff_eq.mp (al (al (al (al (al (al h1))))))) (isLocal_of (ar (al (al (al (al (al h1))))))) XK.nodup (isGl_of (ar (al (al (al h1))))) (ar (al (al h1))) (LE (ar (al h1)) ds vs ρ σ) fun ρ σ => LSs (ar h1) [] [] ρ σ
  | ret e =>
    dsimp only [stepKS] at h
    obtain ⟨z, h1⟩ := wRet_of h
    rw [z.2]
    exact tr_ret (LE h1 ds vs ρ σ)
  | raise a l =>
    dsimp only [stepKS] at h
    obtain ⟨z, h1⟩ := wRai_of h
    rw [z.2, eqS (al (al h1))]
    obtain ⟨fd, qn, cda, cc, Nn, ar', Z⟩ := A.Z
    exact tr_raise A.F A.M.K Z XK.kind (isGl_of (ar (al h1))) (chkL_plain (ar h1)) (LEs (ar h1) ds vs ρ σ)
  | tryC b =>
    dsimp only [stepKS] at h
    obtain ⟨z, h1⟩ := wTry_of h
    rw [z.2, eqS (al (al (al (al (al (al h1)))))), eqS (ar (al (al (al (al h1))))), eqS (ar (al (al (al h1))))]
    obtain ⟨fd, qn, cda, cc, Nn, ar', Z⟩ := A.Z
    exact tr_tryC A.F A.M.K Z XK.kind (isGl_of (ar (al (al (al (al (al h1))))))) (isLocal_of (ar (al (al h1)))) (dbg_of (ar (al h1))) (eval_attr rfl) (LSs (ar h1) ds vs ρ σ)
  | bad => trivial

theorem snd (A : GAll G T) : ∀ N, ∀ X, XOk X → SE G T X N ∧ ST G T X N ∧ SEs G T X N ∧ SS G T X N ∧ SSs G T X N := by
  intro N
  induction N using Nat.strongRecOn with
  | _ N ih =>
    intro X XK
    cases N with
    | zero => exact ⟨fun _ _ _ _ _ _ _ _ => trivial, fun _ _ _ _ _ _ _ _ => trivial, fun _ _ _ _ _ _ _ _ _ => trivial, fun _ _ _ _ _ _ _ _ => trivial, fun _ _ _ _ _ _ _ _ => trivial⟩
    | succ N =>
      obtain ⟨hE, hT, hEs, hS, hSs⟩ := ih N (Nat.lt_succ_self N) X XK
      exact ⟨snd_E A XK hE hT hEs (fun M hM X' XK' => (ih M (by lia) X' XK').2.2.2.2), snd_T A XK hE hT, snd_Es hE hEs, snd_S A XK (fun j hj => ih j (by lia) X XK), snd_Ss hS hSs⟩
end
end Mine

end

section
set_option genInjectivity false
open PySem PySem.W PyProof.Rows
set_option maxRecDepth 100000
set_option maxHeartbeats 4000000
namespace Mine

theorem ints_rps {D : Dd} {h : Heap} {Y : Lay} : ∀ {vs : List Value} {ns : List Int}, IntsAre vs ns → Rps D h Y (ns.map .int) vs
  | _, _, .nil => .nil
  | _, _, .cons n t r => .cons (.int n t) (ints_rps r)

theorem join {G : Gx} {T : Tab} (A : GAll G T) {N c : Nat} {nm : Str} {sc : Scope} {body : List Stmt} {ns : List Str} {b : List MS}
    (hk : sc.kind = .function) (hn : ns.Nodup) (hc : chkB (ckS ⟨T, sc, ns⟩ c) b body = true)
    {L fa : Addr} {cd : Value} {s : Shared} {m : Str → Option Value} (F : Fr G.base L s.heap m)
    {x : Str} {a : Addr} (hx : ns[0]? = some x) (hm : m x = some (.ref a)) {vs : List Value} {is : List Int} (hL : G.base.IsList a vs.toArray) (hI : IntsAre vs is)
    {k : Nat} {ρ' : Loc} {σ' : Mem} (hrun : (run T N).Ss b (some (.lst (is.map .int)) :: List.replicate k none) [] = some (.ok (.ret (.bool true)), ρ', σ'))
    (hN : N ≤ 600) {Q : Flow → Shared → Prop} {E : Value → Shared → Prop}
    (hQ : ∀ h' tk m', Fr G.base L h' m' → Q (.ret (.bool true)) { s with heap := h', toks := tk }) :
    wpAny (model G.prog G.w) (callerA.deeper (envOf nm sc L fa cd)) (execs body (envOf nm sc L fa cd)) Q E s := by
  let X : Fx := ⟨nm, sc, L, fa, cd, [], ns⟩
  have XK : XOk X := ⟨hk, hn⟩
  have S := (snd A N X XK).2.2.2.2 c b body hc [] [] (some (.lst (is.map .int)) :: List.replicate k none) []
  rw [hrun] at S
  have hnew : G.base.get? L = none := Heap.get?_none_of_le F.above
  obtain ⟨oL, es, ep, hoL, hdL, _⟩ := id F.ns
  have hA : AOk X (callerA.deeper (envOf nm sc L fa cd)) N := by
    refine ⟨rfl, rfl, ?_, ?_⟩
    · show 1 + claimMargin + 1 + N + 20 < recursionLimit
      have : 1 + claimMargin + 1 + 600 + 20 < recursionLimit := by decide
      lia
    · show 4 + 3 + 8 * N + 200 < cLine
      have : 4 + 3 + 8 * 600 + 200 < cLine := by decide
      lia
  have hD : Dyn G X s.heap ⟨[], [L], []⟩ (some (.lst (is.map .int)) :: List.replicate k none) [] := by
    refine ⟨F.keep, ⟨?_, ⟨L, oL, rfl, hnew, hoL, fun vs q => by rw [hdL] at q; cases q⟩, trivial⟩, rfl, fun b hb => ?_, ⟨rfl, List.nodup_nil, (fun a ha => nomatch ha), (fun a ha => nomatch ha), fun i a c hi _ => by simp at hi⟩, (fun a ha => nomatch ha), m, F.ns, fun i v e => ?_⟩
    · show sc.kind ≠ .module
      rw [hk]; exact fun q => nomatch q
    · rw [List.mem_singleton.mp hb]; exact ⟨oL, es, ep, hoL, hdL⟩
    · cases i with
      | zero =>
        simp at e
        subst e
        obtain ⟨o, ho, r⟩ := hL
        exact ⟨x, _, hx, hm, .lst ⟨o, F.keep _ _ ho, r⟩ ⟨List.not_mem_nil, List.not_mem_nil⟩ (ints_rps hI)⟩
      | succ i =>
        rw [List.getElem?_cons_succ, List.getElem?_replicate] at e
        split at e <;> cases e
  refine S _ s ⟨[], [L], []⟩ Q E hA hD .nil fun h' tk Y' st D' => ⟨fun f e w hw => ?_, fun c e => nomatch e⟩
  cases e
  obtain ⟨m', hm', _⟩ := D'.loc
  cases w <;> cases hw
  exact hQ h' tk m' ⟨hm', D'.stays, F.above⟩
end Mine

end

section
set_option genInjectivity false
open PySem PySem.W PyProof.Rows
set_option maxRecDepth 100000
set_option maxHeartbeats 8000000
namespace Mine

theorem cells_of {l : List (Str × NameKind)} (h : (l.all fun x => !decide (x.2 = .cell)) = true) : ∀ x ∈ l, x.2 ≠ .cell := fun x hx q => by
  have := List.all_eq_true.mp h x hx
  rw [q] at this; cases this
theorem locs_of {names : List (Str × NameKind)} {l : List Str} (h : (l.all fun x => decide (names.lookup x = some .local)) = true) : ∀ x ∈ l, names.lookup x = some .local := fun x hx => of_decide_eq_true (List.all_eq_true.mp h x hx)
noncomputable def looseL : List Str := looseW vw [Str.ofString "BasicError", Str.ofString "PAIRS", Str.ofString "STRENGTH"]
noncomputable def theG (w : World) (mean : ExcName → Option Value) (mg mb : Str → Option Value) (base : Heap) : Gx :=
  ⟨PySem.Challenge.rw_pf0013_01.row.prog, w, base, K w.params, vw, looseL, mean, mg, mb, ⟨232, w.params, PySem.Challenge.rw_pf0013_01.row.prog, w⟩, 34, 229, 31⟩

section
variable (P : Params)
theorem f1 : nsIn (K P) mainGlobals "Level" = some (some (.ref 232)) := rfl
theorem f2 : nsIn (K P) mainGlobals "BasicError" = some (some (.ref 34)) := rfl
theorem f3 : (K P).lookup 229 = some ⟨.type "function", ((K P).lookup 229).get!.dict, ((K P).lookup 229).get!.data, ((K P).lookup 229).get!.slots⟩ := rfl
theorem f4 : keepIn (K P) (.ref 232) = true := rfl
theorem f5 : makesIn (K P) 232 = true := rfl
theorem f6 : findIn (K P) (.ref 232) "__init__" = some (some (.ref 229)) := rfl
theorem f7 : typeIn (K P) (.ref 229) = some (.type "function") := rfl
theorem f8 : findIn (K P) (.ref 232) "__setattr__" = some (some (.builtin "object.__setattr__")) := rfl
theorem f9 : plainOver (K P) 232 = true := rfl
theorem f10 : ∀ (k : Nat) (x : Str), attrTab[k]? = some x → takerIn (K P) 232 x = some none := fun k x h => by
  match k, h with
  | 0, h => cases h; rfl
  | 1, h => cases h; rfl
  | 2, h => cases h; rfl
  | 3, h => cases h; rfl
  | 4, h => cases h; rfl
theorem f11 : ∀ (k : Nat) (x : Str), attrTab[k]? = some x → plainGet (K P) 232 x = true ∧ findIn (K P) (.ref 232) x = some none := fun k x h => by
  match k, h with
  | 0, h => cases h; exact ⟨rfl, rfl⟩
  | 1, h => cases h; exact ⟨rfl, rfl⟩
  | 2, h => cases h; exact ⟨rfl, rfl⟩
  | 3, h => cases h; exact ⟨rfl, rfl⟩
  | 4, h => cases h; exact ⟨rfl, rfl⟩
theorem f12 : hasDictIn (K P) 232 = true := rfl
noncomputable def lvlFd : FuncData := match (K P).lookup 229 with
  | some ⟨_, _, .func fd, _⟩ => fd
  | _ => default
theorem f13 : ∃ o, (K P).lookup 229 = some o ∧ o.data = .func (lvlFd P) := ⟨_, rfl, rfl⟩
theorem f14 : codeIn (K P) (lvlFd P).code (lvlFd P).qualname = true := rfl
theorem f15 : LvlFn (lvlFd P) := ⟨⟨(_, _, _, _, _, _, _, _, _, _, _, _, _, _, _, _, _, _, _, _), rfl⟩, rfl, rfl, rfl, cells_of rfl, (by intro a b c; kernel_rfl), locs_of rfl⟩

noncomputable def excFd : FuncData := match (K P).lookup 31 with
  | some ⟨_, _, .func fd, _⟩ => fd
  | _ => default
theorem e1 : ∃ oc od osl, (K P).lookup 31 = some ⟨oc, od, .func (excFd P), osl⟩ := ⟨_, _, _, rfl⟩
theorem e2 (L : Addr) : callEnv (excFd P) L 31 = ksEnv (Str.ofString "BasicError.__init__") (excFd P).scope L 31 (.ref 30) 18 := rfl
theorem e3 : ∃ p : Pos × Pos × Pos × Pos × Pos × Pos × Pos × Pos × Pos × Pos × Pos × Pos × Pos × Pos, (excFd P).body = .stmts (excBody p.1 p.2.1 p.2.2.1 p.2.2.2.1 p.2.2.2.2.1 p.2.2.2.2.2.1 p.2.2.2.2.2.2.1 p.2.2.2.2.2.2.2.1 p.2.2.2.2.2.2.2.2.1 p.2.2.2.2.2.2.2.2.2.1 p.2.2.2.2.2.2.2.2.2.2.1 p.2.2.2.2.2.2.2.2.2.2.2.1 p.2.2.2.2.2.2.2.2.2.2.2.2.1 p.2.2.2.2.2.2.2.2.2.2.2.2.2) ∧
    ∃ pl : Env → Sem Bool, ∀ env : Env, eval (.Call (.Attribute (.Call (.Name (Str.ofString "super") p.1) [] [] p.2.1) (Str.ofString "__init__") p.2.2.1) [.Name sCode p.2.2.2.1] [] p.2.2.2.2.1) env = (do
      let ov ← attributeBase (.Call (.Name (Str.ofString "super") p.1) [] [] p.2.1) (Str.ofString "__init__") env (eval (.Call (.Name (Str.ofString "super") p.1) [] [] p.2.1) env)
      standAt p.2.2.1.atName
      let (f, first) ← holding [ov] (getMethod ov (Str.ofString "__init__") (pl env))
      callWith p.2.2.2.2.1 f first (backTo p.2.2.2.2.1 (starEach [.Name sCode p.2.2.2.1] env)) []) :=
  ⟨(_, _, _, _, _, _, _, _, _, _, _, _, _, _), rfl, _, fun env => by with_unfolding_all rfl⟩
theorem e4 : (excFd P).scope.kind = .function ∧ (excFd P).scope.isCoroutine = false ∧ (excFd P).scope.isGenerator = false := ⟨rfl, rfl, rfl⟩
theorem e5 : ∀ x ∈ (excFd P).scope.names, x.2 ≠ .cell := cells_of rfl
theorem e6 (s : Shared) (a b c : Value) (X : (K P).In s.heap) : BindsTo s (excFd P) ⟨[a, b, c], []⟩ [(sSelf, a), (sCode, b), (sTold, c)] := by
  exact BindsTo.of_defaults (rfl : (excFd P).defaults = _) (X _ _ rfl) rfl rfl rfl
theorem e7 : ∀ x ∈ [sSelf, sCode, sTold], (excFd P).scope.names.lookup x = some .local := locs_of rfl
theorem e8 : (excFd P).scope.names.lookup (Str.ofString "super") = some .globalImplicit := rfl
theorem e9 : (excFd P).scope.names.lookup (Str.ofString "__class__") = some .free := rfl
theorem e10 : codeIn (K P) (excFd P).code (excFd P).qualname = true := rfl
theorem e11 : ∃ ar, ((excFd P).params.posonlyargs ++ (excFd P).params.args).head? = some ar ∧ ar.arg = sSelf := ⟨_, rfl, rfl⟩
theorem e12 : ∃ ccl cdd vs ccs file tf, (K P).lookup 30 = some ⟨ccl, cdd, .fields vs, ccs⟩ ∧ vs[2]? = some (.str file tf) ∧ ((PySem.Challenge.rw_pf0013_01.row.prog.main.file : Str) == file) = true :=
  ⟨_, _, _, _, _, _, rfl, rfl, by kernel_rfl⟩
theorem e13 : ∃ cl cld csl, (K P).lookup 18 = some ⟨cl, cld, .cell (some (.ref 34)), csl⟩ := ⟨_, _, _, rfl⟩
theorem e14 : ∃ cd, clsIn (K P) 34 = some cd ∧ cd.mro = .ref 34 :: excMro := ⟨_, rfl, rfl⟩
theorem e15 : mroIn (K P) 34 (.ref 34) = some true := by kernel_rfl
theorem e16 : nsIn (K P) mainGlobals "super" = some none := by kernel_rfl
theorem e17 : (PySem.Challenge.rw_pf0013_01.row.prog.main.scope.names.lookup ("super" : Str)).isSome = false := by kernel_rfl
theorem e18 : bootBuiltins "super" = some (.type "super") := by first | boot_by_name | rfl | kernel_rfl
theorem e19 : ∃ k : Str × Str × (List Value) × (List Str) × (List Value) × Bool × (Option Bool) × (Option Addr) × (Option Value) × (Option Value) × (Option Value) × (Option Value) × (Option Value), (K P).lookup 34 = some (excClassObj k.1 k.2.1 34 33 (k.2.2.1) excMro true (k.2.2.2.1) (k.2.2.2.2.1) (k.2.2.2.2.2.1) (k.2.2.2.2.2.2.1) (k.2.2.2.2.2.2.2.1) (k.2.2.2.2.2.2.2.2.1) (k.2.2.2.2.2.2.2.2.2.1) (k.2.2.2.2.2.2.2.2.2.2.1) (k.2.2.2.2.2.2.2.2.2.2.2.1) (k.2.2.2.2.2.2.2.2.2.2.2.2) "Exception.__new__") :=
  ⟨(_, _, _, _, _, _, _, _, _, _, _, _, _), rfl⟩
theorem e20 : nsOkIn (K P) 33 = true := by kernel_rfl
theorem e21 : nsIn (K P) 33 "__setattr__" = some none ∧ nsIn (K P) 33 sCode = some none ∧ nsIn (K P) 33 sTold = some none ∧ nsIn (K P) 33 "__getattribute__" = some none ∧ nsIn (K P) 33 "__getattr__" = some none := ⟨rfl, rfl, rfl, rfl, rfl⟩
theorem e22 : findIn (K P) (.ref 34) "__init__" = some (some (.ref 31)) := by kernel_rfl
theorem e23 : typeIn (K P) (.ref 31) = some (.type "function") := by kernel_rfl
theorem e24 : alongIn (K P) "__init__" excMro = some (some (.builtin "Exception.__init__")) := by kernel_rfl
theorem e25 : nsIn (K P) cStatics "thirdparty.any" = some none := by kernel_rfl
theorem e26 : keepIn (K P) (.ref 34) = true := by kernel_rfl
end
theorem e27 : typeLookup (.type "Exception") sCode = pure none := by rw [typeLookup_type, builtinLookup_eq_fast]; kernel_rfl
theorem e28 : typeLookup (.type "Exception") sTold = pure none := by rw [typeLookup_type, builtinLookup_eq_fast]; kernel_rfl
end Mine

end

section
set_option genInjectivity false
open PySem PySem.W PyProof.Rows
set_option maxRecDepth 100000
set_option maxHeartbeats 8000000
namespace Mine

noncomputable def dOf (fd : FD) : DefRec := match (recsOf vw).find? (fun d => d.name == fd.name) with
  | some d => d
  | none => ⟨fd.name, ⟨[], [], none, [], [], none, []⟩, [], ⟨.function, [], false, false, []⟩, ⟨0, 0, 0, 0⟩⟩
noncomputable def isSomeD (fd : FD) : Bool := ((recsOf vw).find? (fun d => d.name == fd.name)).isSome
noncomputable def okD (d : DefRec) (fd : FD) : Bool :=
  decide (d.name = fd.name) && decide (d.scope.kind = .function) && !d.scope.isCoroutine && !d.scope.isGenerator && (d.scope.names.all fun x => !decide (x.2 = .cell)) &&
  decide (d.params.args.map (·.arg) = fd.ns.take fd.np) && decide (fd.np ≤ fd.ns.length) && decide fd.ns.Nodup && (fd.ns.all fun x => decide (d.scope.names.lookup x = some .local)) && chkB (ckS ⟨theTab, d.scope, fd.ns⟩ 40) fd.body d.body
noncomputable def BindOk (d : DefRec) (np : Nat) : Prop := ∀ (pm cd doc : Value) (args : List Value), args.length = np → bindArgs (Calls.docDef d.name d.params d.body d.scope pm cd doc) ⟨args, []⟩ = pure ((d.params.args.map (·.arg)).zip args)
theorem mkD {fd : FD} (h1 : isSomeD fd = true) (h2 : okD (dOf fd) fd = true) (h3 : BindOk (dOf fd) fd.np) : ∃ d ∈ recsOf vw, DefOk d fd ∧ ∃ c, chkB (ckS ⟨theTab, d.scope, fd.ns⟩ c) fd.body d.body = true := by
  refine ⟨dOf fd, ?_, ?_, 40, ?_⟩
  · unfold dOf
    unfold isSomeD at h1
    obtain ⟨d, hd⟩ := Option.isSome_iff_exists.mp h1
    rw [hd]
    exact List.mem_of_find?_eq_some hd
  · unfold okD at h2
    simp only [Bool.and_eq_true, decide_eq_true_eq, Bool.not_eq_true'] at h2
    obtain ⟨⟨⟨⟨⟨⟨⟨⟨⟨a1, a2⟩, a3⟩, a4⟩, a5⟩, a6⟩, a7⟩, a8⟩, a9⟩, _⟩ := h2
    exact ⟨a1, a2, a3, a4, cells_of (by simpa only [decide_not] using a5), h3, a6, a7, a8, locs_of a9⟩
  · unfold okD at h2
    simp only [Bool.and_eq_true] at h2
    exact h2.2
theorem lcons {n : Nat} {l : List Value} (h : l.length = n + 1) : ∃ a r, l = a :: r ∧ r.length = n := by
  cases l with
  | nil => cases h
  | cons a r => exact ⟨a, r, rfl, Nat.succ.inj h⟩
theorem upTo {P : Nat → Prop} {n : Nat} (h : ∀ i, i < n → P i) (x : P n) : ∀ i, i < n + 1 → P i := fun i hi => (Nat.lt_succ_iff_lt_or_eq.mp hi).elim (h i) fun e => e ▸ x
theorem upTo0 {P : Nat → Prop} : ∀ i, i < 0 → P i := fun i hi => absurd hi (Nat.not_lt_zero i)
theorem bind0 {d : DefRec} {k : Nat} (hk : k = 0) (h : ∀ pm cd doc : Value, bindArgs (Calls.docDef d.name d.params d.body d.scope pm cd doc) ⟨[], []⟩ = pure ((d.params.args.map (·.arg)).zip [])) : BindOk d k := fun pm cd doc args hl => by
  subst hk
  cases args with
  | nil => exact h pm cd doc
  | cons _ _ => cases hl
theorem bind1 {d : DefRec} {k : Nat} (hk : k = 1) (h : ∀ pm cd doc a : Value, bindArgs (Calls.docDef d.name d.params d.body d.scope pm cd doc) ⟨[a], []⟩ = pure ((d.params.args.map (·.arg)).zip [a])) : BindOk d k := fun pm cd doc args hl => by
  subst hk
  obtain ⟨a, l1, e1, h1⟩ := lcons hl
  cases List.eq_nil_of_length_eq_zero h1
  rw [e1]
  exact h pm cd doc a
theorem bind2 {d : DefRec} {k : Nat} (hk : k = 2) (h : ∀ pm cd doc a b : Value, bindArgs (Calls.docDef d.name d.params d.body d.scope pm cd doc) ⟨[a, b], []⟩ = pure ((d.params.args.map (·.arg)).zip [a, b])) : BindOk d k := fun pm cd doc args hl => by
  subst hk
  obtain ⟨a, l1, e1, h1⟩ := lcons hl
  obtain ⟨b, l2, e2, h2⟩ := lcons h1
  cases List.eq_nil_of_length_eq_zero h2
  rw [e1, e2]
  exact h pm cd doc a b
theorem bind3 {d : DefRec} {k : Nat} (hk : k = 3) (h : ∀ pm cd doc a b c : Value, bindArgs (Calls.docDef d.name d.params d.body d.scope pm cd doc) ⟨[a, b, c], []⟩ = pure ((d.params.args.map (·.arg)).zip [a, b, c])) : BindOk d k := fun pm cd doc args hl => by
  subst hk
  obtain ⟨a, l1, e1, h1⟩ := lcons hl
  obtain ⟨b, l2, e2, h2⟩ := lcons h1
  obtain ⟨c, l3, e3, h3⟩ := lcons h2
  cases List.eq_nil_of_length_eq_zero h3
  rw [e1, e2, e3]
  exact h pm cd doc a b c
theorem bind4 {d : DefRec} {k : Nat} (hk : k = 4) (h : ∀ pm cd doc a b c e : Value, bindArgs (Calls.docDef d.name d.params d.body d.scope pm cd doc) ⟨[a, b, c, e], []⟩ = pure ((d.params.args.map (·.arg)).zip [a, b, c, e])) : BindOk d k := fun pm cd doc args hl => by
  subst hk
  obtain ⟨a, l1, e1, h1⟩ := lcons hl
  obtain ⟨b, l2, e2, h2⟩ := lcons h1
  obtain ⟨c, l3, e3, h3⟩ := lcons h2
  obtain ⟨e, l4, e4, h4⟩ := lcons h3
  cases List.eq_nil_of_length_eq_zero h4
  rw [e1, e2, e3, e4]
  exact h pm cd doc a b c e
noncomputable def fdN (i : Nat) : FD := (fnTab[i]?).getD ⟨Str.ofString "", 0, [], []⟩
noncomputable abbrev GoodD (i : Nat) : Prop := ∃ d ∈ recsOf vw, DefOk d (fdN i) ∧ ∃ c, chkB (ckS ⟨theTab, d.scope, (fdN i).ns⟩ c) (fdN i).body d.body = true
theorem D0 : GoodD 0 := mkD (by kernel_rfl) (by kernel_rfl) (bind1 (by kernel_rfl) (by intro pm cd doc a; kernel_rfl))
theorem D1 : GoodD 1 := mkD (by kernel_rfl) (by kernel_rfl) (bind1 (by kernel_rfl) (by intro pm cd doc a; kernel_rfl))
theorem D2 : GoodD 2 := mkD (by kernel_rfl) (by kernel_rfl) (bind0 (by kernel_rfl) (by intro pm cd doc; kernel_rfl))
theorem D3 : GoodD 3 := mkD (by kernel_rfl) (by kernel_rfl) (bind1 (by kernel_rfl) (by intro pm cd doc a; kernel_rfl))
theorem D4 : GoodD 4 := mkD (by kernel_rfl) (by kernel_rfl) (bind1 (by kernel_rfl) (by intro pm cd doc a; kernel_rfl))
theorem D5 : GoodD 5 := mkD (by kernel_rfl) (by kernel_rfl) (bind2 (by kernel_rfl) (by intro pm cd doc a b; kernel_rfl))
theorem D6 : GoodD 6 := mkD (by kernel_rfl) (by kernel_rfl) (bind2 (by kernel_rfl) (by intro pm cd doc a b; kernel_rfl))
theorem D7 : GoodD 7 := mkD (by kernel_rfl) (by kernel_rfl) (bind2 (by kernel_rfl) (by intro pm cd doc a b; kernel_rfl))
theorem D8 : GoodD 8 := mkD (by kernel_rfl) (by kernel_rfl) (bind2 (by kernel_rfl) (by intro pm cd doc a b; kernel_rfl))
theorem D9 : GoodD 9 := mkD (by kernel_rfl) (by kernel_rfl) (bind2 (by kernel_rfl) (by intro pm cd doc a b; kernel_rfl))
theorem D10 : GoodD 10 := mkD (by kernel_rfl) (by kernel_rfl) (bind1 (by kernel_rfl) (by intro pm cd doc a; kernel_rfl))
theorem D11 : GoodD 11 := mkD (by kernel_rfl) (by kernel_rfl) (bind2 (by kernel_rfl) (by intro pm cd doc a b; kernel_rfl))
theorem D12 : GoodD 12 := mkD (by kernel_rfl) (by kernel_rfl) (bind2 (by kernel_rfl) (by intro pm cd doc a b; kernel_rfl))
theorem D13 : GoodD 13 := mkD (by kernel_rfl) (by kernel_rfl) (bind1 (by kernel_rfl) (by intro pm cd doc a; kernel_rfl))
theorem D14 : GoodD 14 := mkD (by kernel_rfl) (by kernel_rfl) (bind2 (by kernel_rfl) (by intro pm cd doc a b; kernel_rfl))
theorem D15 : GoodD 15 := mkD (by kernel_rfl) (by kernel_rfl) (bind3 (by kernel_rfl) (by intro pm cd doc a b c; kernel_rfl))
theorem D16 : GoodD 16 := mkD (by kernel_rfl) (by kernel_rfl) (bind3 (by kernel_rfl) (by intro pm cd doc a b c; kernel_rfl))
theorem D17 : GoodD 17 := mkD (by kernel_rfl) (by kernel_rfl) (bind2 (by kernel_rfl) (by intro pm cd doc a b; kernel_rfl))
theorem D18 : GoodD 18 := mkD (by kernel_rfl) (by kernel_rfl) (bind2 (by kernel_rfl) (by intro pm cd doc a b; kernel_rfl))
theorem D19 : GoodD 19 := mkD (by kernel_rfl) (by kernel_rfl) (bind1 (by kernel_rfl) (by intro pm cd doc a; kernel_rfl))
theorem D20 : GoodD 20 := mkD (by kernel_rfl) (by kernel_rfl) (bind2 (by kernel_rfl) (by intro pm cd doc a b; kernel_rfl))
theorem D21 : GoodD 21 := mkD (by kernel_rfl) (by kernel_rfl) (bind1 (by kernel_rfl) (by intro pm cd doc a; kernel_rfl))
theorem D22 : GoodD 22 := mkD (by kernel_rfl) (by kernel_rfl) (bind3 (by kernel_rfl) (by intro pm cd doc a b c; kernel_rfl))
theorem D23 : GoodD 23 := mkD (by kernel_rfl) (by kernel_rfl) (bind2 (by kernel_rfl) (by intro pm cd doc a b; kernel_rfl))
theorem D24 : GoodD 24 := mkD (by kernel_rfl) (by kernel_rfl) (bind4 (by kernel_rfl) (by intro pm cd doc a b c e; kernel_rfl))
theorem D25 : GoodD 25 := mkD (by kernel_rfl) (by kernel_rfl) (bind3 (by kernel_rfl) (by intro pm cd doc a b c; kernel_rfl))
theorem D26 : GoodD 26 := mkD (by kernel_rfl) (by kernel_rfl) (bind2 (by kernel_rfl) (by intro pm cd doc a b; kernel_rfl))
theorem D27 : GoodD 27 := mkD (by kernel_rfl) (by kernel_rfl) (bind2 (by kernel_rfl) (by intro pm cd doc a b; kernel_rfl))
theorem D28 : GoodD 28 := mkD (by kernel_rfl) (by kernel_rfl) (bind2 (by kernel_rfl) (by intro pm cd doc a b; kernel_rfl))
theorem D29 : GoodD 29 := mkD (by kernel_rfl) (by kernel_rfl) (bind2 (by kernel_rfl) (by intro pm cd doc a b; kernel_rfl))
theorem D30 : GoodD 30 := mkD (by kernel_rfl) (by kernel_rfl) (bind2 (by kernel_rfl) (by intro pm cd doc a b; kernel_rfl))
theorem D31 : GoodD 31 := mkD (by kernel_rfl) (by kernel_rfl) (bind2 (by kernel_rfl) (by intro pm cd doc a b; kernel_rfl))
theorem D32 : GoodD 32 := mkD (by kernel_rfl) (by kernel_rfl) (bind2 (by kernel_rfl) (by intro pm cd doc a b; kernel_rfl))
theorem D33 : GoodD 33 := mkD (by kernel_rfl) (by kernel_rfl) (bind2 (by kernel_rfl) (by intro pm cd doc a b; kernel_rfl))
theorem D34 : GoodD 34 := mkD (by kernel_rfl) (by kernel_rfl) (bind2 (by kernel_rfl) (by intro pm cd doc a b; kernel_rfl))
theorem D35 : GoodD 35 := mkD (by kernel_rfl) (by kernel_rfl) (bind3 (by kernel_rfl) (by intro pm cd doc a b c; kernel_rfl))
theorem D36 : GoodD 36 := mkD (by kernel_rfl) (by kernel_rfl) (bind2 (by kernel_rfl) (by intro pm cd doc a b; kernel_rfl))
theorem D37 : GoodD 37 := mkD (by kernel_rfl) (by kernel_rfl) (bind1 (by kernel_rfl) (by intro pm cd doc a; kernel_rfl))
theorem D38 : GoodD 38 := mkD (by kernel_rfl) (by kernel_rfl) (bind2 (by kernel_rfl) (by intro pm cd doc a b; kernel_rfl))
theorem D39 : GoodD 39 := mkD (by kernel_rfl) (by kernel_rfl) (bind2 (by kernel_rfl) (by intro pm cd doc a b; kernel_rfl))
theorem D40 : GoodD 40 := mkD (by kernel_rfl) (by kernel_rfl) (bind1 (by kernel_rfl) (by intro pm cd doc a; kernel_rfl))
theorem allD : ∀ (f : Nat) (fd : FD), theTab.FT[f]? = some fd → ∃ d ∈ recsOf vw, DefOk d fd ∧ ∃ c, chkB (ckS ⟨theTab, d.scope, fd.ns⟩ c) fd.body d.body = true := fun f fd h => by
  have e : fdN f = fd := by
    show (theTab.FT[f]?).getD _ = fd
    rw [h]; rfl
  rw [← e]
  have hl : f < 41 := (List.getElem?_eq_some_iff.mp h).1
  exact (upTo (P := GoodD) (n := 40) (upTo (P := GoodD) (n := 39) (upTo (P := GoodD) (n := 38) (upTo (P := GoodD) (n := 37) (upTo (P := GoodD) (n := 36) (upTo (P := GoodD) (n := 35) (upTo (P := GoodD) (n := 34) (upTo (P := GoodD) (n := 33) (upTo (P := GoodD) (n := 32) (upTo (P := GoodD) (n := 31) (upTo (P := GoodD) (n := 30) (upTo (P := GoodD) (n := 29) (upTo (P := GoodD) (n := 28) (upTo (P := GoodD) (n := 27) (upTo (P := GoodD) (n := 26) (upTo (P := GoodD) (n := 25) (upTo (P := GoodD) (n := 24) (upTo (P := GoodD) (n := 23) (upTo (P := GoodD) (n := 22) (upTo (P := GoodD) (n := 21) (upTo (P := GoodD) (n := 20) (upTo (P := GoodD) (n := 19) (upTo (P := GoodD) (n := 18) (upTo (P := GoodD) (n := 17) (upTo (P := GoodD) (n := 16) (upTo (P := GoodD) (n := 15) (upTo (P := GoodD) (n := 14) (upTo (P := GoodD) (n := 13) (upTo (P := GoodD) (n := 12) (upTo (P := GoodD) (n := 11) (upTo (P := GoodD) (n := 10) (upTo (P := GoodD) (n := 9) (upTo (P := GoodD) (n := 8) (upTo (P := GoodD) (n := 7) (upTo (P := GoodD) (n := 6) (upTo (P := GoodD) (n := 5) (upTo (P := GoodD) (n := 4) (upTo (P := GoodD) (n := 3) (upTo (P := GoodD) (n := 2) (upTo (P := GoodD) (n := 1) (upTo (P := GoodD) (n := 0) (upTo0 (P := GoodD)) D0) D1) D2) D3) D4) D5) D6) D7) D8) D9) D10) D11) D12) D13) D14) D15) D16) D17) D18) D19) D20) D21) D22) D23) D24) D25) D26) D27) D28) D29) D30) D31) D32) D33) D34) D35) D36) D37) D38) D39) D40) f hl
end Mine

end

section
set_option genInjectivity false
open PySem PySem.W PyProof.Rows
set_option maxRecDepth 100000
set_option maxHeartbeats 8000000
namespace Mine

theorem rp_s {D : Dd} {h : Heap} {Y : Lay} {x : Str} {s : List Nat} {t : Tok} (e : x = ⟨s.toArray⟩) : Rp D h Y (.str s) (.str x t) := by rw [e]; exact .str s t
theorem tabc {hs : Int} {x : Str} {s : List Nat} {t u : Tok} {i : Int} {es : List DictEntry} {l : List (List Nat × Int)} (e : x = ⟨s.toArray⟩) (h : TabAre es l) : TabAre (⟨hs, .str x t, .int i u⟩ :: es) ((s, i) :: l) := by rw [e]; exact .cons h
inductive AllP {α : Type} (P : α → Prop) : List α → Prop
  | nil : AllP P []
  | cons {a : α} {l : List α} : P a → AllP P l → AllP P (a :: l)
theorem AllP.get {α : Type} {P : α → Prop} {l : List α} (p : AllP P l) : ∀ {k : Nat} {a : α}, l[k]? = some a → P a := by
  induction p with
  | nil => intro k a h; cases h
  | cons x p ih =>
    intro k a h
    cases k with
    | zero => cases h; exact x
    | succ k => exact ih h
noncomputable def GCp (w : World) (mean : ExcName → Option Value) (mg mb : Str → Option Value) (base : Heap) (p : Str × V) : Prop :=
  ∃ u, mg p.1 = some u ∧ ∀ (hh : Heap) (Y : Lay), base.StaysIn hh → (∀ a, a ∈ Y.mu ∨ a ∈ Y.fr ∨ a ∈ Y.no → base.get? a = none) → Rp (theG w mean mg mb base).lvl hh Y p.2 u
section
variable (P : Params)
theorem c10 : ∃ a vs, nsIn (K P) mainGlobals (Str.ofString "NO_ARGS") = some (some (.ref a)) ∧ (∃ cd sl n, (K P).lookup a = some ⟨.type "tuple", cd, .seq (List.toArray vs) n, sl⟩) ∧
    ∀ (D : Dd) (h : Heap) (Y : Lay), Rps D h Y [(.str [69, 82, 76]), (.str [69, 82, 82]), (.str [70, 82, 69]), (.str [80, 73]), (.str [80, 79, 83]), (.str [82, 78, 68])] vs :=
  ⟨_, _, rfl, ⟨_, _, _, rfl⟩, fun D h Y => .cons (rp_s (by kernel_rfl)) (.cons (rp_s (by kernel_rfl)) (.cons (rp_s (by kernel_rfl)) (.cons (rp_s (by kernel_rfl)) (.cons (rp_s (by kernel_rfl)) (.cons (rp_s (by kernel_rfl)) .nil)))))⟩
theorem c11 : ∃ a vs, nsIn (K P) mainGlobals (Str.ofString "NO_TOKEN") = some (some (.ref a)) ∧ (∃ cd sl n, (K P).lookup a = some ⟨.type "tuple", cd, .seq (List.toArray vs) n, sl⟩) ∧
    ∀ (D : Dd) (h : Heap) (Y : Lay), Rps D h Y [(.str [101, 110, 100]), (.str [])] vs :=
  ⟨_, _, rfl, ⟨_, _, _, rfl⟩, fun D h Y => .cons (rp_s (by kernel_rfl)) (.cons (rp_s (by kernel_rfl)) .nil)⟩
noncomputable def strL : List (List Nat × Int) := [([73, 77, 80], 1), ([69, 81, 86], 2), ([88, 79, 82], 3), ([79, 82], 4), ([65, 78, 68], 5), ([61], 7), ([60, 62], 7), ([60], 7), ([62], 7), ([60, 61], 7), ([62, 61], 7), ([43], 8), ([45], 8), ([77, 79, 68], 9), ([92], 10), ([42], 11), ([47], 11), ([94], 13)]
theorem c6 : ∃ a es, nsIn (K P) mainGlobals (Str.ofString "STRENGTH") = some (some (.ref a)) ∧ (∃ n, (K P).lookup a = some (dictOf es n)) ∧ (a == sysModules) = false ∧ TabAre es strL ∧ KeysLit P es :=
  ⟨_, _, rfl, ⟨_, rfl⟩, rfl, tabc (by kernel_rfl) (tabc (by kernel_rfl) (tabc (by kernel_rfl) (tabc (by kernel_rfl) (tabc (by kernel_rfl) (tabc (by kernel_rfl) (tabc (by kernel_rfl) (tabc (by kernel_rfl) (tabc (by kernel_rfl)
    (tabc (by kernel_rfl) (tabc (by kernel_rfl) (tabc (by kernel_rfl) (tabc (by kernel_rfl) (tabc (by kernel_rfl) (tabc (by kernel_rfl) (tabc (by kernel_rfl) (tabc (by kernel_rfl) (tabc (by kernel_rfl) .nil))))))))))))))))),
    ⟨_, _, rfl, rfl⟩, ⟨_, _, rfl, rfl⟩, ⟨_, _, rfl, rfl⟩, ⟨_, _, rfl, rfl⟩, ⟨_, _, rfl, rfl⟩, ⟨_, _, rfl, rfl⟩, ⟨_, _, rfl, rfl⟩, ⟨_, _, rfl, rfl⟩, ⟨_, _, rfl, rfl⟩,
    ⟨_, _, rfl, rfl⟩, ⟨_, _, rfl, rfl⟩, ⟨_, _, rfl, rfl⟩, ⟨_, _, rfl, rfl⟩, ⟨_, _, rfl, rfl⟩, ⟨_, _, rfl, rfl⟩, ⟨_, _, rfl, rfl⟩, ⟨_, _, rfl, rfl⟩, ⟨_, _, rfl, rfl⟩, trivial⟩
end

section
variable {w : World} {mean : ExcName → Option Value} {mg mb : Str → Option Value} {base : Heap} (T : Top vw looseL mean mg mb base)
include T
theorem c_str {x : Str} {s : List Nat} (h : valOf vw x = some (.str ⟨s.toArray⟩)) : ∃ t, mg x = some (.str ⟨s.toArray⟩ t) := by
  obtain ⟨v, h1, h2⟩ := T.const _ _ h
  have := h2 base
  cases this
  exact ⟨_, h1⟩
theorem c_int {x : Str} {i : Int} (h : valOf vw x = some (.int i)) : ∃ t, mg x = some (.int i t) := by
  obtain ⟨v, h1, h2⟩ := T.const _ _ h
  have := h2 base
  cases this
  exact ⟨_, h1⟩
theorem g_bi {x : Str} {v : Value} (h1 : (decide (x ∉ startupNames) && decide (x ∉ looseL) && decide (x ∉ (recsOf vw).map (·.name)) && decide (x ∉ (litsOf vw).map (·.1)) && decide (x ∉ (clssOf vw looseL).map (·.name))) = true)
    (h2 : x ≠ "__name__") (h3 : bootBuiltins x = some v) : mg x = none ∧ mb x = some v := by
  simp only [Bool.and_eq_true, decide_eq_true_eq] at h1
  obtain ⟨⟨⟨⟨a, b⟩, c⟩, d⟩, e⟩ := h1
  exact ⟨T.free x a b c d e, by rw [T.builtins x h2, h3]⟩
theorem gF : GF (theG w mean mg mb base) where
  top := T
  pr := rfl
  pw := ⟨rfl, rfl⟩
  bi := fun b x v h => by
    match b, h with
    | 0, h => cases h; exact g_bi T (by kernel_rfl) (by decide) (by first | boot_by_name | rfl | kernel_rfl)
    | 1, h => cases h; exact g_bi T (by kernel_rfl) (by decide) (by first | boot_by_name | rfl | kernel_rfl)
    | 2, h => cases h; exact g_bi T (by kernel_rfl) (by decide) (by first | boot_by_name | rfl | kernel_rfl)
    | 3, h => cases h; exact g_bi T (by kernel_rfl) (by decide) (by first | boot_by_name | rfl | kernel_rfl)
    | 4, h => cases h; exact g_bi T (by kernel_rfl) (by decide) (by first | boot_by_name | rfl | kernel_rfl)
variable (KX : (K w.params).In base)
include KX
theorem gM : GM (theG w mean mg mb base) where
  K := KX
  get := f11 w.params
  hasD := f12 w.params
  keep := f4 w.params
  makes := f5 w.params
  init := f6 w.params
  initFn := f7 w.params
  initAt := by
    obtain ⟨o, h1, h2⟩ := f13 w.params
    exact ⟨o, _, KX _ _ h1, h2, codeRec_of KX (f14 w.params), f15 w.params⟩
  setA := f8 w.params
  over := f9 w.params
  taker := f10 w.params
  name := mg_of KX T.g (f1 w.params)
theorem gZ : ∃ fd qn cda cc N ar, ExcK (theG w mean mg mb base) fd qn cda cc N ar := by
  obtain ⟨ar, ha, hb⟩ := e11 w.params
  refine ⟨excFd w.params, Str.ofString "BasicError.__init__", 30, 18, 33, ar, ?_⟩
  exact {
    hf := e1 w.params
    env := e2 w.params
    body := e3 w.params
    kind := (e4 w.params).1
    co := (e4 w.params).2.1
    gen := (e4 w.params).2.2
    cell := e5 w.params
    bind := fun s a b c X => e6 w.params s a b c X
    loc := e7 w.params
    sup := e8 w.params
    kls := e9 w.params
    crec := fun h X => codeRec_of X (e10 w.params)
    first := ha
    firstIs := hb
    code := e12 w.params
    cellAt := e13 w.params
    clsD := e14 w.params
    mro := e15 w.params
    nosuper := e16 w.params
    top := e17
    boot := e18
    hC := by
      obtain ⟨k, h⟩ := e19 w.params
      exact ⟨k, fun hh X => X _ _ h⟩
    ns := by
      obtain ⟨o, ho⟩ : ∃ o, (K w.params).lookup 33 = some o := by
        have h := e20 w.params
        unfold nsOkIn at h
        split at h
        · rename_i hh; exact ⟨_, hh⟩
        · cases h
      refine ⟨base.nsMap 33, fun h X => ?_, ns_none_of KX (.of_isNs (isNs_of_in KX (e20 w.params))) (e21 w.params).1, ns_none_of KX (.of_isNs (isNs_of_in KX (e20 w.params))) (e21 w.params).2.1,
        ns_none_of KX (.of_isNs (isNs_of_in KX (e20 w.params))) (e21 w.params).2.2.1, ns_none_of KX (.of_isNs (isNs_of_in KX (e20 w.params))) (e21 w.params).2.2.2.1, ns_none_of KX (.of_isNs (isNs_of_in KX (e20 w.params))) (e21 w.params).2.2.2.2⟩
      have e : base.nsMap 33 = h.nsMap 33 := by
        funext x
        unfold Heap.nsMap
        rw [X _ _ ho, KX _ _ ho]
      rw [e]
      exact .of_isNs (isNs_of_in X (e20 w.params))
    initIs := e22 w.params
    initFn := e23 w.params
    along := e24 w.params
    noany := e25 w.params
    keep := e26 w.params
    name := mg_of KX T.g (f2 w.params)
    noC := e27
    noT := e28 }

theorem gC (k : Nat) (x : Str) (v : V) (h : theTab.CT[k]? = some (x, v)) : ∃ u, mg x = some u ∧ ∀ (hh : Heap) (Y : Lay), base.StaysIn hh → (∀ a, a ∈ Y.mu ∨ a ∈ Y.fr ∨ a ∈ Y.no → base.get? a = none) → Rp (theG w mean mg mb base).lvl hh Y v u := by
  have fs : ∀ {x : Str} {s : List Nat}, (∃ t, mg x = some (.str ⟨s.toArray⟩ t)) → GCp w mean mg mb base (x, .str s) := fun ⟨t, ht⟩ => ⟨_, ht, fun hh Y _ _ => .str _ t⟩
  have fi : ∀ {x : Str} {i : Int}, (∃ t, mg x = some (.int i t)) → GCp w mean mg mb base (x, .int i) := fun ⟨t, ht⟩ => ⟨_, ht, fun hh Y _ _ => .int _ t⟩
  have ft : ∀ {x : Str} {ds : List V}, (∃ a vs, nsIn (K w.params) mainGlobals x = some (some (.ref a)) ∧ (∃ cd sl n, (K w.params).lookup a = some ⟨.type "tuple", cd, .seq (List.toArray vs) n, sl⟩) ∧ ∀ (D : Dd) (h : Heap) (Y : Lay), Rps D h Y ds vs) → GCp w mean mg mb base (x, .tup ds) :=
    fun ⟨a, vs, h1, ⟨cd, sl, n, h2⟩, h3⟩ => ⟨_, mg_of KX T.g h1, fun hh Y hs _ => .tup ⟨_, hs _ _ (KX _ _ h2), rfl, n, rfl⟩ (h3 _ _ _)⟩
  refine AllP.get (P := GCp w mean mg mb base) (l := theTab.CT) ?_ h
  refine .cons (fi (c_int T (by kernel_rfl))) (.cons (fi (c_int T (by kernel_rfl))) (.cons (fs (c_str T (by kernel_rfl))) (.cons (fs (c_str T (by kernel_rfl))) (.cons (fs (c_str T (by kernel_rfl))) (.cons (fs (c_str T (by kernel_rfl))) (.cons ?_ (.cons (fi (c_int T (by kernel_rfl))) (.cons (fi (c_int T (by kernel_rfl))) (.cons (fi (c_int T (by kernel_rfl))) (.cons (ft (c10 w.params)) (.cons (ft (c11 w.params)) (.cons (fi (c_int T (by kernel_rfl))) .nil))))))))))))
  obtain ⟨a, es, h1, ⟨n, h2⟩, h3, h4, h5⟩ := c6 w.params
  refine ⟨_, mg_of KX T.g h1, fun hh Y hs hf => ?_⟩
  have hb : base.get? a = some (dictOf es n) := KX _ _ h2
  have hno : ¬ (a ∈ Y.mu ∨ a ∈ Y.fr ∨ a ∈ Y.no) := fun q => by rw [hf a q] at hb; cases hb
  exact .tab ⟨n, hs _ _ hb⟩ (fun q => hno (.inl q)) (fun q => hno (.inr (.inl q))) h4 h5 h3
theorem gAll : GAll (theG w mean mg mb base) theTab := ⟨gF T, gM T KX, gZ T KX, gC T KX, allD⟩
end
end Mine

end

section
set_option genInjectivity false
open PySem PySem.W PyProof.Rows
set_option maxRecDepth 100000
set_option maxHeartbeats 8000000
namespace Mine
theorem lawRuns (is : List Int) (h : ¬ (((63 : Nat) : Int) < (is.length : Int))) : ∃ ρ' σ', (run theTab (0 + 300)).Ss b_law (some (.lst (is.map .int)) :: List.replicate 8 none) [] = some (.ok (.ret (.bool true)), ρ', σ') := law_plain is (by omega) 0
end Mine
local macro_rules | `(tactic| k_qdec) => `(tactic| decide +kernel)
theorem PySem.Challenge.cw_pf0013_01_holds : PySem.Challenge.rw_pf0013_01.Holds := by
  refine holds_law Mine.said0 fun said => ?_
  refine holds_open (q := Mine.vw) (loose := Mine.loose0) (Xt := fun s => xlAt Mine.vw [] s && recOk (RowW.records (OpenRow.toRowW PySem.Challenge.rw_pf0013_01.row)) s) (XP := XL Mine.vw []) (Yf := Hook.obs Mine.hk) (Ya := Hook.val Mine.hk) (YP := Hook.says Mine.hk) (N := 5154) Mine.left0 (Hook.of Mine.hk) (Hook.keeps Mine.hk) (fun s e => xl_of s (Bool.and_eq_true_iff.mp e).1) XL.keeps (by rfl) (by rfl) (by rfl) (fun s e => recFacts_of (Bool.and_eq_true_iff.mp e).2) (by rfl) (by first | assumption | decide +kernel) (by decide +kernel) ⟨rfl, rfl, rfl, rfl, rfl, by decide +kernel⟩ ?hw ?hc
  case hw => w_witness2
  intro w s₀ s₁ mg mb G Y fa o pm cd doc dV kV ho hd hcd hD hmg hg args vals as hpre hlay hrd hwl hlo
  have KX : (Mine.K w.params).In s₁.heap := Y
  k_behind G ho hd hcd hD hmg hpre hlay hrd hwl hlo cd
  all_goals try k_fold
  rename IntsAre _ _ => hI
  rename Heap.IsList _ _ _ => hL
  rename ¬ (_ < _) => hcond
  rename Fr _ _ _ _ => F
  rename Top _ _ _ _ _ _ => T
  obtain ⟨ρ', σ', hrun⟩ := Mine.lawRuns _ hcond
  refine Mine.join (ns := [Str.ofString "script", Str.ofString "jug", Str.ofString "turn", Str.ofString "form", Str.ofString "tail", Str.ofString "due", Str.ofString "text", Str.ofString "found", Str.ofString "word"]) (b := Mine.b_law) (c := 40)
    (Mine.gAll T KX) (by kernel_rfl) (by decide +kernel) (by kernel_rfl) (m := fun x => List.lookup x [(Str.ofString "script", Value.ref _)].reverse) ?_ (x := Str.ofString "script") (by rfl) (by rfl) hL hI hrun (by decide) ?_
  · exact F
  intro h' tk m' F'
  refine goodW_bool F' hg (raisesW_false ?_) ?_
  · wrow_none_raised
  · wrow_post

end
