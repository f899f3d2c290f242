import PyProof.Rows.All
import Wide.All
import OpenK.AllK
import Wide.FinOn
import KE.BitLaws
import Lean
import PySem.Challenge.RW_oj0068_01
set_option Elab.async false
set_option linter.unusedSimpArgs false
set_option linter.unusedVariables false
section
open PySem PySem.W PyProof.Rows
set_option maxRecDepth 100000
namespace Lr
abbrev pw : Program := PySem.Challenge.pw_oj0068_01
noncomputable def stm (i : Nat) : Stmt := pw.main.body.getD i (.Pass ⟨0, 0, 0, 0⟩)
noncomputable def strConst : Stmt → Str
  | .Assign _ (.Constant (.str s) _ _) _ => s
  | _ => ⟨#[]⟩
noncomputable def nameOfDef : Stmt → Str
  | .FunctionDef n _ _ _ _ _ _ _ _ _ => n
  | _ => ⟨#[]⟩
noncomputable def argsOfDef : Stmt → Arguments
  | .FunctionDef _ a _ _ _ _ _ _ _ _ => a
  | _ => default
noncomputable def bodyOfDef : Stmt → List Stmt
  | .FunctionDef _ _ b _ _ _ _ _ _ _ => b
  | .ClassDef _ _ _ b _ _ _ _ _ _ _ => b
  | _ => []
noncomputable def scopeOfDef : Stmt → Scope
  | .FunctionDef _ _ _ _ _ _ s _ _ _ => s
  | _ => default
noncomputable def lineOfDef : Stmt → Nat
  | .FunctionDef _ _ _ _ _ _ _ _ _ p => p.line
  | _ => 0
noncomputable def rowTab : List (Nat × Nat × Nat × Nat × Nat) := [
  (2,39,234,0,187), (3,46,242,0,187), (5,53,251,4,249), (6,60,258,4,249), (7,67,266,4,249), (8,74,277,4,249),
  (9,81,284,4,249), (10,88,296,4,249), (11,95,304,4,249), (12,102,313,4,249), (13,109,324,4,249), (14,116,332,4,249),
  (16,123,345,15,343), (17,130,357,15,343), (18,137,368,15,343), (20,144,381,19,379), (21,151,391,19,379), (22,158,402,19,379),
  (23,165,412,19,379), (24,172,422,19,379), (25,179,430,19,379), (26,186,439,19,379), (27,193,455,19,379), (28,201,464,19,379),
  (29,208,475,19,379), (30,215,484,19,379), (31,222,493,19,379), (32,229,502,19,379), (34,236,514,33,512), (35,243,521,33,512),
  (36,250,533,33,512), (37,257,544,33,512), (38,264,552,33,512), (39,271,560,33,512), (40,278,568,33,512), (41,285,579,33,512),
  (42,292,587,33,512), (43,299,596,33,512), (44,306,605,33,512), (45,313,615,33,512), (47,320,626,46,624), (48,327,638,46,624),
  (49,334,647,46,624), (50,341,657,46,624), (51,348,668,46,624), (53,355,678,52,676), (55,362,691,54,689), (56,369,700,54,689),
  (57,376,709,54,689), (58,383,717,54,689), (59,390,727,54,689), (60,397,735,54,689), (61,404,745,54,689), (62,411,754,54,689),
  (63,418,765,54,689), (65,425,775,64,773), (66,432,781,64,773), (67,439,787,64,773), (68,446,793,64,773), (69,453,799,64,773),
  (70,460,808,64,773), (71,467,822,64,773), (72,474,833,64,773), (73,481,840,64,773), (74,488,847,64,773), (75,495,857,64,773),
  (76,502,868,64,773), (77,509,879,64,773), (78,516,892,64,773), (79,523,904,64,773), (80,530,920,64,773)]
noncomputable def file : Str := "/claim/cut.py"
noncomputable def toked (t : Nat) : List Str → List Value
  | [] => []
  | x :: r => .str x t :: toked (t + 1) r
noncomputable def tupO (vs : List Value) : Obj := { cls := .type "tuple", data := .seq vs.toArray }
noncomputable def varsOf (st : Stmt) : List Str := ((scopeOfDef st).names.filter (·.2 == .local)).map (·.1)
noncomputable def defObj (st : Stmt) (qual : Str) (b t : Nat) (pm dflt : Value) : Nat → Obj
  | 1 => { cls := .none, data := .fields #[] }
  | 2 => tupO (toked (t + 3) (varsOf st))
  | 4 => { cls := .none, data := .func { name := nameOfDef st, qualname := qual, params := argsOfDef st, body := .stmts (bodyOfDef st), scope := scopeOfDef st, globals := builtinsNs, closure := [], defaults := .none, kwdefaults := .none } }
  | 5 => { cls := .type "code", data := .fields #[.str (nameOfDef st) t, .str qual (t + 1), .str file (t + 2), .int (lineOfDef st) 0, .int ((argsOfDef st).posonlyargs.length + (argsOfDef st).args.length : Nat) 0, .int 0 0, .int 0 0, .int 3 0, .ref b, .bool true, .int 181 0,
      .ref (b + 1), .none, .ref (b + 2), .ref (b + 3), .ref (b + 4), .int (t + 3 + (varsOf st).length : Nat) 0, .int (lineOfDef st) 0, .str file (t + 4 + (varsOf st).length)] }
  | 6 => { cls := .type "function", data := .func (fnOf (nameOfDef st) qual (argsOfDef st) (bodyOfDef st) (scopeOfDef st) dflt .none .none pm none (.ref (b + 5)) .none) }
  | _ => tupO []
noncomputable def row (k : Nat) : Nat × Nat × Nat × Nat × Nat := rowTab.getD k (0, 0, 0, 0, 0)
noncomputable def dfltOf (b : Nat) : Value := if b == 39 then .ref 38 else if b == 201 then .ref 200 else .none
noncomputable def rowObj (r : Nat × Nat × Nat × Nat × Nat) (o : Nat) : Obj :=
  defObj (stm r.1) (nameOfDef (stm r.1)) r.2.1 r.2.2.1 (.str (strConst (stm r.2.2.2.1)) r.2.2.2.2) (dfltOf r.2.1) o
noncomputable def initStm : Stmt := (bodyOfDef (stm 1)).getD 0 (.Pass ⟨0, 0, 0, 0⟩)
noncomputable def faults : Value := .str (strConst (stm 0)) 187
noncomputable def ent (P : Params) (x : Str) (t : Nat) (v : Value) : DictEntry := ⟨PyData.keyHash P x, .str x t, v⟩
noncomputable def bootEnts (P : Params) : List DictEntry := match (boot_o_3 P).data with | .dict es _ => es.toList.drop 1 | _ => []
noncomputable def rowEnt (P : Params) (r : Nat × Nat × Nat × Nat × Nat) : DictEntry := ent P (nameOfDef (stm r.1)) (r.2.2.1 + 5 + (varsOf (stm r.1)).length) (.ref (r.2.1 + 6))
noncomputable def mainEnts (P : Params) (v : Value) (k : Nat) : List DictEntry := ent P "__name__" 165 v :: (bootEnts P ++ ent P "Raised" 232 (.ref 33) :: (rowTab.take k).map (rowEnt P))
noncomputable def mainObj (P : Params) (v : Value) (k : Nat) : Obj := { cls := .type "dict", data := .dict (mainEnts P v k).toArray (10 + k) }
noncomputable def codeRow (r : Nat × Nat × Nat × Nat × Nat) : List Value := [.int (lineOfDef (stm r.1)) 0, .int 0 0, .ref (r.2.1 + 5)]
noncomputable def codeTab (k : Nat) : Obj := { cls := .none, data := .fields (([.int 2 0, .int 0 0, .ref 20] : List Value) ++ (rowTab.take k).flatMap codeRow).toArray }
noncomputable def clsNs (P : Params) : Obj := { cls := .type "dict", data := .dict #[ent P "__module__" 196 faults, ent P "__firstlineno__" 200 (.int 2 199), ent P "__init__" 215 (.ref 30), ent P "__static_attributes__" 225 (.ref 31), ent P "__weakref__" 227 (.ref 34), ent P "__doc__" 228 .none] 3 }
noncomputable def clsObj : Obj := { cls := .type "type", data := .cls { name := "Raised", bases := [.type "Exception"], mro := [.ref 33, .type "Exception", .type "BaseException", .type "object"], «ns» := 32, qualname := "Raised" }, slots := #[some (.ref 15), none, some (.str "Raised" 189), some (.str "Raised" 197), some (.builtin "Exception.__new__"), some (.bool true)] }
noncomputable def lowObj (P : Params) (v : Value) (k : Nat) : Nat → Obj
  | 0 => boot_o_0 P | 1 => boot_o_1 P
  | 2 => { cls := .none, data := .dict #[ent P "type.__subclasses__.Exception.0" 229 (.int 33 0), ent P "type.__subclasses__.Exception.n" 230 (.int 1 0)] 2 }
  | 3 => mainObj P v k
  | 4 => boot_o_4 P | 5 => boot_o_5 P | 6 => boot_o_6 P | 7 => boot_o_7 P | 8 => boot_o_8 P | 9 => boot_o_9 P | 10 => boot_o_10 P
  | 12 => codeTab k
  | 13 => { cls := .type "code", data := .fields #[.str "<module>" 182, .str "<module>" 183, .str file 184, .int 1 0, .int 0 0, .int 0 0, .int 0 0, .int 0 0, .ref 11, .bool false, .int 181 0, .ref 12, .none, .none, .none, .none, .int 185 0, .int 1 0, .str file 186] }
  | 14 => { cls := .type "frame", slots := #[some (.ref 13), some (.ref 3), some (.ref 3), none, some (.str "__main__" 164), none, some (.ref 0)] }
  | 15 => tupO [.type "Exception"]
  | 16 => { cls := .type "builtin_function_or_method", data := .fields #[.builtin "type.__prepare__", .type "type"] }
  | 17 => { cls := .type "dict", data := .dict #[ent P "__module__" 196 faults, ent P "__qualname__" 198 (.str "Raised" 197), ent P "__firstlineno__" 200 (.int 2 199), ent P "__init__" 215 (.ref 30), ent P "__static_attributes__" 225 (.ref 31)] 5 }
  | 19 => { cls := .none, data := .fields #[.int 4 0, .int 4 0, .ref 29] }
  | 20 => { cls := .type "code", data := .fields #[.str "Raised" 191, .str "Raised" 192, .str file 193, .int 2 0, .int 0 0, .int 0 0, .int 0 0, .int 0 0, .ref 18, .bool false, .int 181 0, .ref 19, .none, .none, .none, .none, .int 194 0, .int 2 0, .str file 195] }
  | 21 => { cls := .type "frame", slots := #[some (.ref 20), some (.ref 3), some (.ref 17), none, some faults, none, some (.ref 0)] }
  | 22 => tupO [.str "NONE" 201]
  | 23 => tupO [.ref 22, .int 0 202, .int 0 203]
  | 24 => defObj initStm "Raised.__init__" 24 204 faults (.ref 23) 0 | 25 => defObj initStm "Raised.__init__" 24 204 faults (.ref 23) 1 | 26 => defObj initStm "Raised.__init__" 24 204 faults (.ref 23) 2
  | 27 => defObj initStm "Raised.__init__" 24 204 faults (.ref 23) 3 | 28 => defObj initStm "Raised.__init__" 24 204 faults (.ref 23) 4
  | 29 => { cls := .type "code", data := .fields #[.str "__init__" 204, .str "Raised.__init__" 205, .str file 206, .int 4 0, .int 6 0, .int 0 0, .int 0 0, .int 3 0, .ref 24, .bool true, .int 181 0, .ref 25, .none, .ref 26, .ref 27, .ref 28, .int 213 0, .int 4 0, .str file 214] }
  | 30 => defObj initStm "Raised.__init__" 24 204 faults (.ref 23) 6
  | 31 => tupO (toked 216 ["code", "errorcode", "extra", "info", "is_noted", "level", "line", "ret", "value"])
  | 32 => clsNs P
  | 33 => clsObj
  | 34 => { cls := .type "getset_descriptor", data := .fields #[.str "__weakref__" 226, .ref 33, .builtin "ExceptionGroup.__weakref__", .none] }
  | 35 => { cls := .type "super", data := .fields #[.ref 33, .ref 33, .ref 33] }
  | 36 => { cls := .type "builtin_function_or_method", data := .fields #[.builtin "object.__init_subclass__", .ref 33] }
  | 37 => tupO [.str "NONE" 233]
  | 38 => tupO [.ref 37]
  | _ => tupO []
noncomputable def objAt (P : Params) (v : Value) (k : Nat) (a : Nat) : Obj :=
  match Nat.ble a 38 with
  | true => lowObj P v k a
  | false => match Nat.ble a 45 with
    | true => rowObj (row 0) (a - 39)
    | false => match Nat.ble a 199 with
      | true => rowObj (row (1 + (a - 46) / 7)) ((a - 46) % 7)
      | false => match Nat.beq a 200 with
        | true => tupO [.bool false]
        | false => match Nat.ble a 207 with
          | true => rowObj (row 23) (a - 201)
          | false => rowObj (row (24 + (a - 208) / 7)) ((a - 208) % 7)
noncomputable def mkTree (f : Nat → Obj) (n : Nat) : Nat → Nat → Nat → BT
  | 0, _, _ => .nil
  | d + 1, a, b => match Nat.blt b n with
    | true => .node (f b) (mkTree f n d (2 * a) (a + b)) (mkTree f n d (2 * a) (2 * a + b))
    | false => .nil
noncomputable def lawName : Value := .str (strConst (stm 64)) 773
noncomputable def topTree (P : Params) : BT := mkTree (objAt P lawName 71) 537 11 1 0
noncomputable def env0 : Env := { scope := pw.main.scope, locals := mainNs, globals := mainNs, cells := [], code := .ref 13, frame := some 14 }
noncomputable def bObj (P : Params) : Nat → Obj
  | 0 => boot_o_0 P | 1 => boot_o_1 P | 2 => boot_o_2 P | 3 => boot_o_3 P | 4 => boot_o_4 P | 5 => boot_o_5 P | 6 => boot_o_6 P | 7 => boot_o_7 P | 8 => boot_o_8 P | 9 => boot_o_9 P | 10 => boot_o_10 P
  | 12 => { cls := .none, data := .fields #[] }
  | 13 => lowObj P .none 0 13 | 14 => lowObj P .none 0 14
  | _ => tupO []
noncomputable def cE : Code := .body (behindTheImports pw) env0
abbrev p0 : Pos := ⟨0, 0, 0, 0⟩
noncomputable def sb (w : World) (os : OsState) : SharedT := ⟨mkTree (bObj w.params) 15 5 1 0, 15, {}, #[], ⟨0, 0, 0, 0⟩, 187, os⟩
noncomputable def sf (w : World) (os : OsState) : SharedT := ⟨topTree w.params, 537, {}, #[], ⟨0, 0, 0, 0⟩, 929, os⟩
end Lr
end
section
open PySem PySem.W PyProof.Rows
set_option maxRecDepth 1000000
namespace Lr
theorem run2 (w : World) : (fun os => segRunT treeTable pw w 11 (some (.ref 6)) 1 2600 (sb w os) (piecesOf (behindTheImports pw) env0 cE p0 [topFrame p0])) = fun os => some (.next, sf w os, cE, ⟨572, 0, 578, 15⟩) := by
  rw [PySem.W.Fast.te10110043849684766642, PySem.W.Fast.te14364793385576792824]
  kernel_rfl
end Lr
end
section
open PySem PySem.W PyProof.Rows
set_option maxRecDepth 1000000
namespace Lr
theorem mkTree_get (f : Nat → Obj) (n : Nat) : ∀ (d s b i : Nat), i + 1 < 2 ^ d → s * i + b < n → (mkTree f n d s b).get i = some (f (s * i + b))
  | 0, s, b, i, hi, _ => by simp at hi
  | d + 1, s, b, i, hi, h => by
    have hb : b < n := Nat.lt_of_le_of_lt (Nat.le_add_left _ _) h
    have e : mkTree f n (d + 1) s b = .node (f b) (mkTree f n d (2 * s) (s + b)) (mkTree f n d (2 * s) (2 * s + b)) := by
      show (match Nat.blt b n with | true => _ | false => _) = _
      rw [show Nat.blt b n = true from Nat.ble_eq.mpr hb]
    rw [e, BT.get_node]
    rw [Nat.pow_succ] at hi
    by_cases h0 : i = 0
    · subst h0; simp
    · rw [if_neg h0]
      by_cases p : i % 2 = 1
      · rw [if_pos p]
        have q : i = 2 * (i / 2) + 1 := by omega
        have e2 : s * i + b = 2 * s * (i / 2) + (s + b) := by
          conv => lhs; rw [q]
          rw [Nat.mul_add, Nat.mul_one, ← Nat.mul_assoc, Nat.mul_comm s 2]; exact Nat.add_assoc _ _ _
        rw [e2]
        exact mkTree_get f n d _ _ _ (by omega) (by rw [← e2]; exact h)
      · rw [if_neg p]
        have q : i = 2 * (i / 2 - 1) + 2 := by omega
        have e2 : s * i + b = 2 * s * (i / 2 - 1) + (2 * s + b) := by
          conv => lhs; rw [q]
          rw [Nat.mul_add, ← Nat.mul_assoc, Nat.mul_comm s 2]; exact Nat.add_assoc _ _ _
        rw [e2]
        exact mkTree_get f n d _ _ _ (by omega) (by rw [← e2]; exact h)
noncomputable def topHeap (P : Params) : Heap := absHeap (topTree P) 537 {}
theorem topHeap_get (P : Params) (a : Nat) (h : a < 537) : (topHeap P).get? a = alive (objAt P lawName 71 a) := by
  refine abs_get h ?_
  have := mkTree_get (objAt P lawName 71) 537 11 1 0 a (by exact Nat.lt_of_le_of_lt ‹_› (by decide)) (by omega)
  rw [Nat.one_mul, Nat.add_zero] at this
  exact this
theorem runPre (w : World) : (fun os => topGo treeTable pw w 11 (some (.ref 6)) 12 ⟨boot_heap w.params, #[], boot_drawn, boot_toks, os⟩ (topStub pw)) = fun os => some ((sb w os).abs, ⟨denote treeTable cE, cE, p0, [topFrame p0]⟩) := by
  rw [PySem.W.Fast.te15667345088766844465, PySem.W.Fast.te14364793385576792824, PySem.W.Fast.te11892475500146522536]
  kernel_rfl
theorem runBlock (w : World) : (fun os => segRun treeTable pw w 11 (some (.ref 6)) 1 1 (sb w os).abs (blockOf (behindTheImports pw) env0 cE p0 [topFrame p0])) = fun os => some (.next, (sb w os).abs, cE, p0) := by
  kernel_rfl
theorem runFin (w : World) : (fun os => topRun treeTable pw w 11 (some (.ref 6)) 2 (sf w os).abs ⟨doneF .next, cE, ⟨572, 0, 578, 15⟩, [topFrame p0]⟩) = fun os => some (sf w os).abs := by
  rw [PySem.W.Fast.te14082659384304107361, PySem.W.Fast.te14364793385576792824]
  kernel_rfl
theorem runAll (w : World) (os : OsState) : topRun treeTable pw w 11 (some (.ref 6)) (12 + (1 + (2600 + 2))) ⟨boot_heap w.params, Array.mk [], boot_drawn, boot_toks, os⟩ (topStub pw) = some ⟨topHeap w.params, Array.mk [], ⟨0, 0, 0, 0⟩, 929, os⟩ := by
  have h := piece_app (l := behindTheImports pw) (rest := []) (segRun_of (congrFun (run2 w) os)) (piece_nil (congrFun (runFin w) os))
  rw [List.append_nil] at h
  exact go_top (congrFun (runPre w) os) (piece_block (congrFun (runBlock w) os) h)
theorem size0 (w : World) : ((boot_heap w.params).isNs mainGlobals && (Array.mk [] : Array GenState).size == 0, (boot_heap w.params).objs.size, (boot_heap w.params).nsMap mainGlobals "__annotations__") = (true, 11, some (.ref 6)) := by
  kernel_rfl
theorem openPlain : opening pw = plainProg pw.main.scope.names := by kernel_rfl
theorem fenceNone (s : Shared) : fenceModules? pw s = some s := by kernel_rfl
end Lr
end
section
open PySem PySem.W PyProof.Rows
set_option maxRecDepth 1000000
namespace Lr
noncomputable def vq : Program := { pw with main := { pw.main with body := [stm 80] } }
noncomputable def looseL : List Str := "Raised" :: (rowTab.take 70).map fun r => nameOfDef (stm r.1)
abbrev lw : OpenLaw := PySem.Challenge.rw_oj0068_01
noncomputable def xt (s : Shared) : Bool := xlAt vq [] s && recOk lw.row.records s
theorem looks (w : World) : (fun os => ((staticsOk (importedModules pw.main.body) (boot_heap w.params) (topHeap w.params) && namesBound pw (topHeap w.params) && gensDone ⟨topHeap w.params, Array.mk [], ⟨0, 0, 0, 0⟩, 929, os⟩ && laidKept (boot_heap w.params) (topHeap w.params)),
        openSeen vq looseL (importedModules pw.main.body) xt true ⟨topHeap w.params, Array.mk [], ⟨0, 0, 0, 0⟩, 929, os⟩, topHeap w.params)) = fun _ => (true, openGood vq looseL, topHeap w.params) := by
  rw [PySem.W.Fast.te4187177175401517315]
  kernel_rfl
end Lr
end
section
open PySem PySem.W PyProof.Rows
set_option maxRecDepth 1000000
namespace Lr
theorem leftAll : LeftO lw.row.prog vq looseL xt (fun s => s.heap) (fun w => topHeap w.params) 6000 :=
  LeftO.of_pieces (g0 := true) (H₀ := boot_heap) (H₁ := topHeap) (gs₀ := Array.mk []) (gs₁ := Array.mk []) (d₀ := boot_drawn) (d₁ := ⟨0, 0, 0, 0⟩) (k₀ := boot_toks) (k₁ := 929) (m₀ := 11) (ann := some (.ref 6)) (M := 12 + (1 + (2600 + 2)))
    (boot_open openPlain (by decide) fenceNone) size0 runAll (by decide) looks
noncomputable def lawDef : DefRec := ⟨nameOfDef (stm 80), argsOfDef (stm 80), bodyOfDef (stm 80), scopeOfDef (stm 80), ⟨572, 0, 578, 15⟩⟩
noncomputable def TopIn (w : World) (h : Heap) : Prop := ∀ b o, (topHeap w.params).get? b = some o → h.get? b = some o
theorem hdef : defOf vq lw.row.name = some (lawDef, []) := by kernel_rfl
theorem hthe : lw.row.prog.theDef lw.row.name = some (lawDef.params, lawDef.body, lawDef.scope) := by kernel_rfl
theorem hkw : kwWritten? lawDef.params.kwonlyargs lawDef.params.kw_defaults = some [] := by kernel_rfl
theorem hok : (chainsOk vq && opensWell lw.row.prog && (frees lw.row.toRowW && lw.row.within.isEmpty)) = true := by kernel_rfl
theorem hbare : lw.row.prog.bare := ⟨rfl, rfl, rfl, rfl, rfl, by decide +kernel⟩
theorem hprom : lw.row.toRowW.promised := by w_witness2
theorem said : lw.wellSaid = true := by
  rw [PySem.W.Fast.te9446332074065402090]
  kernel_rfl
theorem head (walk : WalkO vq looseL (XL vq []) TopIn lw.row.toRowW lawDef [] fun f vs => PySem.call f vs) : lw.Holds :=
  holds_law said fun hs => holds_open (r := lw.row) (q := vq) (loose := looseL) (Xt := xt) (XP := XL vq []) (Yf := fun s => s.heap) (Ya := fun w => topHeap w.params) (YP := TopIn) (N := 6000) leftAll
    (fun w s e b o x => by rw [show s.heap = topHeap w.params from e]; exact x) (fun w h h' y k b o e => k _ _ (y b o e)) (fun s e => xl_of s (Bool.and_eq_true_iff.mp e).1) XL.keeps hdef hthe hkw (fun s e => recFacts_of (Bool.and_eq_true_iff.mp e).2) (by rfl) hs hok hbare hprom walk
end Lr
end
section
open PySem
namespace Lr
set_option genSizeOf false
inductive V where
  | none
  | bool (b : Bool)
  | int (i : Int)
  | str (l : List Nat)
  | tup (l : List V)
  | list (l : List V)
  | pen
  deriving Inhabited
inductive MOp where
  | add | sub | mul | fdiv | mod | band | shl | shr | pow
inductive COp where
  | eq | ne | lt | le | gt | ge
set_option genInjectivity false
mutual
inductive ME where
  | v (x : Nat)
  | c (k : V)
  | tup (es : MEs)
  | lst (es : MEs)
  | bin (op : MOp) (a b : ME)
  | neg (a : ME)
  | bo (isAnd : Bool) (es : MEs)
  | not (a : ME)
  | cmp (op : COp) (a b : ME)
  | chain (a b d : ME)
  | isNone (x : Nat)
  | notNone (x : Nat)
  | inT (neg : Bool) (a : ME) (ks : List V)
  | inS (neg : Bool) (a b : ME)
  | ifx (t a b : ME)
  | idx (a i : ME)
  | sl (a lo hi : ME)
  | slF (a lo : ME)
  | slT (a hi : ME)
  | rev (a : ME)
  | call (f : Nat) (es : MEs)
  | len (a : ME)
  | lenV (x : Nat)
  | max (a b : ME)
  | min (a b : ME)
  | str (a : ME)
  | signs (a : ME)
  | ord (a : ME)
  | join (a b : ME)
  | joinV (a : ME) (x : Nat)
  | find (a b : ME)
  | rfind (a b : ME)
  | starts (a b : ME)
  | ends (a b : ME)
  | index (a b : ME)
  | penGet (x : Nat)
  | stuck
inductive MEs where
  | nil
  | cons (e : ME) (r : MEs)
end
mutual
inductive MS where
  | set (x : Nat) (e : ME)
  | setOwn (x f : Nat) (es : MEs)
  | newL (x : Nat)
  | set2 (x y : Nat) (e : ME)
  | pair (x y : Nat) (a b : ME)
  | aug (x : Nat) (op : MOp) (e : ME)
  | app (x : Nat) (e : ME)
  | revs (x : Nat)
  | penSet (x : Nat) (e : ME)
  | expr (e : ME)
  | ite (t : ME) (a b : MSs)
  | while_ (t : ME) (b : MSs)
  | forS (x : Nat) (e : ME) (b : MSs)
  | forL (x : Nat) (e : ME) (b : MSs)
  | forR (x : Nat) (e : ME) (b : MSs)
  | ret (e : ME)
  | ret0
  | retOwn (x : Nat)
  | retCallOwn (f x : Nat)
  | raise (a b : ME)
  | brk
  | heard (b : MSs)
  | tryOk (b : MSs)
  | stuck
inductive MSs where
  | nil
  | cons (s : MS) (r : MSs)
end
set_option genInjectivity true
structure Exc where
  code : Int
  value : List Nat
  ec : V
inductive Bd where
  | val (v : V)
  | own (l : List V)
inductive Res (α : Type) where
  | ok (a : α)
  | exn (x : Exc)
abbrev Fm := List (Option Bd)
noncomputable def M (α : Type) := Int → Option (Res α × Int)
noncomputable def ret {α : Type} (a : α) : M α := fun p => some (.ok a, p)
noncomputable def fail {α : Type} : M α := fun _ => none
noncomputable def lift {α : Type} (a : Option α) : M α := fun p => match a with | some a => some (.ok a, p) | none => none
noncomputable def bnd {α β : Type} (m : M α) (f : α → M β) : M β := fun p => match m p with
  | some (.ok a, q) => f a q
  | some (.exn x, q) => some (.exn x, q)
  | none => none
noncomputable def get (ρ : Fm) (x : Nat) : Option Bd := ρ.getD x none
noncomputable def put (ρ : Fm) (x : Nat) (b : Bd) : Fm := ρ.set x (some b)
noncomputable def veqL (f : V → V → Option Bool) : List V → List V → Option Bool
  | [], [] => some true
  | [], _ :: _ => some false
  | _ :: _, [] => some false
  | x :: a, y :: b => match f x y, veqL f a b with
    | some u, some v => some (u && v)
    | _, _ => none
noncomputable def asBool : V → Option Bool
  | .bool b => some b
  | _ => none
noncomputable def veqV (f : List V → List V → Option Bool) (x y : V) : Option Bool := match x with
  | .none => (match y with | .none => some true | .int _ => some false | .str _ => some false | _ => none)
  | .bool a => (asBool y).map fun b => a == b
  | .int a => (match y with | .none => some false | .int b => some (a == b) | .str _ => some false | _ => none)
  | .str a => (match y with | .none => some false | .int _ => some false | .str b => some (a == b) | _ => none)
  | .tup a => (match y with | .tup b => f a b | _ => none)
  | _ => none
noncomputable def veqN : Nat → V → V → Option Bool
  | 0 => veqV fun _ _ => none
  | n + 1 => veqV (veqL (veqN n))
noncomputable def veq : V → V → Option Bool := veqN 4
noncomputable def lid : Nat := 1000000
noncomputable def mkS (l : List Nat) : Option V := if l.length ≤ lid then some (.str l) else none
noncomputable def mkL (l : List V) : Option V := if l.length ≤ lid then some (.list l) else none
noncomputable def asStr : V → Option (List Nat)
  | .str l => some l
  | _ => none
noncomputable def asInt : V → Option Int
  | .int b => some b
  | _ => none
noncomputable def asList : V → Option (List V)
  | .list l => some l
  | _ => none
noncomputable def onInts {α : Type} (f : Int → Int → Option α) (x y : V) : Option α := (asInt x).bind fun a => (asInt y).bind fun b => f a b
noncomputable def addV (x y : V) : Option V := match x with
  | .int a => (asInt y).bind fun b => some (.int (a + b))
  | .str a => (asStr y).bind fun b => mkS (a ++ b)
  | .list a => (asList y).bind fun b => mkL (a ++ b)
  | _ => none
noncomputable def mulV (x y : V) : Option V := (asInt y).bind fun b => match x with
  | .int a => if a.natAbs < 2 ^ 200 ∧ b.natAbs < 2 ^ 200 then some (.int (a * b)) else none
  | .str a => if b.toNat * a.length ≤ lid ∧ -2 ^ 60 ≤ b ∧ b < 2 ^ 60 then some (.str (List.replicate b.toNat a).flatten) else none
  | .list a => if b.toNat * a.length ≤ lid ∧ -2 ^ 60 ≤ b ∧ b < 2 ^ 60 then some (.list (List.replicate b.toNat a).flatten) else none
  | _ => none
noncomputable def binop : MOp → V → V → Option V
  | .add => addV
  | .sub => onInts fun a b => some (.int (a - b))
  | .mul => mulV
  | .fdiv => onInts fun a b => if 0 < b ∧ b ≤ 1000 then some (.int (a.fdiv b)) else none
  | .mod => onInts fun a b => if b = 0 then none else some (.int (a.fmod b))
  | .band => onInts fun a b => some (.int (PySem.Builtin.bitAnd a b))
  | .shl => onInts fun a b => if a = 1 ∧ 0 ≤ b ∧ b ≤ 64 then some (.int (2 ^ b.toNat)) else none
  | .shr => onInts fun a b => if 0 ≤ b ∧ b ≤ 64 then some (.int (a.fdiv (2 ^ b.toNat))) else none
  | .pow => onInts fun a b => if a = 2 ∧ 0 ≤ b ∧ b ≤ 64 then some (.int (2 ^ b.toNat)) else none
noncomputable def cmpop : COp → V → V → Option Bool
  | .eq => veq
  | .ne => fun a b => (veq a b).map (!·)
  | .lt => onInts fun a b => some (decide (a < b))
  | .le => onInts fun a b => some (decide (a ≤ b))
  | .gt => onInts fun a b => some (decide (b < a))
  | .ge => onInts fun a b => some (decide (b ≤ a))
noncomputable def isTup (k : V) : Bool := match k with | .tup _ => true | _ => false
noncomputable def inConsts (a : V) : List V → Option Bool
  | [] => some false
  | k :: r => bif isTup k then none else match veq k a, inConsts a r with
    | some u, some v => some (u || v)
    | _, _ => none
noncomputable def tx (l : List Nat) : PySem.Str := ⟨l.toArray⟩
noncomputable def idx (x y : V) : Option V := match x with
  | .str l => (asInt y).bind fun i => if 0 ≤ i ∧ i < 2 ^ 62 then (l[i.toNat]?).map fun c => .str [c] else none
  | .list l => (asInt y).bind fun i => if 0 ≤ i ∧ i < 2 ^ 62 then l[i.toNat]? else none
  | .tup l => (asInt y).bind fun i => if 0 ≤ i ∧ i < 2 ^ 62 then l[i.toNat]? else none
  | _ => none
theorem idx_str (l : List Nat) (i : Int) : idx (.str l) (.int i) = if 0 ≤ i ∧ i < 2 ^ 62 then (l[i.toNat]?).map fun c => .str [c] else none := rfl
theorem idx_list (l : List V) (i : Int) : idx (.list l) (.int i) = if 0 ≤ i ∧ i < 2 ^ 62 then l[i.toNat]? else none := rfl
theorem idx_tup (l : List V) (i : Int) : idx (.tup l) (.int i) = if 0 ≤ i ∧ i < 2 ^ 62 then l[i.toNat]? else none := rfl
noncomputable def slice : V → Int → Option Int → Option V
  | .str l, lo, none => if 0 ≤ lo ∧ l.length ≤ lid then some (.str (l.drop lo.toNat)) else none
  | .str l, lo, some hi => if 0 ≤ lo ∧ 0 ≤ hi ∧ l.length ≤ lid then some (.str ((l.take hi.toNat).drop lo.toNat)) else none
  | .list l, lo, none => if 0 ≤ lo ∧ l.length ≤ lid then some (.list (l.drop lo.toNat)) else none
  | .list l, lo, some hi => if 0 ≤ lo ∧ 0 ≤ hi ∧ l.length ≤ lid then some (.list ((l.take hi.toNat).drop lo.toNat)) else none
  | _, _, _ => none
noncomputable def sliceT : V → Int → Option V
  | .str l, hi => if 0 ≤ hi ∧ l.length ≤ lid then some (.str (l.take hi.toNat)) else none
  | .list l, hi => if 0 ≤ hi ∧ l.length ≤ lid then some (.list (l.take hi.toNat)) else none
  | _, _ => none
noncomputable def strsOf : List V → Option (List (List Nat))
  | [] => some []
  | .str l :: r => (strsOf r).map (l :: ·)
  | _ :: _ => none
noncomputable def joinL (s : List Nat) : List (List Nat) → List Nat
  | [] => []
  | [x] => x
  | x :: y :: r => x ++ s ++ joinL s (y :: r)
noncomputable def joinV (s : V) (l : List V) : Option V := match s, strsOf l with
  | .str s, some xs => if (xs.map (·.length)).sum + xs.length * s.length ≤ lid then some (.str (joinL s xs)) else none
  | _, _ => none
noncomputable def lenOf : V → Option V
  | .str l => if l.length ≤ lid then some (.int l.length) else none
  | .list l => if l.length ≤ lid then some (.int l.length) else none
  | .tup l => if l.length ≤ lid then some (.int l.length) else none
  | _ => none
noncomputable def intStr (i : Int) : List Nat := (PySem.Str.ofString (toString i)).cps.toList
noncomputable def isV : ME → Bool
  | .v _ => true
  | _ => false
noncomputable def strOnly (b : Bool) (x : V) : Bool := b || match x with | .str _ => true | _ => false
mutual
noncomputable def ev (C : Nat → List V → M Bd) (ρ : Fm) : ME → M V
  | .v x => lift (match get ρ x with | some (.val v) => some v | _ => none)
  | .c k => ret k
  | .tup es => bnd (evs C ρ es) fun l => if l.length ≤ lid then ret (.tup l) else fail
  | .lst es => bnd (evs C ρ es) fun l => if l.length ≤ lid then ret (.list l) else fail
  | .bin op a b => bnd (ev C ρ a) fun x => bnd (ev C ρ b) fun y => lift (binop op x y)
  | .neg a => bnd (ev C ρ a) fun x => lift ((asInt x).map fun i => .int (-i))
  | .bo isAnd es => evB C ρ isAnd es
  | .not a => bnd (ev C ρ a) fun x => bnd (lift (asBool x)) fun b => ret (.bool (!b))
  | .cmp op a b => bnd (ev C ρ a) fun x => bnd (ev C ρ b) fun y => lift ((cmpop op x y).map .bool)
  | .chain a b d => bnd (ev C ρ a) fun x => bnd (ev C ρ b) fun y => bnd (lift (cmpop .le x y)) fun t => if t then bnd (ev C ρ d) fun z => lift ((cmpop .le y z).map .bool) else ret (.bool false)
  | .isNone x => lift (match get ρ x with | some (.val .none) => some (.bool true) | some (.val _) => some (.bool false) | _ => none)
  | .notNone x => lift (match get ρ x with | some (.val .none) => some (.bool false) | some (.val _) => some (.bool true) | _ => none)
  | .inT neg a ks => bnd (ev C ρ a) fun x => lift ((inConsts x ks).map fun b => .bool (b != neg))
  | .inS neg a b => bnd (ev C ρ a) fun x => bnd (ev C ρ b) fun y => lift (match x, y with | .str k, .str l => some (.bool (Txt.contains (tx l) (tx k) != neg)) | _, _ => none)
  | .ifx t a b => bnd (ev C ρ t) fun x => bnd (lift (asBool x)) fun b' => if b' then ev C ρ a else ev C ρ b
  | .idx a i => bnd (ev C ρ a) fun x => bnd (ev C ρ i) fun y => lift (if strOnly (isV a) x then idx x y else none)
  | .sl a lo hi => bnd (ev C ρ a) fun x => bnd (ev C ρ lo) fun y => bnd (ev C ρ hi) fun z => lift (match y, z with | .int i, .int j => if strOnly (isV a) x then slice x i (some j) else none | _, _ => none)
  | .slF a lo => bnd (ev C ρ a) fun x => bnd (ev C ρ lo) fun y => lift (match y with | .int i => if strOnly (isV a) x then slice x i none else none | _ => none)
  | .slT a hi => bnd (ev C ρ a) fun x => bnd (ev C ρ hi) fun z => lift (match z with | .int j => if strOnly (isV a) x then sliceT x j else none | _ => none)
  | .rev a => bnd (ev C ρ a) fun x => lift (match x with | .str l => if l.length ≤ lid then some (.str l.reverse) else none | _ => none)
  | .call f es => bnd (evs C ρ es) fun l => bnd (C f l) fun b => match b with | .val v => ret v | .own l => ret (.list l)
  | .len a => bnd (ev C ρ a) fun x => lift (lenOf x)
  | .lenV x => lift (match get ρ x with | some (.own l) => if l.length ≤ lid then some (.int l.length) else none | _ => none)
  | .max a b => bnd (ev C ρ a) fun x => bnd (ev C ρ b) fun y => lift (match x, y with | .int i, .int j => some (.int (if i < j then j else i)) | _, _ => none)
  | .min a b => bnd (ev C ρ a) fun x => bnd (ev C ρ b) fun y => lift (match x, y with | .int i, .int j => some (.int (if j < i then j else i)) | _, _ => none)
  | .str a => bnd (ev C ρ a) fun x => lift (match x with | .int i => if i.natAbs < 10 ^ 20 then some (.str (intStr i)) else none | _ => none)
  | .signs a => bnd (ev C ρ a) fun x => lift (match x with | .str l => if l.length ≤ lid then some (.list (l.map fun c => .str [c])) else none | _ => none)
  | .ord a => bnd (ev C ρ a) fun x => lift (match x with | .str [c] => some (.int c) | _ => none)
  | .join a b => bnd (ev C ρ a) fun s => bnd (lift (asStr s)) fun s => bnd (ev C ρ b) fun x => lift (match x with | .list l => joinV (.str s) l | _ => none)
  | .joinV a x => bnd (ev C ρ a) fun s => bnd (lift (asStr s)) fun s => lift (match get ρ x with | some (.own l) => joinV (.str s) l | _ => none)
  | .find a b => bnd (ev C ρ a) fun x => bnd (lift (asStr x)) fun l => bnd (ev C ρ b) fun y => lift (match y with | .str k => some (.int (Txt.find (tx l) (tx k))) | _ => none)
  | .rfind a b => bnd (ev C ρ a) fun x => bnd (lift (asStr x)) fun l => bnd (ev C ρ b) fun y => lift (match y with | .str k => some (.int (Txt.rfind (tx l) (tx k))) | _ => none)
  | .starts a b => bnd (ev C ρ a) fun x => bnd (lift (asStr x)) fun l => bnd (ev C ρ b) fun y => lift (match y with | .str k => some (.bool (Txt.startswith (tx l) (tx k))) | _ => none)
  | .ends a b => bnd (ev C ρ a) fun x => bnd (lift (asStr x)) fun l => bnd (ev C ρ b) fun y => lift (match y with | .str k => some (.bool (Txt.endswith (tx l) (tx k))) | _ => none)
  | .index a b => bnd (ev C ρ a) fun x => bnd (lift (asStr x)) fun l => bnd (ev C ρ b) fun y => lift (match y with | .str k => if 0 ≤ Txt.find (tx l) (tx k) then some (.int (Txt.find (tx l) (tx k))) else none | _ => none)
  | .penGet x => fun p => match get ρ x with | some (.val .pen) => some (.ok (.int p), p) | _ => none
  | .stuck => fail
noncomputable def evs (C : Nat → List V → M Bd) (ρ : Fm) : MEs → M (List V)
  | .nil => ret []
  | .cons e r => bnd (ev C ρ e) fun x => bnd (evs C ρ r) fun l => ret (x :: l)
noncomputable def evB (C : Nat → List V → M Bd) (ρ : Fm) (isAnd : Bool) : MEs → M V
  | .nil => ret (.bool isAnd)
  | .cons e r => bnd (ev C ρ e) fun x => bnd (lift (asBool x)) fun b => if b = isAnd then evB C ρ isAnd r else ret (.bool b)
end
noncomputable def cond (C : Nat → List V → M Bd) (ρ : Fm) (e : ME) : M Bool := bnd (ev C ρ e) fun x => lift (asBool x)
inductive Fl where
  | next
  | brk
  | ret (b : Bd)
abbrev St := Fl × Fm
noncomputable def iterW (c : Fm → M Bool) (b : Fm → M St) : Nat → Fm → M St
  | 0, _ => fail
  | n + 1, ρ => bnd (c ρ) fun t => if t then bnd (b ρ) fun s => match s with
      | (.next, ρ') => iterW c b n ρ'
      | (.brk, ρ') => ret (.next, ρ')
      | (.ret v, ρ') => ret (.ret v, ρ')
    else ret (.next, ρ)
noncomputable def iterL (x : Nat) (b : Fm → M St) : List V → Fm → M St
  | [], ρ => ret (.next, ρ)
  | v :: r, ρ => bnd (b (put ρ x (.val v))) fun s => match s with
      | (.next, ρ') => iterL x b r ρ'
      | (.brk, ρ') => ret (.next, ρ')
      | (.ret v, ρ') => ret (.ret v, ρ')
noncomputable def intsTo (n : Nat) : List V := (List.range n).map fun (i : Nat) => V.int i
noncomputable def loopLid : Nat := 100000
mutual
noncomputable def ex (C : Nat → List V → M Bd) (ρ : Fm) : MS → M St
  | .set x e => bnd (ev C ρ e) fun v => ret (.next, put ρ x (.val v))
  | .setOwn x f es => bnd (evs C ρ es) fun l => bnd (C f l) fun b => match b with | .own l => ret (.next, put ρ x (.own l)) | _ => fail
  | .newL x => ret (.next, put ρ x (.own []))
  | .set2 x y e => bnd (ev C ρ e) fun v => match v with | .tup [a, b] => ret (.next, put (put ρ x (.val a)) y (.val b)) | _ => fail
  | .pair x y a b => bnd (ev C ρ a) fun u => bnd (ev C ρ b) fun v => ret (.next, put (put ρ x (.val u)) y (.val v))
  | .aug x op e => bnd (lift (match get ρ x with | some (.val v) => some v | _ => none)) fun u => bnd (ev C ρ e) fun v => bnd (lift (match u, v with | .int _, .int _ => binop op u v | _, _ => none)) fun r => ret (.next, put ρ x (.val r))
  | .app x e => bnd (lift (match get ρ x with | some (.own l) => some l | _ => none)) fun l => bnd (ev C ρ e) fun v => if l.length < lid then ret (.next, put ρ x (.own (l ++ [v]))) else fail
  | .revs x => bnd (lift (match get ρ x with | some (.own l) => some l | _ => none)) fun l => if l.length ≤ lid then ret (.next, put ρ x (.own l.reverse)) else fail
  | .penSet x e => bnd (ev C ρ e) fun v => fun p => match v, get ρ x with | .int i, some (.val .pen) => some (.ok (.next, ρ), i) | _, _ => none
  | .expr e => bnd (ev C ρ e) fun v => match v with | .none => ret (.next, ρ) | .int _ => ret (.next, ρ) | _ => fail
  | .ite t a b => bnd (cond C ρ t) fun c => if c then exs C ρ a else exs C ρ b
  | .while_ t b => iterW (fun ρ => cond C ρ t) (fun ρ => exs C ρ b) loopLid ρ
  | .forS x e b => bnd (ev C ρ e) fun v => match v with | .str l => iterL x (fun ρ => exs C ρ b) (l.map fun c => .str [c]) ρ | _ => fail
  | .forL x e b => bnd (ev C ρ e) fun v => match v with | .list l => iterL x (fun ρ => exs C ρ b) l ρ | _ => fail
  | .forR x e b => bnd (ev C ρ e) fun v => match v with | .int i => if i.natAbs ≤ lid then iterL x (fun ρ => exs C ρ b) (intsTo i.toNat) ρ else fail | _ => fail
  | .ret e => bnd (ev C ρ e) fun v => ret (.ret (.val v), ρ)
  | .ret0 => ret (.ret (.val .none), ρ)
  | .retOwn x => bnd (lift (match get ρ x with | some (.own l) => some l | _ => none)) fun l => ret (.ret (.own l), ρ)
  | .retCallOwn f x => bnd (lift (match get ρ x with | some (.own l) => some l | _ => none)) fun l => bnd (C f [.list l]) fun b => ret (.ret b, [])
  | .raise a b => bnd (ev C ρ a) fun x => bnd (ev C ρ b) fun y => match x with | .str l => (fun p => some (.exn ⟨1, l, y⟩, p)) | _ => fail
  | .brk => ret (.brk, ρ)
  | .heard b => fun p => match exs C ρ b p with
      | some (.exn x, q) => some (.ok (.ret (.val (.tup [.str [114, 97, 105, 115, 101, 100], .int x.code, .str x.value, x.ec])), []), q)
      | r => r
  | .tryOk b => fun p => match exs C ρ b p with
      | some (.exn _, _) => none
      | r => r
  | .stuck => fail
noncomputable def exs (C : Nat → List V → M Bd) (ρ : Fm) : MSs → M St
  | .nil => ret (.next, ρ)
  | .cons s r => bnd (ex C ρ s) fun t => match t with
      | (.next, ρ') => exs C ρ' r
      | t => ret t
end
structure Fn where
  arity : Nat
  nloc : Nat
  body : MSs
noncomputable def f_is_blank : Fn := ⟨1, 1, (.cons (.ret (.inT false (.v 0) [V.str [32], V.str [9], V.str [10], V.str [11], V.str [12], V.str [13]])) .nil)⟩
noncomputable def f_digit : Fn := ⟨1, 2, (.cons (.ite (.cmp .ne (.len (.v 0)) (.c (V.int 1))) (.cons (.ret (.neg (.c (V.int 1)))) .nil) (.nil)) (.cons (.set 1 (.ord (.v 0))) (.cons (.ite (.chain (.c (V.int 48)) (.v 1) (.c (V.int 57))) (.cons (.ret (.bin .sub (.v 1) (.c (V.int 48)))) .nil) (.nil)) (.cons (.ite (.chain (.c (V.int 97)) (.v 1) (.c (V.int 122))) (.cons (.ret (.bin .sub (.v 1) (.c (V.int 87)))) .nil) (.nil)) (.cons (.ite (.chain (.c (V.int 65)) (.v 1) (.c (V.int 90))) (.cons (.ret (.bin .sub (.v 1) (.c (V.int 55)))) .nil) (.nil)) (.cons (.ret (.neg (.c (V.int 1)))) .nil))))))⟩
noncomputable def f_digits_value : Fn := ⟨2, 5, (.cons (.ite (.cmp .eq (.v 0) (.c (V.str []))) (.cons (.ret (.c (V.none))) .nil) (.nil)) (.cons (.set 2 (.c (V.int 0))) (.cons (.forS 3 (.v 0) (.cons (.set 4 (.call 3 (.cons (.v 3) .nil))) (.cons (.ite (.bo false (.cons (.cmp .lt (.v 4) (.c (V.int 0))) (.cons (.cmp .ge (.v 4) (.v 1)) .nil))) (.cons (.ret (.c (V.none))) .nil) (.nil)) (.cons (.set 2 (.bin .add (.bin .mul (.v 2) (.v 1)) (.v 4))) .nil)))) (.cons (.ret (.v 2)) .nil))))⟩
noncomputable def f_base_of : Fn := ⟨1, 1, (.cons (.ite (.inT false (.v 0) [V.str [120], V.str [88]]) (.cons (.ret (.c (V.int 16))) .nil) (.nil)) (.cons (.ite (.inT false (.v 0) [V.str [111], V.str [79]]) (.cons (.ret (.c (V.int 8))) .nil) (.nil)) (.cons (.ite (.inT false (.v 0) [V.str [98], V.str [66]]) (.cons (.ret (.c (V.int 2))) .nil) (.nil)) (.cons (.ite (.inT false (.v 0) [V.str [100], V.str [68]]) (.cons (.ret (.c (V.int 10))) .nil) (.nil)) (.cons (.ret (.c (V.int 0))) .nil)))))⟩
noncomputable def f_whole_of : Fn := ⟨1, 6, (.cons (.pair 1 2 (.c (V.int 0)) (.len (.v 0))) (.cons (.while_ (.bo true (.cons (.cmp .lt (.v 1) (.v 2)) (.cons (.call 2 (.cons (.idx (.v 0) (.v 1)) .nil)) .nil))) (.cons (.aug 1 .add (.c (V.int 1))) .nil)) (.cons (.while_ (.bo true (.cons (.cmp .lt (.v 1) (.v 2)) (.cons (.call 2 (.cons (.idx (.v 0) (.bin .sub (.v 2) (.c (V.int 1)))) .nil)) .nil))) (.cons (.aug 2 .sub (.c (V.int 1))) .nil)) (.cons (.set 3 (.c (V.bool false))) (.cons (.ite (.bo true (.cons (.cmp .lt (.v 1) (.v 2)) (.cons (.inT false (.idx (.v 0) (.v 1)) [V.str [43], V.str [45]]) .nil))) (.cons (.set 3 (.cmp .eq (.idx (.v 0) (.v 1)) (.c (V.str [45])))) (.cons (.aug 1 .add (.c (V.int 1))) .nil)) (.nil)) (.cons (.set 4 (.c (V.int 0))) (.cons (.ite (.bo true (.cons (.cmp .gt (.bin .sub (.v 2) (.v 1)) (.c (V.int 2))) (.cons (.cmp .eq (.idx (.v 0) (.v 1)) (.c (V.str [48]))) .nil))) (.cons (.set 4 (.call 5 (.cons (.idx (.v 0) (.bin .add (.v 1) (.c (V.int 1)))) .nil))) .nil) (.nil)) (.cons (.ite (.cmp .gt (.v 4) (.c (V.int 0))) (.cons (.set 5 (.call 4 (.cons (.sl (.v 0) (.bin .add (.v 1) (.c (V.int 2))) (.v 2)) (.cons (.v 4) .nil)))) .nil) (.cons (.set 5 (.call 4 (.cons (.sl (.v 0) (.v 1) (.v 2)) (.cons (.c (V.int 10)) .nil)))) .nil)) (.cons (.ite (.isNone 5) (.cons (.ret (.c (V.none))) .nil) (.nil)) (.cons (.ret (.ifx (.v 3) (.neg (.v 5)) (.v 5))) .nil))))))))))⟩
noncomputable def f_need_whole : Fn := ⟨1, 2, (.cons (.set 1 (.call 6 (.cons (.v 0) .nil))) (.cons (.ite (.isNone 1) (.cons (.raise (.bin .add (.bin .add (.c (V.str [101, 120, 112, 101, 99, 116, 101, 100, 32, 105, 110, 116, 101, 103, 101, 114, 32, 98, 117, 116, 32, 103, 111, 116, 32, 34])) (.v 0)) (.c (V.str [34]))) (.tup (.cons (.c (V.str [84, 67, 76])) (.cons (.c (V.str [86, 65, 76, 85, 69])) (.cons (.c (V.str [78, 85, 77, 66, 69, 82])) .nil))))) .nil) (.nil)) (.cons (.ret (.v 1)) .nil)))⟩
noncomputable def f_moved : Fn := ⟨2, 3, (.cons (.set 2 (.call 4 (.cons (.slF (.v 1) (.c (V.int 1))) (.cons (.c (V.int 10)) .nil)))) (.cons (.ite (.isNone 2) (.cons (.ret (.c (V.none))) .nil) (.nil)) (.cons (.ite (.cmp .eq (.idx (.v 1) (.c (V.int 0))) (.c (V.str [43]))) (.cons (.ret (.bin .add (.v 0) (.v 2))) .nil) (.nil)) (.cons (.ite (.cmp .eq (.idx (.v 1) (.c (V.int 0))) (.c (V.str [45]))) (.cons (.ret (.bin .sub (.v 0) (.v 2))) .nil) (.nil)) (.cons (.ret (.c (V.none))) .nil)))))⟩
noncomputable def f_index_of : Fn := ⟨2, 5, (.cons (.set 2 (.call 6 (.cons (.v 0) .nil))) (.cons (.ite (.notNone 2) (.cons (.ret (.v 2)) .nil) (.nil)) (.cons (.ite (.starts (.v 0) (.c (V.str [101, 110, 100]))) (.cons (.set 2 (.ifx (.cmp .eq (.v 0) (.c (V.str [101, 110, 100]))) (.v 1) (.call 8 (.cons (.v 1) (.cons (.slF (.v 0) (.c (V.int 3))) .nil))))) .nil) (.cons (.set 3 (.c (V.int 1))) (.cons (.while_ (.bo true (.cons (.cmp .lt (.v 3) (.len (.v 0))) (.cons (.bo false (.cons (.inT true (.idx (.v 0) (.v 3)) [V.str [43], V.str [45]]) (.cons (.call 2 (.cons (.idx (.v 0) (.bin .sub (.v 3) (.c (V.int 1)))) .nil)) .nil))) .nil))) (.cons (.aug 3 .add (.c (V.int 1))) .nil)) (.cons (.set 4 (.call 6 (.cons (.slT (.v 0) (.v 3)) .nil))) (.cons (.ite (.notNone 4) (.cons (.set 2 (.call 8 (.cons (.v 4) (.cons (.slF (.v 0) (.v 3)) .nil)))) .nil) (.nil)) .nil))))) (.cons (.ite (.isNone 2) (.cons (.raise (.bin .add (.bin .add (.c (V.str [98, 97, 100, 32, 105, 110, 100, 101, 120, 32, 34])) (.v 0)) (.c (V.str [34, 58, 32, 109, 117, 115, 116, 32, 98, 101, 32, 105, 110, 116, 101, 103, 101, 114, 63, 91, 43, 45, 93, 105, 110, 116, 101, 103, 101, 114, 63, 32, 111, 114, 32, 101, 110, 100, 63, 91, 43, 45, 93, 105, 110, 116, 101, 103, 101, 114, 63]))) (.tup (.cons (.c (V.str [84, 67, 76])) (.cons (.c (V.str [86, 65, 76, 85, 69])) (.cons (.c (V.str [73, 78, 68, 69, 88])) .nil))))) .nil) (.nil)) (.cons (.ret (.v 2)) .nil)))))⟩
noncomputable def f_wide : Fn := ⟨1, 2, (.cons (.set 1 (.bin .band (.v 0) (.bin .sub (.bin .shl (.c (V.int 1)) (.c (V.int 64))) (.c (V.int 1))))) (.cons (.ite (.cmp .eq (.bin .shr (.v 1) (.c (V.int 63))) (.c (V.int 1))) (.cons (.ret (.bin .sub (.v 1) (.bin .shl (.c (V.int 1)) (.c (V.int 64))))) .nil) (.nil)) (.cons (.ret (.v 1)) .nil)))⟩
noncomputable def f_need_index_pair : Fn := ⟨3, 5, (.cons (.set 3 (.call 9 (.cons (.v 0) (.cons (.v 2) .nil)))) (.cons (.set 4 (.call 9 (.cons (.v 1) (.cons (.v 2) .nil)))) (.cons (.ret (.tup (.cons (.max (.c (V.int 0)) (.min (.v 3) (.bin .add (.v 2) (.c (V.int 1))))) (.cons (.max (.neg (.c (V.int 1))) (.min (.v 4) (.v 2))) .nil)))) .nil)))⟩
noncomputable def f_backslash : Fn := ⟨2, 5, (.cons (.set 2 (.sl (.v 0) (.bin .add (.v 1) (.c (V.int 1))) (.bin .add (.v 1) (.c (V.int 2))))) (.cons (.ite (.cmp .eq (.v 2) (.c (V.str []))) (.cons (.ret (.tup (.cons (.c (V.str [92])) (.cons (.bin .add (.v 1) (.c (V.int 1))) .nil)))) .nil) (.nil)) (.cons (.set 3 (.find (.c (V.str [97, 98, 102, 110, 114, 116, 118])) (.v 2))) (.cons (.ite (.cmp .ge (.v 3) (.c (V.int 0))) (.cons (.ret (.tup (.cons (.idx (.c (V.str [7, 8, 12, 10, 13, 9, 11])) (.v 3)) (.cons (.bin .add (.v 1) (.c (V.int 2))) .nil)))) .nil) (.nil)) (.cons (.ite (.cmp .eq (.v 2) (.c (V.str [10]))) (.cons (.set 4 (.bin .add (.v 1) (.c (V.int 2)))) (.cons (.while_ (.inT false (.sl (.v 0) (.v 4) (.bin .add (.v 4) (.c (V.int 1)))) [V.str [32], V.str [9]]) (.cons (.aug 4 .add (.c (V.int 1))) .nil)) (.cons (.ret (.tup (.cons (.c (V.str [32])) (.cons (.v 4) .nil)))) .nil))) (.nil)) (.cons (.ite (.inT false (.v 2) [V.str [120], V.str [117], V.str [85]]) (.cons (.ret (.stuck)) .nil) (.nil)) (.cons (.ite (.inT false (.v 2) [V.str [48], V.str [49], V.str [50], V.str [51], V.str [52], V.str [53], V.str [54], V.str [55]]) (.cons (.ret (.stuck)) .nil) (.nil)) (.cons (.ret (.tup (.cons (.v 2) (.cons (.bin .add (.v 1) (.c (V.int 2))) .nil)))) .nil))))))))⟩
noncomputable def f_check_behind : Fn := ⟨3, 4, (.cons (.ite (.bo false (.cons (.cmp .ge (.v 1) (.len (.v 0))) (.cons (.call 2 (.cons (.idx (.v 0) (.v 1)) .nil)) .nil))) (.cons (.ret0) .nil) (.nil)) (.cons (.set 3 (.v 1)) (.cons (.while_ (.bo true (.cons (.cmp .lt (.v 3) (.len (.v 0))) (.cons (.cmp .lt (.v 3) (.bin .add (.v 1) (.c (V.int 20)))) (.cons (.not (.call 2 (.cons (.idx (.v 0) (.v 3)) .nil))) .nil)))) (.cons (.aug 3 .add (.c (V.int 1))) .nil)) (.cons (.raise (.bin .add (.bin .add (.bin .add (.bin .add (.c (V.str [108, 105, 115, 116, 32, 101, 108, 101, 109, 101, 110, 116, 32, 105, 110, 32])) (.v 2)) (.c (V.str [32, 102, 111, 108, 108, 111, 119, 101, 100, 32, 98, 121, 32, 34]))) (.sl (.v 0) (.v 1) (.v 3))) (.c (V.str [34, 32, 105, 110, 115, 116, 101, 97, 100, 32, 111, 102, 32, 115, 112, 97, 99, 101]))) (.tup (.cons (.c (V.str [84, 67, 76])) (.cons (.c (V.str [86, 65, 76, 85, 69])) (.cons (.c (V.str [76, 73, 83, 84])) (.cons (.c (V.str [74, 85, 78, 75])) .nil)))))) .nil))))⟩
noncomputable def f_braced_element : Fn := ⟨2, 5, (.cons (.pair 2 3 (.c (V.int 1)) (.v 1)) (.cons (.while_ (.cmp .lt (.v 3) (.len (.v 0))) (.cons (.set 4 (.idx (.v 0) (.v 3))) (.cons (.ite (.cmp .eq (.v 4) (.c (V.str [92]))) (.cons (.aug 3 .add (.c (V.int 1))) .nil) (.cons (.ite (.cmp .eq (.v 4) (.c (V.str [123]))) (.cons (.aug 2 .add (.c (V.int 1))) .nil) (.cons (.ite (.cmp .eq (.v 4) (.c (V.str [125]))) (.cons (.aug 2 .sub (.c (V.int 1))) (.cons (.ite (.cmp .eq (.v 2) (.c (V.int 0))) (.cons (.expr (.call 15 (.cons (.v 0) (.cons (.bin .add (.v 3) (.c (V.int 1))) (.cons (.c (V.str [98, 114, 97, 99, 101, 115])) .nil))))) (.cons (.ret (.tup (.cons (.sl (.v 0) (.v 1) (.v 3)) (.cons (.bin .add (.v 3) (.c (V.int 1))) .nil)))) .nil)) (.nil)) .nil)) (.nil)) .nil)) .nil)) (.cons (.aug 3 .add (.c (V.int 1))) .nil)))) (.cons (.raise (.c (V.str [117, 110, 109, 97, 116, 99, 104, 101, 100, 32, 111, 112, 101, 110, 32, 98, 114, 97, 99, 101, 32, 105, 110, 32, 108, 105, 115, 116])) (.tup (.cons (.c (V.str [84, 67, 76])) (.cons (.c (V.str [86, 65, 76, 85, 69])) (.cons (.c (V.str [76, 73, 83, 84])) (.cons (.c (V.str [66, 82, 65, 67, 69])) .nil)))))) .nil)))⟩
noncomputable def f_quoted_element : Fn := ⟨2, 4, (.cons (.newL 2) (.cons (.while_ (.cmp .lt (.v 1) (.len (.v 0))) (.cons (.set 3 (.idx (.v 0) (.v 1))) (.cons (.ite (.cmp .eq (.v 3) (.c (V.str [92]))) (.cons (.set2 3 1 (.call 14 (.cons (.v 0) (.cons (.v 1) .nil)))) .nil) (.cons (.ite (.cmp .eq (.v 3) (.c (V.str [34]))) (.cons (.expr (.call 15 (.cons (.v 0) (.cons (.bin .add (.v 1) (.c (V.int 1))) (.cons (.c (V.str [113, 117, 111, 116, 101, 115])) .nil))))) (.cons (.ret (.tup (.cons (.joinV (.c (V.str [])) 2) (.cons (.bin .add (.v 1) (.c (V.int 1))) .nil)))) .nil)) (.cons (.aug 1 .add (.c (V.int 1))) .nil)) .nil)) (.cons (.app 2 (.v 3)) .nil)))) (.cons (.raise (.c (V.str [117, 110, 109, 97, 116, 99, 104, 101, 100, 32, 111, 112, 101, 110, 32, 113, 117, 111, 116, 101, 32, 105, 110, 32, 108, 105, 115, 116])) (.tup (.cons (.c (V.str [84, 67, 76])) (.cons (.c (V.str [86, 65, 76, 85, 69])) (.cons (.c (V.str [76, 73, 83, 84])) (.cons (.c (V.str [81, 85, 79, 84, 69])) .nil)))))) .nil)))⟩
noncomputable def f_bare_element : Fn := ⟨2, 4, (.cons (.newL 2) (.cons (.while_ (.bo true (.cons (.cmp .lt (.v 1) (.len (.v 0))) (.cons (.not (.call 2 (.cons (.idx (.v 0) (.v 1)) .nil))) .nil))) (.cons (.set 3 (.idx (.v 0) (.v 1))) (.cons (.ite (.cmp .eq (.v 3) (.c (V.str [92]))) (.cons (.set2 3 1 (.call 14 (.cons (.v 0) (.cons (.v 1) .nil)))) .nil) (.cons (.aug 1 .add (.c (V.int 1))) .nil)) (.cons (.app 2 (.v 3)) .nil)))) (.cons (.ret (.tup (.cons (.joinV (.c (V.str [])) 2) (.cons (.v 1) .nil)))) .nil)))⟩
noncomputable def f_find_element : Fn := ⟨2, 2, (.cons (.while_ (.bo true (.cons (.cmp .lt (.v 1) (.len (.v 0))) (.cons (.call 2 (.cons (.idx (.v 0) (.v 1)) .nil)) .nil))) (.cons (.aug 1 .add (.c (V.int 1))) .nil)) (.cons (.ite (.cmp .ge (.v 1) (.len (.v 0))) (.cons (.ret (.c (V.none))) .nil) (.nil)) (.cons (.ite (.cmp .eq (.idx (.v 0) (.v 1)) (.c (V.str [123]))) (.cons (.ret (.call 16 (.cons (.v 0) (.cons (.bin .add (.v 1) (.c (V.int 1))) .nil)))) .nil) (.nil)) (.cons (.ite (.cmp .eq (.idx (.v 0) (.v 1)) (.c (V.str [34]))) (.cons (.ret (.call 17 (.cons (.v 0) (.cons (.bin .add (.v 1) (.c (V.int 1))) .nil)))) .nil) (.nil)) (.cons (.ret (.call 18 (.cons (.v 0) (.cons (.v 1) .nil)))) .nil)))))⟩
noncomputable def f_split_list : Fn := ⟨1, 3, (.cons (.newL 1) (.cons (.set 2 (.call 19 (.cons (.v 0) (.cons (.c (V.int 0)) .nil)))) (.cons (.while_ (.notNone 2) (.cons (.app 1 (.idx (.v 2) (.c (V.int 0)))) (.cons (.set 2 (.call 19 (.cons (.v 0) (.cons (.idx (.v 2) (.c (V.int 1))) .nil)))) .nil))) (.cons (.retOwn 1) .nil))))⟩
noncomputable def f_mode_of : Fn := ⟨2, 10, (.cons (.ite (.cmp .eq (.v 0) (.c (V.str []))) (.cons (.ret (.c (V.str [98, 114, 97, 99, 101]))) .nil) (.nil)) (.cons (.set 2 (.idx (.v 0) (.c (V.int 0)))) (.cons (.set 3 (.inT false (.v 2) [V.str [123], V.str [34]])) (.cons (.set 4 (.bo true (.cons (.v 1) (.cons (.cmp .eq (.v 2) (.c (V.str [35]))) .nil)))) (.cons (.set 5 (.bo false (.cons (.v 3) (.cons (.v 4) .nil)))) (.cons (.set 6 (.c (V.bool false))) (.cons (.pair 7 8 (.c (V.int 0)) (.c (V.int 0))) (.cons (.while_ (.cmp .lt (.v 8) (.len (.v 0))) (.cons (.set 9 (.idx (.v 0) (.v 8))) (.cons (.aug 8 .add (.c (V.int 1))) (.cons (.ite (.cmp .eq (.v 9) (.c (V.str [123]))) (.cons (.aug 7 .add (.c (V.int 1))) .nil) (.cons (.ite (.cmp .eq (.v 9) (.c (V.str [125]))) (.cons (.aug 7 .sub (.c (V.int 1))) (.cons (.ite (.cmp .lt (.v 7) (.c (V.int 0))) (.cons (.ret (.c (V.str [101, 115, 99, 97, 112, 101]))) .nil) (.nil)) .nil)) (.cons (.ite (.inT false (.v 9) [V.str [93], V.str [34]]) (.cons (.set 3 (.c (V.bool true))) (.cons (.set 6 (.c (V.bool true))) .nil)) (.cons (.ite (.bo false (.cons (.inT false (.v 9) [V.str [91], V.str [36], V.str [59], V.str [92]]) (.cons (.call 2 (.cons (.v 9) .nil)) .nil))) (.cons (.set 3 (.c (V.bool true))) (.cons (.set 5 (.c (V.bool true))) (.cons (.ite (.cmp .eq (.v 9) (.c (V.str [92]))) (.cons (.ite (.bo false (.cons (.cmp .eq (.v 8) (.len (.v 0))) (.cons (.cmp .eq (.idx (.v 0) (.v 8)) (.c (V.str [10]))) .nil))) (.cons (.ret (.c (V.str [101, 115, 99, 97, 112, 101]))) .nil) (.nil)) (.cons (.ite (.inT false (.idx (.v 0) (.v 8)) [V.str [123], V.str [125], V.str [92]]) (.cons (.aug 8 .add (.c (V.int 1))) .nil) (.nil)) .nil)) (.nil)) .nil))) (.nil)) .nil)) .nil)) .nil)) .nil)))) (.cons (.ite (.cmp .gt (.v 7) (.c (V.int 0))) (.cons (.ret (.c (V.str [101, 115, 99, 97, 112, 101]))) .nil) (.nil)) (.cons (.ite (.v 3) (.cons (.ret (.ifx (.bo true (.cons (.v 6) (.cons (.not (.v 5)) .nil))) (.c (V.str [109, 97, 115, 107])) (.c (V.str [98, 114, 97, 99, 101])))) .nil) (.nil)) (.cons (.ret (.ifx (.v 4) (.c (V.str [98, 114, 97, 99, 101])) (.c (V.str [110, 111, 110, 101])))) .nil)))))))))))⟩
noncomputable def f_escaped : Fn := ⟨2, 3, (.cons (.set 2 (.find (.c (V.str [12, 10, 13, 9, 11])) (.v 0))) (.cons (.ite (.cmp .ge (.v 2) (.c (V.int 0))) (.cons (.ret (.bin .add (.c (V.str [92])) (.idx (.c (V.str [102, 110, 114, 116, 118])) (.v 2)))) .nil) (.nil)) (.cons (.ite (.bo false (.cons (.inT false (.v 0) [V.str [93], V.str [91], V.str [36], V.str [59], V.str [32], V.str [92], V.str [34]]) (.cons (.bo true (.cons (.v 1) (.cons (.inT false (.v 0) [V.str [123], V.str [125]]) .nil))) .nil))) (.cons (.ret (.bin .add (.c (V.str [92])) (.v 0))) .nil) (.nil)) (.cons (.ret (.v 0)) .nil))))⟩
noncomputable def f_quote : Fn := ⟨2, 5, (.cons (.set 2 (.call 21 (.cons (.v 0) (.cons (.v 1) .nil)))) (.cons (.ite (.cmp .eq (.v 2) (.c (V.str [110, 111, 110, 101]))) (.cons (.ret (.v 0)) .nil) (.nil)) (.cons (.ite (.cmp .eq (.v 2) (.c (V.str [98, 114, 97, 99, 101]))) (.cons (.ret (.bin .add (.bin .add (.c (V.str [123])) (.v 0)) (.c (V.str [125])))) .nil) (.nil)) (.cons (.newL 3) (.cons (.ite (.bo true (.cons (.v 1) (.cons (.cmp .eq (.idx (.v 0) (.c (V.int 0))) (.c (V.str [35]))) .nil))) (.cons (.app 3 (.c (V.str [92]))) .nil) (.nil)) (.cons (.forS 4 (.v 0) (.cons (.app 3 (.call 22 (.cons (.v 4) (.cons (.cmp .eq (.v 2) (.c (V.str [101, 115, 99, 97, 112, 101]))) .nil)))) .nil)) (.cons (.ret (.joinV (.c (V.str [])) 3)) .nil)))))))⟩
noncomputable def f_join_list : Fn := ⟨1, 3, (.cons (.newL 1) (.cons (.forL 2 (.v 0) (.cons (.app 1 (.call 23 (.cons (.v 2) (.cons (.cmp .eq (.lenV 1) (.c (V.int 0))) .nil)))) .nil)) (.cons (.ret (.joinV (.c (V.str [32])) 1)) .nil)))⟩
noncomputable def f_trim : Fn := ⟨1, 3, (.cons (.pair 1 2 (.c (V.int 0)) (.len (.v 0))) (.cons (.while_ (.bo true (.cons (.cmp .lt (.v 1) (.v 2)) (.cons (.call 2 (.cons (.idx (.v 0) (.v 1)) .nil)) .nil))) (.cons (.aug 1 .add (.c (V.int 1))) .nil)) (.cons (.while_ (.bo true (.cons (.cmp .lt (.v 1) (.v 2)) (.cons (.call 2 (.cons (.idx (.v 0) (.bin .sub (.v 2) (.c (V.int 1)))) .nil)) .nil))) (.cons (.aug 2 .sub (.c (V.int 1))) .nil)) (.cons (.ret (.sl (.v 0) (.v 1) (.v 2))) .nil))))⟩
noncomputable def f_concat_part : Fn := ⟨1, 3, (.cons (.set 1 (.call 25 (.cons (.v 0) .nil))) (.cons (.ite (.ends (.v 1) (.c (V.str [92]))) (.cons (.set 2 (.bin .add (.rfind (.v 0) (.c (V.str [92]))) (.c (V.int 1)))) (.cons (.ret (.bin .add (.v 1) (.sl (.v 0) (.v 2) (.bin .add (.v 2) (.c (V.int 1)))))) .nil)) (.nil)) (.cons (.ret (.v 1)) .nil)))⟩
noncomputable def f_concat : Fn := ⟨1, 4, (.cons (.newL 1) (.cons (.forL 2 (.v 0) (.cons (.set 3 (.call 26 (.cons (.v 2) .nil))) (.cons (.ite (.cmp .ne (.v 3) (.c (V.str []))) (.cons (.app 1 (.v 3)) .nil) (.nil)) .nil))) (.cons (.ret (.joinV (.c (V.str [32])) 1)) .nil)))⟩
noncomputable def f_indices_of : Fn := ⟨1, 1, (.cons (.ite (.cmp .ne (.len (.v 0)) (.c (V.int 1))) (.cons (.ret (.v 0)) .nil) (.nil)) (.cons (.tryOk (.cons (.ret (.call 20 (.cons (.idx (.v 0) (.c (V.int 0))) .nil))) .nil)) .nil))⟩
noncomputable def f_at_path : Fn := ⟨2, 6, (.cons (.forR 2 (.len (.v 1)) (.cons (.set 3 (.call 20 (.cons (.v 0) .nil))) (.cons (.set 4 (.call 9 (.cons (.idx (.v 1) (.v 2)) (.cons (.bin .sub (.len (.v 3)) (.c (V.int 1))) .nil)))) (.cons (.ite (.bo false (.cons (.cmp .lt (.v 4) (.c (V.int 0))) (.cons (.cmp .ge (.v 4) (.len (.v 3))) .nil))) (.cons (.forL 5 (.slF (.v 1) (.bin .add (.v 2) (.c (V.int 1)))) (.cons (.expr (.call 9 (.cons (.v 5) (.cons (.neg (.c (V.int 1))) .nil)))) .nil)) (.cons (.ret (.c (V.str []))) .nil)) (.nil)) (.cons (.set 0 (.idx (.v 3) (.v 4))) .nil))))) (.cons (.ret (.v 0)) .nil))⟩
noncomputable def f_split_text : Fn := ⟨2, 5, (.cons (.ite (.cmp .eq (.v 0) (.c (V.str []))) (.cons (.ret (.lst (.nil))) .nil) (.nil)) (.cons (.ite (.cmp .eq (.v 1) (.c (V.str []))) (.cons (.ret (.signs (.v 0))) .nil) (.nil)) (.cons (.newL 2) (.cons (.set 3 (.c (V.int 0))) (.cons (.forR 4 (.len (.v 0)) (.cons (.ite (.inS false (.idx (.v 0) (.v 4)) (.v 1)) (.cons (.app 2 (.sl (.v 0) (.v 3) (.v 4))) (.cons (.set 3 (.bin .add (.v 4) (.c (V.int 1)))) .nil)) (.nil)) .nil)) (.cons (.app 2 (.slF (.v 0) (.v 3))) (.cons (.retOwn 2) .nil)))))))⟩
noncomputable def f_do_list : Fn := ⟨2, 2, (.cons (.ret (.call 24 (.cons (.slF (.v 1) (.c (V.int 1))) .nil))) .nil)⟩
noncomputable def f_do_llength : Fn := ⟨2, 2, (.cons (.ite (.cmp .ne (.len (.v 1)) (.c (V.int 2))) (.cons (.stuck) .nil) (.nil)) (.cons (.ret (.str (.len (.call 20 (.cons (.idx (.v 1) (.c (V.int 1))) .nil))))) .nil))⟩
noncomputable def f_do_lindex : Fn := ⟨2, 2, (.cons (.ite (.cmp .lt (.len (.v 1)) (.c (V.int 2))) (.cons (.stuck) .nil) (.nil)) (.cons (.ret (.call 29 (.cons (.idx (.v 1) (.c (V.int 1))) (.cons (.call 28 (.cons (.slF (.v 1) (.c (V.int 2))) .nil)) .nil)))) .nil))⟩
noncomputable def f_do_lrange : Fn := ⟨2, 5, (.cons (.ite (.cmp .ne (.len (.v 1)) (.c (V.int 4))) (.cons (.stuck) .nil) (.nil)) (.cons (.set 2 (.call 20 (.cons (.idx (.v 1) (.c (V.int 1))) .nil))) (.cons (.set2 3 4 (.call 11 (.cons (.idx (.v 1) (.c (V.int 2))) (.cons (.idx (.v 1) (.c (V.int 3))) (.cons (.bin .sub (.len (.v 2)) (.c (V.int 1))) .nil))))) (.cons (.ret (.call 24 (.cons (.sl (.v 2) (.v 3) (.bin .add (.v 4) (.c (V.int 1)))) .nil))) .nil))))⟩
noncomputable def f_do_concat : Fn := ⟨2, 2, (.cons (.ret (.call 27 (.cons (.slF (.v 1) (.c (V.int 1))) .nil))) .nil)⟩
noncomputable def f_do_join : Fn := ⟨2, 3, (.cons (.ite (.inT true (.len (.v 1)) [V.int 2, V.int 3]) (.cons (.stuck) .nil) (.nil)) (.cons (.set 2 (.ifx (.cmp .eq (.len (.v 1)) (.c (V.int 3))) (.idx (.v 1) (.c (V.int 2))) (.c (V.str [32])))) (.cons (.ret (.join (.v 2) (.call 20 (.cons (.idx (.v 1) (.c (V.int 1))) .nil)))) .nil)))⟩
noncomputable def f_do_split : Fn := ⟨2, 3, (.cons (.ite (.inT true (.len (.v 1)) [V.int 2, V.int 3]) (.cons (.stuck) .nil) (.nil)) (.cons (.set 2 (.ifx (.cmp .eq (.len (.v 1)) (.c (V.int 3))) (.idx (.v 1) (.c (V.int 2))) (.c (V.str [32, 10, 9, 13])))) (.cons (.ret (.call 24 (.cons (.call 30 (.cons (.idx (.v 1) (.c (V.int 1))) (.cons (.v 2) .nil))) .nil))) .nil)))⟩
noncomputable def f_do_lrepeat : Fn := ⟨2, 4, (.cons (.ite (.cmp .lt (.len (.v 1)) (.c (V.int 2))) (.cons (.stuck) .nil) (.nil)) (.cons (.set 2 (.call 7 (.cons (.idx (.v 1) (.c (V.int 1))) .nil))) (.cons (.ite (.cmp .ne (.call 10 (.cons (.v 2) .nil)) (.v 2)) (.cons (.set 3 (.c (V.str [105, 110, 116, 101, 103, 101, 114, 32, 118, 97, 108, 117, 101, 32, 116, 111, 111, 32, 108, 97, 114, 103, 101, 32, 116, 111, 32, 114, 101, 112, 114, 101, 115, 101, 110, 116]))) (.cons (.raise (.v 3) (.tup (.cons (.c (V.str [65, 82, 73, 84, 72])) (.cons (.c (V.str [73, 79, 86, 69, 82, 70, 76, 79, 87])) (.cons (.v 3) .nil))))) .nil)) (.nil)) (.cons (.ite (.cmp .lt (.v 2) (.c (V.int 0))) (.cons (.raise (.bin .add (.bin .add (.c (V.str [98, 97, 100, 32, 99, 111, 117, 110, 116, 32, 34])) (.str (.v 2))) (.c (V.str [34, 58, 32, 109, 117, 115, 116, 32, 98, 101, 32, 105, 110, 116, 101, 103, 101, 114, 32, 62, 61, 32, 48]))) (.tup (.cons (.c (V.str [84, 67, 76])) (.cons (.c (V.str [79, 80, 69, 82, 65, 84, 73, 79, 78])) (.cons (.c (V.str [76, 82, 69, 80, 69, 65, 84])) (.cons (.c (V.str [78, 69, 71, 65, 82, 71])) .nil)))))) .nil) (.nil)) (.cons (.ret (.call 24 (.cons (.bin .mul (.slF (.v 1) (.c (V.int 2))) (.v 2)) .nil))) .nil)))))⟩
noncomputable def f_do_lreverse : Fn := ⟨2, 3, (.cons (.ite (.cmp .ne (.len (.v 1)) (.c (V.int 2))) (.cons (.stuck) .nil) (.nil)) (.cons (.setOwn 2 20 (.cons (.idx (.v 1) (.c (V.int 1))) .nil)) (.cons (.ite (.cmp .eq (.lenV 2) (.c (V.int 0))) (.cons (.ret (.idx (.v 1) (.c (V.int 1)))) .nil) (.nil)) (.cons (.revs 2) (.cons (.retCallOwn 24 2) .nil)))))⟩
noncomputable def f_replaced : Fn := ⟨4, 6, (.cons (.set 4 (.max (.c (V.int 0)) (.min (.v 1) (.len (.v 0))))) (.cons (.set 5 (.max (.v 4) (.min (.bin .add (.v 2) (.c (V.int 1))) (.len (.v 0))))) (.cons (.ret (.bin .add (.bin .add (.slT (.v 0) (.v 4)) (.v 3)) (.slF (.v 0) (.v 5)))) .nil)))⟩
noncomputable def f_inserted : Fn := ⟨3, 3, (.cons (.ret (.call 40 (.cons (.v 0) (.cons (.v 1) (.cons (.bin .sub (.v 1) (.c (V.int 1))) (.cons (.v 2) .nil)))))) .nil)⟩
noncomputable def f_do_linsert : Fn := ⟨2, 4, (.cons (.ite (.cmp .lt (.len (.v 1)) (.c (V.int 3))) (.cons (.stuck) .nil) (.nil)) (.cons (.set 2 (.call 20 (.cons (.idx (.v 1) (.c (V.int 1))) .nil))) (.cons (.set 3 (.call 9 (.cons (.idx (.v 1) (.c (V.int 2))) (.cons (.len (.v 2)) .nil)))) (.cons (.ret (.call 24 (.cons (.call 41 (.cons (.v 2) (.cons (.v 3) (.cons (.slF (.v 1) (.c (V.int 3))) .nil)))) .nil))) .nil))))⟩
noncomputable def f_edited : Fn := ⟨2, 5, (.cons (.set 2 (.call 20 (.cons (.v 0) .nil))) (.cons (.set 3 (.call 9 (.cons (.idx (.v 1) (.c (V.int 2))) (.cons (.bin .sub (.len (.v 2)) (.c (V.int 1))) .nil)))) (.cons (.set 4 (.call 9 (.cons (.idx (.v 1) (.c (V.int 3))) (.cons (.bin .sub (.len (.v 2)) (.c (V.int 1))) .nil)))) (.cons (.ret (.call 24 (.cons (.call 40 (.cons (.v 2) (.cons (.v 3) (.cons (.v 4) (.cons (.slF (.v 1) (.c (V.int 4))) .nil))))) .nil))) .nil))))⟩
noncomputable def f_do_lreplace : Fn := ⟨2, 2, (.cons (.ite (.cmp .lt (.len (.v 1)) (.c (V.int 4))) (.cons (.stuck) .nil) (.nil)) (.cons (.ret (.call 43 (.cons (.idx (.v 1) (.c (V.int 1))) (.cons (.v 1) .nil)))) .nil))⟩
noncomputable def f_replace : Fn := ⟨4, 5, (.cons (.set 4 (.bin .sub (.len (.v 0)) (.c (V.int 1)))) (.cons (.ite (.bo false (.cons (.cmp .lt (.v 2) (.c (V.int 0))) (.cons (.cmp .gt (.v 1) (.v 4)) (.cons (.cmp .lt (.v 2) (.v 1)) .nil)))) (.cons (.ret (.v 0)) .nil) (.nil)) (.cons (.ite (.cmp .lt (.v 1) (.c (V.int 0))) (.cons (.set 1 (.c (V.int 0))) .nil) (.nil)) (.cons (.ite (.cmp .gt (.v 2) (.v 4)) (.cons (.set 2 (.v 4)) .nil) (.nil)) (.cons (.ret (.bin .add (.bin .add (.slT (.v 0) (.v 1)) (.v 3)) (.slF (.v 0) (.bin .add (.v 2) (.c (V.int 1)))))) .nil)))))⟩
noncomputable def f_need_wide : Fn := ⟨1, 3, (.cons (.set 1 (.call 7 (.cons (.v 0) .nil))) (.cons (.ite (.cmp .ne (.call 10 (.cons (.v 1) .nil)) (.v 1)) (.cons (.set 2 (.c (V.str [105, 110, 116, 101, 103, 101, 114, 32, 118, 97, 108, 117, 101, 32, 116, 111, 111, 32, 108, 97, 114, 103, 101, 32, 116, 111, 32, 114, 101, 112, 114, 101, 115, 101, 110, 116]))) (.cons (.raise (.v 2) (.tup (.cons (.c (V.str [65, 82, 73, 84, 72])) (.cons (.c (V.str [73, 79, 86, 69, 82, 70, 76, 79, 87])) (.cons (.v 2) .nil))))) .nil)) (.nil)) (.cons (.ret (.v 1)) .nil)))⟩
noncomputable def f_string_index : Fn := ⟨2, 3, (.cons (.ite (.cmp .ne (.len (.v 1)) (.c (V.int 4))) (.cons (.stuck) .nil) (.nil)) (.cons (.set 2 (.call 9 (.cons (.idx (.v 1) (.c (V.int 3))) (.cons (.bin .sub (.len (.idx (.v 1) (.c (V.int 2)))) (.c (V.int 1))) .nil)))) (.cons (.ite (.bo false (.cons (.cmp .lt (.v 2) (.c (V.int 0))) (.cons (.cmp .ge (.v 2) (.len (.idx (.v 1) (.c (V.int 2))))) .nil))) (.cons (.ret (.c (V.str []))) .nil) (.nil)) (.cons (.ret (.idx (.idx (.v 1) (.c (V.int 2))) (.v 2))) .nil))))⟩
noncomputable def f_string_length : Fn := ⟨2, 2, (.cons (.ite (.cmp .ne (.len (.v 1)) (.c (V.int 3))) (.cons (.stuck) .nil) (.nil)) (.cons (.ret (.str (.len (.idx (.v 1) (.c (V.int 2)))))) .nil))⟩
noncomputable def f_string_range : Fn := ⟨2, 4, (.cons (.ite (.cmp .ne (.len (.v 1)) (.c (V.int 5))) (.cons (.stuck) .nil) (.nil)) (.cons (.set 2 (.call 9 (.cons (.idx (.v 1) (.c (V.int 3))) (.cons (.bin .sub (.len (.idx (.v 1) (.c (V.int 2)))) (.c (V.int 1))) .nil)))) (.cons (.set 3 (.call 9 (.cons (.idx (.v 1) (.c (V.int 4))) (.cons (.bin .sub (.len (.idx (.v 1) (.c (V.int 2)))) (.c (V.int 1))) .nil)))) (.cons (.ite (.cmp .lt (.v 2) (.c (V.int 0))) (.cons (.set 2 (.c (V.int 0))) .nil) (.nil)) (.cons (.ite (.cmp .lt (.v 3) (.v 2)) (.cons (.ret (.c (V.str []))) .nil) (.nil)) (.cons (.ret (.sl (.idx (.v 1) (.c (V.int 2))) (.v 2) (.bin .add (.v 3) (.c (V.int 1))))) .nil))))))⟩
noncomputable def f_string_cat : Fn := ⟨2, 2, (.cons (.ret (.join (.c (V.str [])) (.slF (.v 1) (.c (V.int 2))))) .nil)⟩
noncomputable def f_string_insert : Fn := ⟨2, 4, (.cons (.ite (.cmp .ne (.len (.v 1)) (.c (V.int 5))) (.cons (.stuck) .nil) (.nil)) (.cons (.set 2 (.idx (.v 1) (.c (V.int 2)))) (.cons (.set 3 (.call 9 (.cons (.idx (.v 1) (.c (V.int 3))) (.cons (.len (.v 2)) .nil)))) (.cons (.ite (.cmp .lt (.v 3) (.c (V.int 0))) (.cons (.set 3 (.c (V.int 0))) .nil) (.nil)) (.cons (.ret (.bin .add (.bin .add (.slT (.v 2) (.v 3)) (.idx (.v 1) (.c (V.int 4)))) (.slF (.v 2) (.v 3)))) .nil)))))⟩
noncomputable def f_string_repeat : Fn := ⟨2, 3, (.cons (.ite (.cmp .ne (.len (.v 1)) (.c (V.int 4))) (.cons (.stuck) .nil) (.nil)) (.cons (.set 2 (.call 46 (.cons (.idx (.v 1) (.c (V.int 3))) .nil))) (.cons (.ite (.bo false (.cons (.cmp .lt (.v 2) (.c (V.int 1))) (.cons (.cmp .eq (.idx (.v 1) (.c (V.int 2))) (.c (V.str []))) .nil))) (.cons (.ret (.c (V.str []))) .nil) (.nil)) (.cons (.ite (.cmp .ge (.bin .mul (.v 2) (.len (.idx (.v 1) (.c (V.int 2))))) (.bin .shl (.c (V.int 1)) (.c (V.int 31)))) (.cons (.raise (.c (V.str [109, 97, 120, 32, 115, 105, 122, 101, 32, 102, 111, 114, 32, 97, 32, 84, 99, 108, 32, 118, 97, 108, 117, 101, 32, 40, 50, 49, 52, 55, 52, 56, 51, 54, 52, 55, 32, 98, 121, 116, 101, 115, 41, 32, 101, 120, 99, 101, 101, 100, 101, 100])) (.tup (.cons (.c (V.str [84, 67, 76])) (.cons (.c (V.str [77, 69, 77, 79, 82, 89])) .nil)))) .nil) (.nil)) (.cons (.ret (.bin .mul (.idx (.v 1) (.c (V.int 2))) (.v 2))) .nil)))))⟩
noncomputable def f_string_replace : Fn := ⟨2, 5, (.cons (.ite (.bo false (.cons (.cmp .lt (.len (.v 1)) (.c (V.int 5))) (.cons (.cmp .gt (.len (.v 1)) (.c (V.int 6))) .nil))) (.cons (.stuck) .nil) (.nil)) (.cons (.set 2 (.call 9 (.cons (.idx (.v 1) (.c (V.int 3))) (.cons (.bin .sub (.len (.idx (.v 1) (.c (V.int 2)))) (.c (V.int 1))) .nil)))) (.cons (.set 3 (.call 9 (.cons (.idx (.v 1) (.c (V.int 4))) (.cons (.bin .sub (.len (.idx (.v 1) (.c (V.int 2)))) (.c (V.int 1))) .nil)))) (.cons (.set 4 (.c (V.str []))) (.cons (.ite (.cmp .eq (.len (.v 1)) (.c (V.int 6))) (.cons (.set 4 (.idx (.v 1) (.c (V.int 5)))) .nil) (.nil)) (.cons (.ret (.call 45 (.cons (.idx (.v 1) (.c (V.int 2))) (.cons (.v 2) (.cons (.v 3) (.cons (.v 4) .nil)))))) .nil))))))⟩
noncomputable def f_string_reverse : Fn := ⟨2, 2, (.cons (.ite (.cmp .ne (.len (.v 1)) (.c (V.int 3))) (.cons (.stuck) .nil) (.nil)) (.cons (.ret (.rev (.idx (.v 1) (.c (V.int 2))))) .nil))⟩
noncomputable def f_law_rows : Fn := ⟨0, 0, (.cons (.ret (.lst (.cons (.tup (.cons (.c (V.str [97, 123, 98])) (.cons (.c (V.int 3)) (.cons (.c (V.int 0)) (.cons (.c (V.int 1)) (.cons (.c (V.int 2)) (.cons (.c (V.str [93])) (.cons (.c (V.int 2)) .nil)))))))) (.cons (.tup (.cons (.c (V.str [98, 35, 92])) (.cons (.c (V.int 4)) (.cons (.c (V.int 0)) (.cons (.c (V.int 3)) (.cons (.c (V.int 0)) (.cons (.c (V.str [])) (.cons (.c (V.int 0)) .nil)))))))) (.cons (.tup (.cons (.c (V.str [])) (.cons (.c (V.int 2)) (.cons (.c (V.int 0)) (.cons (.c (V.int 3)) (.cons (.c (V.int 0)) (.cons (.c (V.str [97, 32, 98])) (.cons (.c (V.int 3)) .nil)))))))) (.cons (.tup (.cons (.c (V.str [125, 10, 34, 32, 59])) (.cons (.c (V.int 1)) (.cons (.c (V.int 2)) (.cons (.c (V.int 1)) (.cons (.c (V.int 1)) (.cons (.c (V.str [123])) (.cons (.c (V.int 4)) .nil)))))))) (.cons (.tup (.cons (.c (V.str [35, 36, 91, 93])) (.cons (.c (V.int 6)) (.cons (.c (V.int 0)) (.cons (.c (V.int 8)) (.cons (.c (V.int 0)) (.cons (.c (V.str [233])) (.cons (.c (V.int 5)) .nil)))))))) (.cons (.tup (.cons (.c (V.str [92, 92, 123, 125])) (.cons (.c (V.int 3)) (.cons (.c (V.int 3)) (.cons (.c (V.int 9)) (.cons (.c (V.int 0)) (.cons (.c (V.str [92])) (.cons (.c (V.int 12)) .nil)))))))) (.cons (.tup (.cons (.c (V.str [97])) (.cons (.c (V.int 7)) (.cons (.c (V.int 1)) (.cons (.c (V.int 1)) (.cons (.c (V.int 6)) (.cons (.c (V.str [123, 92, 10])) (.cons (.c (V.int 14)) .nil)))))))) (.cons (.tup (.cons (.c (V.str [32, 32, 98, 10, 123, 34])) (.cons (.c (V.int 4)) (.cons (.c (V.int 1)) (.cons (.c (V.int 10)) (.cons (.c (V.int 4)) (.cons (.c (V.str [35, 32, 125])) (.cons (.c (V.int 8)) .nil)))))))) .nil)))))))))) .nil)⟩
noncomputable def f_law_heads : Fn := ⟨0, 0, (.cons (.ret (.lst (.cons (.c (V.str [])) (.cons (.c (V.str [101, 110, 100])) (.cons (.c (V.str [48])) (.cons (.c (V.str [49])) (.cons (.c (V.str [50])) (.cons (.c (V.str [45, 49])) (.cons (.c (V.str [43, 50])) (.cons (.c (V.str [48, 120, 49])) (.cons (.c (V.str [48, 98, 49, 49])) (.cons (.c (V.str [32, 51])) (.cons (.c (V.str [57, 50, 50, 51, 51, 55, 50, 48, 51, 54, 56, 53, 52, 55, 55, 53, 56, 48, 56])) (.cons (.c (V.str [101])) (.cons (.c (V.str [48, 48])) .nil))))))))))))))) .nil)⟩
noncomputable def f_law_steps : Fn := ⟨0, 0, (.cons (.ret (.lst (.cons (.c (V.str [])) (.cons (.c (V.str [43, 49])) (.cons (.c (V.str [45, 49])) (.cons (.c (V.str [45, 50])) (.cons (.c (V.str [43, 48])) (.cons (.c (V.str [43, 52])) (.cons (.c (V.str [45])) (.cons (.c (V.str [45, 45, 49])) (.cons (.c (V.str [43, 120])) (.cons (.c (V.str [32])) (.cons (.c (V.str [45, 48])) .nil))))))))))))) .nil)⟩
noncomputable def f_law_counts : Fn := ⟨0, 0, (.cons (.ret (.lst (.cons (.tup (.cons (.c (V.str [50])) (.cons (.c (V.int 2)) .nil))) (.cons (.tup (.cons (.c (V.str [48])) (.cons (.c (V.int 0)) .nil))) (.cons (.tup (.cons (.c (V.str [49])) (.cons (.c (V.int 1)) .nil))) (.cons (.tup (.cons (.c (V.str [51])) (.cons (.c (V.int 3)) .nil))) (.cons (.tup (.cons (.c (V.str [45, 49])) (.cons (.neg (.c (V.int 1))) .nil))) (.cons (.tup (.cons (.c (V.str [48, 120, 50])) (.cons (.c (V.int 2)) .nil))) (.cons (.tup (.cons (.c (V.str [43, 49])) (.cons (.c (V.int 1)) .nil))) (.cons (.tup (.cons (.c (V.str [32, 50, 32])) (.cons (.c (V.int 2)) .nil))) (.cons (.tup (.cons (.c (V.str [])) (.cons (.c (V.none)) .nil))) (.cons (.tup (.cons (.c (V.str [120])) (.cons (.c (V.none)) .nil))) (.cons (.tup (.cons (.c (V.str [49, 46, 53])) (.cons (.c (V.none)) .nil))) (.cons (.tup (.cons (.c (V.str [50, 97])) (.cons (.c (V.none)) .nil))) (.cons (.tup (.cons (.c (V.str [57, 50, 50, 51, 51, 55, 50, 48, 51, 54, 56, 53, 52, 55, 55, 53, 56, 48, 56])) (.cons (.c (V.none)) .nil))) (.cons (.tup (.cons (.c (V.str [45, 57, 50, 50, 51, 51, 55, 50, 48, 51, 54, 56, 53, 52, 55, 55, 53, 56, 48, 57])) (.cons (.c (V.none)) .nil))) (.cons (.tup (.cons (.c (V.str [45, 57, 50, 50, 51, 51, 55, 50, 48, 51, 54, 56, 53, 52, 55, 55, 53, 56, 48, 56])) (.cons (.neg (.bin .pow (.c (V.int 2)) (.c (V.int 63)))) .nil))) (.cons (.tup (.cons (.c (V.str [45, 48])) (.cons (.c (V.int 0)) .nil))) .nil)))))))))))))))))) .nil)⟩
noncomputable def f_law_draw : Fn := ⟨2, 3, (.cons (.set 2 (.bin .mod (.penGet 0) (.v 1))) (.cons (.penSet 0 (.bin .fdiv (.penGet 0) (.v 1))) (.cons (.ret (.v 2)) .nil)))⟩
noncomputable def f_law_turned : Fn := ⟨3, 8, (.cons (.set 3 (.c (V.str [97, 98, 123, 125, 34, 92, 91, 93, 36, 35, 59, 32, 10, 233]))) (.cons (.set 4 (.bin .mod (.bin .add (.len (.v 0)) (.call 59 (.cons (.v 2) (.cons (.bin .add (.v 1) (.c (V.int 1))) .nil)))) (.bin .add (.v 1) (.c (V.int 1))))) (.cons (.set 5 (.c (V.str []))) (.cons (.forR 6 (.v 4) (.cons (.set 7 (.ifx (.cmp .lt (.v 6) (.len (.v 0))) (.index (.v 3) (.idx (.v 0) (.v 6))) (.c (V.int 0)))) (.cons (.set 5 (.bin .add (.v 5) (.idx (.v 3) (.bin .mod (.bin .add (.v 7) (.call 59 (.cons (.v 2) (.cons (.c (V.int 14)) .nil)))) (.c (V.int 14)))))) .nil))) (.cons (.ret (.v 5)) .nil)))))⟩
noncomputable def f_law_index : Fn := ⟨3, 5, (.cons (.pair 3 4 (.call 56 (.nil)) (.call 57 (.nil))) (.cons (.ret (.bin .add (.idx (.v 3) (.bin .mod (.bin .add (.v 0) (.call 59 (.cons (.v 2) (.cons (.c (V.int 13)) .nil)))) (.c (V.int 13)))) (.idx (.v 4) (.bin .mod (.bin .add (.v 1) (.call 59 (.cons (.v 2) (.cons (.c (V.int 11)) .nil)))) (.c (V.int 11)))))) .nil))⟩
noncomputable def f_law_string : Fn := ⟨1, 1, (.cons (.ite (.cmp .eq (.idx (.v 0) (.c (V.int 1))) (.c (V.str [105, 110, 100, 101, 120]))) (.cons (.ret (.call 47 (.cons (.c (V.none)) (.cons (.v 0) .nil)))) .nil) (.nil)) (.cons (.ite (.cmp .eq (.idx (.v 0) (.c (V.int 1))) (.c (V.str [114, 97, 110, 103, 101]))) (.cons (.ret (.call 49 (.cons (.c (V.none)) (.cons (.v 0) .nil)))) .nil) (.nil)) (.cons (.ite (.cmp .eq (.idx (.v 0) (.c (V.int 1))) (.c (V.str [105, 110, 115, 101, 114, 116]))) (.cons (.ret (.call 51 (.cons (.c (V.none)) (.cons (.v 0) .nil)))) .nil) (.nil)) (.cons (.ite (.cmp .eq (.idx (.v 0) (.c (V.int 1))) (.c (V.str [114, 101, 112, 108, 97, 99, 101]))) (.cons (.ret (.call 53 (.cons (.c (V.none)) (.cons (.v 0) .nil)))) .nil) (.nil)) (.cons (.ret (.call 52 (.cons (.c (V.none)) (.cons (.v 0) .nil)))) .nil)))))⟩
noncomputable def f_law_list : Fn := ⟨1, 1, (.cons (.ite (.cmp .eq (.idx (.v 0) (.c (V.int 0))) (.c (V.str [108, 105, 110, 100, 101, 120]))) (.cons (.ret (.call 33 (.cons (.c (V.none)) (.cons (.v 0) .nil)))) .nil) (.nil)) (.cons (.ite (.cmp .eq (.idx (.v 0) (.c (V.int 0))) (.c (V.str [108, 114, 97, 110, 103, 101]))) (.cons (.ret (.call 34 (.cons (.c (V.none)) (.cons (.v 0) .nil)))) .nil) (.nil)) (.cons (.ite (.cmp .eq (.idx (.v 0) (.c (V.int 0))) (.c (V.str [108, 105, 110, 115, 101, 114, 116]))) (.cons (.ret (.call 42 (.cons (.c (V.none)) (.cons (.v 0) .nil)))) .nil) (.nil)) (.cons (.ite (.cmp .eq (.idx (.v 0) (.c (V.int 0))) (.c (V.str [108, 114, 101, 112, 108, 97, 99, 101]))) (.cons (.ret (.call 44 (.cons (.c (V.none)) (.cons (.v 0) .nil)))) .nil) (.nil)) (.cons (.ret (.call 38 (.cons (.c (V.none)) (.cons (.v 0) .nil)))) .nil)))))⟩
noncomputable def f_law_heard : Fn := ⟨2, 4, (.cons (.heard (.cons (.ite (.cmp .eq (.idx (.v 0) (.c (V.int 0))) (.c (V.str [115, 116, 114, 105, 110, 103]))) (.cons (.ret (.tup (.cons (.c (V.str [103, 97, 118, 101])) (.cons (.call 62 (.cons (.v 0) .nil)) .nil)))) .nil) (.nil)) (.cons (.set 2 (.call 63 (.cons (.v 0) .nil))) (.cons (.ret (.tup (.cons (.c (V.str [103, 97, 118, 101])) (.cons (.ifx (.v 1) (.call 36 (.cons (.c (V.none)) (.cons (.lst (.cons (.c (V.str [106, 111, 105, 110])) (.cons (.v 2) (.cons (.c (V.str [])) .nil)))) .nil))) (.v 2)) .nil)))) .nil)))) .nil)⟩
noncomputable def f_law_whole_right : Fn := ⟨3, 5, (.cons (.ite (.bo false (.cons (.cmp .ne (.call 36 (.cons (.c (V.none)) (.cons (.lst (.cons (.c (V.str [106, 111, 105, 110])) (.cons (.v 1) (.cons (.c (V.str [])) .nil)))) .nil))) (.v 0)) (.cons (.cmp .ne (.call 48 (.cons (.c (V.none)) (.cons (.lst (.cons (.c (V.str [115, 116, 114, 105, 110, 103])) (.cons (.c (V.str [108, 101, 110, 103, 116, 104])) (.cons (.v 0) .nil)))) .nil))) (.str (.len (.v 0)))) .nil))) (.cons (.ret (.c (V.bool false))) .nil) (.nil)) (.cons (.ite (.cmp .ne (.call 32 (.cons (.c (V.none)) (.cons (.lst (.cons (.c (V.str [108, 108, 101, 110, 103, 116, 104])) (.cons (.v 1) .nil))) .nil))) (.str (.len (.v 0)))) (.cons (.ret (.c (V.bool false))) .nil) (.nil)) (.cons (.set 3 (.call 39 (.cons (.c (V.none)) (.cons (.lst (.cons (.c (V.str [108, 114, 101, 118, 101, 114, 115, 101])) (.cons (.v 1) .nil))) .nil)))) (.cons (.ite (.cmp .ne (.call 36 (.cons (.c (V.none)) (.cons (.lst (.cons (.c (V.str [106, 111, 105, 110])) (.cons (.v 3) (.cons (.c (V.str [])) .nil)))) .nil))) (.call 54 (.cons (.c (V.none)) (.cons (.lst (.cons (.c (V.str [115, 116, 114, 105, 110, 103])) (.cons (.c (V.str [114, 101, 118, 101, 114, 115, 101])) (.cons (.v 0) .nil)))) .nil)))) (.cons (.ret (.c (V.bool false))) .nil) (.nil)) (.cons (.ite (.cmp .ne (.call 39 (.cons (.c (V.none)) (.cons (.lst (.cons (.c (V.str [108, 114, 101, 118, 101, 114, 115, 101])) (.cons (.v 3) .nil))) .nil))) (.v 1)) (.cons (.ret (.c (V.bool false))) .nil) (.nil)) (.cons (.set 4 (.call 35 (.cons (.c (V.none)) (.cons (.lst (.cons (.c (V.str [99, 111, 110, 99, 97, 116])) (.cons (.v 1) (.cons (.call 31 (.cons (.c (V.none)) (.cons (.lst (.cons (.c (V.str [108, 105, 115, 116])) (.cons (.v 2) .nil))) .nil))) (.cons (.v 1) .nil))))) .nil)))) (.cons (.ite (.cmp .ne (.call 32 (.cons (.c (V.none)) (.cons (.lst (.cons (.c (V.str [108, 108, 101, 110, 103, 116, 104])) (.cons (.v 4) .nil))) .nil))) (.str (.bin .add (.bin .mul (.c (V.int 2)) (.len (.v 0))) (.c (V.int 1))))) (.cons (.ret (.c (V.bool false))) .nil) (.nil)) (.cons (.ret (.cmp .eq (.call 36 (.cons (.c (V.none)) (.cons (.lst (.cons (.c (V.str [106, 111, 105, 110])) (.cons (.v 4) (.cons (.c (V.str [])) .nil)))) .nil))) (.call 50 (.cons (.c (V.none)) (.cons (.lst (.cons (.c (V.str [115, 116, 114, 105, 110, 103])) (.cons (.c (V.str [99, 97, 116])) (.cons (.v 0) (.cons (.v 2) (.cons (.v 0) .nil)))))) .nil))))) .nil))))))))⟩
noncomputable def f_law_places_right : Fn := ⟨5, 5, (.cons (.ite (.bo true (.cons (.cmp .ne (.v 2) (.c (V.str []))) (.cons (.inS true (.c (V.str [32])) (.v 2)) .nil))) (.cons (.ite (.cmp .ne (.call 64 (.cons (.lst (.cons (.c (V.str [108, 105, 110, 100, 101, 120])) (.cons (.v 1) (.cons (.v 2) .nil)))) (.cons (.c (V.bool false)) .nil))) (.call 64 (.cons (.lst (.cons (.c (V.str [115, 116, 114, 105, 110, 103])) (.cons (.c (V.str [105, 110, 100, 101, 120])) (.cons (.v 0) (.cons (.v 2) .nil))))) (.cons (.c (V.bool false)) .nil)))) (.cons (.ret (.c (V.bool false))) .nil) (.nil)) .nil) (.nil)) (.cons (.ite (.cmp .ne (.call 64 (.cons (.lst (.cons (.c (V.str [108, 114, 97, 110, 103, 101])) (.cons (.v 1) (.cons (.v 2) (.cons (.v 2) .nil))))) (.cons (.c (V.bool true)) .nil))) (.call 64 (.cons (.lst (.cons (.c (V.str [115, 116, 114, 105, 110, 103])) (.cons (.c (V.str [105, 110, 100, 101, 120])) (.cons (.v 0) (.cons (.v 2) .nil))))) (.cons (.c (V.bool false)) .nil)))) (.cons (.ret (.c (V.bool false))) .nil) (.nil)) (.cons (.ite (.cmp .ne (.call 64 (.cons (.lst (.cons (.c (V.str [108, 114, 97, 110, 103, 101])) (.cons (.v 1) (.cons (.v 2) (.cons (.v 3) .nil))))) (.cons (.c (V.bool true)) .nil))) (.call 64 (.cons (.lst (.cons (.c (V.str [115, 116, 114, 105, 110, 103])) (.cons (.c (V.str [114, 97, 110, 103, 101])) (.cons (.v 0) (.cons (.v 2) (.cons (.v 3) .nil)))))) (.cons (.c (V.bool false)) .nil)))) (.cons (.ret (.c (V.bool false))) .nil) (.nil)) (.cons (.ret (.cmp .eq (.call 64 (.cons (.lst (.cons (.c (V.str [108, 105, 110, 115, 101, 114, 116])) (.cons (.v 1) (.cons (.v 2) (.cons (.v 4) .nil))))) (.cons (.c (V.bool true)) .nil))) (.call 64 (.cons (.lst (.cons (.c (V.str [115, 116, 114, 105, 110, 103])) (.cons (.c (V.str [105, 110, 115, 101, 114, 116])) (.cons (.v 0) (.cons (.v 2) (.cons (.v 4) .nil)))))) (.cons (.c (V.bool false)) .nil))))) .nil))))⟩
noncomputable def f_law_replace_right : Fn := ⟨5, 7, (.cons (.set 5 (.call 64 (.cons (.lst (.cons (.c (V.str [108, 114, 101, 112, 108, 97, 99, 101])) (.cons (.v 1) (.cons (.v 2) (.cons (.v 3) .nil))))) (.cons (.c (V.bool true)) .nil)))) (.cons (.ite (.cmp .ne (.v 5) (.call 64 (.cons (.lst (.cons (.c (V.str [115, 116, 114, 105, 110, 103])) (.cons (.c (V.str [114, 101, 112, 108, 97, 99, 101])) (.cons (.v 0) (.cons (.v 2) (.cons (.v 3) .nil)))))) (.cons (.c (V.bool false)) .nil)))) (.cons (.ret (.c (V.bool false))) .nil) (.nil)) (.cons (.set 6 (.call 64 (.cons (.lst (.cons (.c (V.str [108, 114, 101, 112, 108, 97, 99, 101])) (.cons (.v 1) (.cons (.v 2) (.cons (.v 3) (.cons (.v 4) .nil)))))) (.cons (.c (V.bool true)) .nil)))) (.cons (.ite (.cmp .eq (.idx (.v 5) (.c (V.int 0))) (.c (V.str [114, 97, 105, 115, 101, 100]))) (.cons (.ret (.bo true (.cons (.cmp .eq (.v 6) (.v 5)) (.cons (.cmp .eq (.call 64 (.cons (.lst (.cons (.c (V.str [115, 116, 114, 105, 110, 103])) (.cons (.c (V.str [114, 101, 112, 108, 97, 99, 101])) (.cons (.v 0) (.cons (.v 2) (.cons (.v 3) (.cons (.v 4) .nil))))))) (.cons (.c (V.bool false)) .nil))) (.v 5)) .nil)))) .nil) (.nil)) (.cons (.ite (.cmp .eq (.v 0) (.c (V.str []))) (.cons (.ret (.cmp .eq (.v 6) (.tup (.cons (.c (V.str [103, 97, 118, 101])) (.cons (.v 4) .nil))))) .nil) (.nil)) (.cons (.ite (.cmp .eq (.len (.idx (.v 5) (.c (V.int 1)))) (.len (.v 0))) (.cons (.set 6 (.tup (.cons (.c (V.str [103, 97, 118, 101])) (.cons (.v 0) .nil)))) .nil) (.nil)) (.cons (.ret (.cmp .eq (.call 64 (.cons (.lst (.cons (.c (V.str [115, 116, 114, 105, 110, 103])) (.cons (.c (V.str [114, 101, 112, 108, 97, 99, 101])) (.cons (.v 0) (.cons (.v 2) (.cons (.v 3) (.cons (.v 4) .nil))))))) (.cons (.c (V.bool false)) .nil))) (.v 6))) .nil)))))))⟩
noncomputable def f_law_repeat_right : Fn := ⟨3, 6, (.cons (.set 3 (.call 64 (.cons (.lst (.cons (.c (V.str [108, 114, 101, 112, 101, 97, 116])) (.cons (.v 1) (.cons (.v 0) .nil)))) (.cons (.c (V.bool true)) .nil)))) (.cons (.set 4 (.call 64 (.cons (.lst (.cons (.c (V.str [115, 116, 114, 105, 110, 103])) (.cons (.c (V.str [114, 101, 112, 101, 97, 116])) (.cons (.v 0) (.cons (.v 1) .nil))))) (.cons (.c (V.bool false)) .nil)))) (.cons (.ite (.isNone 2) (.cons (.ret (.bo true (.cons (.cmp .eq (.idx (.v 3) (.c (V.int 0))) (.c (V.str [114, 97, 105, 115, 101, 100]))) (.cons (.cmp .eq (.v 4) (.v 3)) .nil)))) .nil) (.nil)) (.cons (.ite (.cmp .lt (.v 2) (.c (V.int 0))) (.cons (.set 5 (.bin .add (.bin .add (.c (V.str [98, 97, 100, 32, 99, 111, 117, 110, 116, 32, 34])) (.str (.v 2))) (.c (V.str [34, 58, 32, 109, 117, 115, 116, 32, 98, 101, 32, 105, 110, 116, 101, 103, 101, 114, 32, 62, 61, 32, 48])))) (.cons (.ret (.bo true (.cons (.cmp .eq (.v 3) (.tup (.cons (.c (V.str [114, 97, 105, 115, 101, 100])) (.cons (.c (V.int 1)) (.cons (.v 5) (.cons (.tup (.cons (.c (V.str [84, 67, 76])) (.cons (.c (V.str [79, 80, 69, 82, 65, 84, 73, 79, 78])) (.cons (.c (V.str [76, 82, 69, 80, 69, 65, 84])) (.cons (.c (V.str [78, 69, 71, 65, 82, 71])) .nil))))) .nil)))))) (.cons (.cmp .eq (.v 4) (.tup (.cons (.c (V.str [103, 97, 118, 101])) (.cons (.c (V.str [])) .nil)))) .nil)))) .nil)) (.nil)) (.cons (.ret (.bo true (.cons (.cmp .eq (.idx (.v 3) (.c (V.int 0))) (.c (V.str [103, 97, 118, 101]))) (.cons (.cmp .eq (.v 4) (.v 3)) (.cons (.cmp .eq (.len (.idx (.v 3) (.c (V.int 1)))) (.bin .mul (.v 2) (.len (.v 0)))) .nil))))) .nil)))))⟩
noncomputable def f_law_row_right : Fn := ⟨2, 10, (.cons (.pair 2 3 (.call 60 (.cons (.idx (.v 0) (.c (V.int 0))) (.cons (.c (V.int 6)) (.cons (.v 1) .nil)))) (.call 60 (.cons (.idx (.v 0) (.c (V.int 5))) (.cons (.c (V.int 3)) (.cons (.v 1) .nil))))) (.cons (.pair 4 5 (.call 61 (.cons (.idx (.v 0) (.c (V.int 1))) (.cons (.idx (.v 0) (.c (V.int 2))) (.cons (.v 1) .nil)))) (.call 61 (.cons (.idx (.v 0) (.c (V.int 3))) (.cons (.idx (.v 0) (.c (V.int 4))) (.cons (.v 1) .nil))))) (.cons (.set 6 (.call 58 (.nil))) (.cons (.set2 7 8 (.idx (.v 6) (.bin .mod (.bin .add (.idx (.v 0) (.c (V.int 6))) (.call 59 (.cons (.v 1) (.cons (.c (V.int 16)) .nil)))) (.c (V.int 16))))) (.cons (.set 9 (.call 37 (.cons (.c (V.none)) (.cons (.lst (.cons (.c (V.str [115, 112, 108, 105, 116])) (.cons (.v 2) (.cons (.c (V.str [])) .nil)))) .nil)))) (.cons (.ite (.bo false (.cons (.not (.call 65 (.cons (.v 2) (.cons (.v 9) (.cons (.v 3) .nil))))) (.cons (.not (.call 66 (.cons (.v 2) (.cons (.v 9) (.cons (.v 4) (.cons (.v 5) (.cons (.v 3) .nil))))))) .nil))) (.cons (.ret (.c (V.bool false))) .nil) (.nil)) (.cons (.ret (.bo true (.cons (.call 67 (.cons (.v 2) (.cons (.v 9) (.cons (.v 4) (.cons (.v 5) (.cons (.v 3) .nil)))))) (.cons (.call 68 (.cons (.v 2) (.cons (.v 7) (.cons (.v 8) .nil)))) .nil)))) .nil)))))))⟩
noncomputable def fnTab : List (Option Fn) := [none, none, some f_is_blank, some f_digit, some f_digits_value, some f_base_of, some f_whole_of, some f_need_whole, some f_moved, some f_index_of, some f_wide, some f_need_index_pair, none, none, some f_backslash, some f_check_behind, some f_braced_element, some f_quoted_element, some f_bare_element, some f_find_element, some f_split_list, some f_mode_of, some f_escaped, some f_quote, some f_join_list, some f_trim, some f_concat_part, some f_concat, some f_indices_of, some f_at_path, some f_split_text, some f_do_list, some f_do_llength, some f_do_lindex, some f_do_lrange, some f_do_concat, some f_do_join, some f_do_split, some f_do_lrepeat, some f_do_lreverse, some f_replaced, some f_inserted, some f_do_linsert, some f_edited, some f_do_lreplace, some f_replace, some f_need_wide, some f_string_index, some f_string_length, some f_string_range, some f_string_cat, some f_string_insert, some f_string_repeat, some f_string_replace, some f_string_reverse, some f_law_rows, some f_law_heads, some f_law_steps, some f_law_counts, some f_law_draw, some f_law_turned, some f_law_index, some f_law_string, some f_law_list, some f_law_heard, some f_law_whole_right, some f_law_places_right, some f_law_replace_right, some f_law_repeat_right, some f_law_row_right]
noncomputable def fn (f : Nat) : Option Fn := fnTab.getD f none
noncomputable def callN : Nat → Nat → List V → M Bd
  | 0, _, _ => fail
  | n + 1, f, args => match fn f with
    | some F => if args.length = F.arity then bnd (exs (callN n) (args.map (fun v => some (.val v)) ++ List.replicate (F.nloc - F.arity) none) F.body) fun t => match t.1 with
        | .ret b => ret b
        | .next => ret (.val .none)
        | .brk => fail
      else fail
    | none => fail
abbrev n_is_blank : Nat := 2
abbrev n_digit : Nat := 3
abbrev n_digits_value : Nat := 4
abbrev n_base_of : Nat := 5
abbrev n_whole_of : Nat := 6
abbrev n_need_whole : Nat := 7
abbrev n_moved : Nat := 8
abbrev n_index_of : Nat := 9
abbrev n_wide : Nat := 10
abbrev n_need_index_pair : Nat := 11
abbrev n_backslash : Nat := 14
abbrev n_check_behind : Nat := 15
abbrev n_braced_element : Nat := 16
abbrev n_quoted_element : Nat := 17
abbrev n_bare_element : Nat := 18
abbrev n_find_element : Nat := 19
abbrev n_split_list : Nat := 20
abbrev n_mode_of : Nat := 21
abbrev n_escaped : Nat := 22
abbrev n_quote : Nat := 23
abbrev n_join_list : Nat := 24
abbrev n_trim : Nat := 25
abbrev n_concat_part : Nat := 26
abbrev n_concat : Nat := 27
abbrev n_indices_of : Nat := 28
abbrev n_at_path : Nat := 29
abbrev n_split_text : Nat := 30
abbrev n_do_list : Nat := 31
abbrev n_do_llength : Nat := 32
abbrev n_do_lindex : Nat := 33
abbrev n_do_lrange : Nat := 34
abbrev n_do_concat : Nat := 35
abbrev n_do_join : Nat := 36
abbrev n_do_split : Nat := 37
abbrev n_do_lrepeat : Nat := 38
abbrev n_do_lreverse : Nat := 39
abbrev n_replaced : Nat := 40
abbrev n_inserted : Nat := 41
abbrev n_do_linsert : Nat := 42
abbrev n_edited : Nat := 43
abbrev n_do_lreplace : Nat := 44
abbrev n_replace : Nat := 45
abbrev n_need_wide : Nat := 46
abbrev n_string_index : Nat := 47
abbrev n_string_length : Nat := 48
abbrev n_string_range : Nat := 49
abbrev n_string_cat : Nat := 50
abbrev n_string_insert : Nat := 51
abbrev n_string_repeat : Nat := 52
abbrev n_string_replace : Nat := 53
abbrev n_string_reverse : Nat := 54
abbrev n_law_rows : Nat := 55
abbrev n_law_heads : Nat := 56
abbrev n_law_steps : Nat := 57
abbrev n_law_counts : Nat := 58
abbrev n_law_draw : Nat := 59
abbrev n_law_turned : Nat := 60
abbrev n_law_index : Nat := 61
abbrev n_law_string : Nat := 62
abbrev n_law_list : Nat := 63
abbrev n_law_heard : Nat := 64
abbrev n_law_whole_right : Nat := 65
abbrev n_law_places_right : Nat := 66
abbrev n_law_replace_right : Nat := 67
abbrev n_law_repeat_right : Nat := 68
abbrev n_law_row_right : Nat := 69
end Lr
end
section
open PySem
namespace Lr
theorem u_v {C ρ x} : ev C ρ (.v x) = lift (match get ρ x with | some (.val v) => some v | _ => none) := rfl
theorem u_c {C ρ k} : ev C ρ (.c k) = ret k := rfl
theorem u_tup {C ρ es} : ev C ρ (.tup es) = bnd (evs C ρ es) fun l => if l.length ≤ lid then ret (.tup l) else fail := rfl
theorem u_lst {C ρ es} : ev C ρ (.lst es) = bnd (evs C ρ es) fun l => if l.length ≤ lid then ret (.list l) else fail := rfl
theorem u_bin {C ρ op a b} : ev C ρ (.bin op a b) = bnd (ev C ρ a) fun x => bnd (ev C ρ b) fun y => lift (binop op x y) := rfl
theorem u_neg {C ρ a} : ev C ρ (.neg a) = bnd (ev C ρ a) fun x => lift ((asInt x).map fun i => .int (-i)) := rfl
theorem u_bo {C ρ isAnd es} : ev C ρ (.bo isAnd es) = evB C ρ isAnd es := rfl
theorem u_not {C ρ a} : ev C ρ (.not a) = bnd (ev C ρ a) fun x => bnd (lift (asBool x)) fun b => ret (.bool (!b)) := rfl
theorem u_cmp {C ρ op a b} : ev C ρ (.cmp op a b) = bnd (ev C ρ a) fun x => bnd (ev C ρ b) fun y => lift ((cmpop op x y).map .bool) := rfl
theorem u_chain {C ρ a b d} : ev C ρ (.chain a b d) = bnd (ev C ρ a) fun x => bnd (ev C ρ b) fun y => bnd (lift (cmpop .le x y)) fun t => if t then bnd (ev C ρ d) fun z => lift ((cmpop .le y z).map .bool) else ret (.bool false) := rfl
theorem u_isNone {C ρ x} : ev C ρ (.isNone x) = lift (match get ρ x with | some (.val .none) => some (.bool true) | some (.val _) => some (.bool false) | _ => none) := rfl
theorem u_notNone {C ρ x} : ev C ρ (.notNone x) = lift (match get ρ x with | some (.val .none) => some (.bool false) | some (.val _) => some (.bool true) | _ => none) := rfl
theorem u_inT {C ρ neg a ks} : ev C ρ (.inT neg a ks) = bnd (ev C ρ a) fun x => lift ((inConsts x ks).map fun b => .bool (b != neg)) := rfl
theorem u_inS {C ρ neg a b} : ev C ρ (.inS neg a b) = bnd (ev C ρ a) fun x => bnd (ev C ρ b) fun y => lift (match x, y with | .str k, .str l => some (.bool (Txt.contains (tx l) (tx k) != neg)) | _, _ => none) := rfl
theorem u_ifx {C ρ t a b} : ev C ρ (.ifx t a b) = bnd (ev C ρ t) fun x => bnd (lift (asBool x)) fun b' => if b' then ev C ρ a else ev C ρ b := rfl
theorem u_idx {C ρ a i} : ev C ρ (.idx a i) = bnd (ev C ρ a) fun x => bnd (ev C ρ i) fun y => lift (if strOnly (isV a) x then idx x y else none) := rfl
theorem u_sl {C ρ a lo hi} : ev C ρ (.sl a lo hi) = bnd (ev C ρ a) fun x => bnd (ev C ρ lo) fun y => bnd (ev C ρ hi) fun z => lift (match y, z with | .int i, .int j => if strOnly (isV a) x then slice x i (some j) else none | _, _ => none) := rfl
theorem u_slF {C ρ a lo} : ev C ρ (.slF a lo) = bnd (ev C ρ a) fun x => bnd (ev C ρ lo) fun y => lift (match y with | .int i => if strOnly (isV a) x then slice x i none else none | _ => none) := rfl
theorem u_slT {C ρ a hi} : ev C ρ (.slT a hi) = bnd (ev C ρ a) fun x => bnd (ev C ρ hi) fun z => lift (match z with | .int j => if strOnly (isV a) x then sliceT x j else none | _ => none) := rfl
theorem u_rev {C ρ a} : ev C ρ (.rev a) = bnd (ev C ρ a) fun x => lift (match x with | .str l => if l.length ≤ lid then some (.str l.reverse) else none | _ => none) := rfl
theorem u_call {C ρ f es} : ev C ρ (.call f es) = bnd (evs C ρ es) fun l => bnd (C f l) fun b => match b with | .val v => ret v | .own l => ret (.list l) := rfl
theorem u_len {C ρ a} : ev C ρ (.len a) = bnd (ev C ρ a) fun x => lift (lenOf x) := rfl
theorem u_lenV {C ρ x} : ev C ρ (.lenV x) = lift (match get ρ x with | some (.own l) => if l.length ≤ lid then some (.int l.length) else none | _ => none) := rfl
theorem u_max {C ρ a b} : ev C ρ (.max a b) = bnd (ev C ρ a) fun x => bnd (ev C ρ b) fun y => lift (match x, y with | .int i, .int j => some (.int (if i < j then j else i)) | _, _ => none) := rfl
theorem u_min {C ρ a b} : ev C ρ (.min a b) = bnd (ev C ρ a) fun x => bnd (ev C ρ b) fun y => lift (match x, y with | .int i, .int j => some (.int (if j < i then j else i)) | _, _ => none) := rfl
theorem u_str {C ρ a} : ev C ρ (.str a) = bnd (ev C ρ a) fun x => lift (match x with | .int i => if i.natAbs < 10 ^ 20 then some (.str (intStr i)) else none | _ => none) := rfl
theorem u_signs {C ρ a} : ev C ρ (.signs a) = bnd (ev C ρ a) fun x => lift (match x with | .str l => if l.length ≤ lid then some (.list (l.map fun c => .str [c])) else none | _ => none) := rfl
theorem u_ord {C ρ a} : ev C ρ (.ord a) = bnd (ev C ρ a) fun x => lift (match x with | .str [c] => some (.int c) | _ => none) := rfl
theorem u_join {C ρ a b} : ev C ρ (.join a b) = bnd (ev C ρ a) fun s => bnd (lift (asStr s)) fun s => bnd (ev C ρ b) fun x => lift (match x with | .list l => joinV (.str s) l | _ => none) := rfl
theorem u_joinV {C ρ a x} : ev C ρ (.joinV a x) = bnd (ev C ρ a) fun s => bnd (lift (asStr s)) fun s => lift (match get ρ x with | some (.own l) => joinV (.str s) l | _ => none) := rfl
theorem u_find {C ρ a b} : ev C ρ (.find a b) = bnd (ev C ρ a) fun x => bnd (lift (asStr x)) fun l => bnd (ev C ρ b) fun y => lift (match y with | .str k => some (.int (Txt.find (tx l) (tx k))) | _ => none) := rfl
theorem u_rfind {C ρ a b} : ev C ρ (.rfind a b) = bnd (ev C ρ a) fun x => bnd (lift (asStr x)) fun l => bnd (ev C ρ b) fun y => lift (match y with | .str k => some (.int (Txt.rfind (tx l) (tx k))) | _ => none) := rfl
theorem u_starts {C ρ a b} : ev C ρ (.starts a b) = bnd (ev C ρ a) fun x => bnd (lift (asStr x)) fun l => bnd (ev C ρ b) fun y => lift (match y with | .str k => some (.bool (Txt.startswith (tx l) (tx k))) | _ => none) := rfl
theorem u_ends {C ρ a b} : ev C ρ (.ends a b) = bnd (ev C ρ a) fun x => bnd (lift (asStr x)) fun l => bnd (ev C ρ b) fun y => lift (match y with | .str k => some (.bool (Txt.endswith (tx l) (tx k))) | _ => none) := rfl
theorem u_index {C ρ a b} : ev C ρ (.index a b) = bnd (ev C ρ a) fun x => bnd (lift (asStr x)) fun l => bnd (ev C ρ b) fun y => lift (match y with | .str k => if 0 ≤ Txt.find (tx l) (tx k) then some (.int (Txt.find (tx l) (tx k))) else none | _ => none) := rfl
theorem u_penGet {C ρ x} : ev C ρ (.penGet x) = fun p => match get ρ x with | some (.val .pen) => some (.ok (.int p), p) | _ => none := rfl
theorem u_stuck {C ρ} : ev C ρ .stuck = fail := rfl
theorem us_nil {C ρ} : evs C ρ .nil = ret [] := rfl
theorem us_cons {C ρ e r} : evs C ρ (.cons e r) = bnd (ev C ρ e) fun x => bnd (evs C ρ r) fun l => ret (x :: l) := rfl
theorem ub_nil {C ρ isAnd} : evB C ρ isAnd .nil = ret (.bool isAnd) := rfl
theorem ub_cons {C ρ isAnd e r} : evB C ρ isAnd (.cons e r) = bnd (ev C ρ e) fun x => bnd (lift (asBool x)) fun b => if b = isAnd then evB C ρ isAnd r else ret (.bool b) := rfl
theorem w_set {C ρ x e} : ex C ρ (.set x e) = bnd (ev C ρ e) fun v => ret (.next, put ρ x (.val v)) := rfl
theorem w_setOwn {C ρ x f es} : ex C ρ (.setOwn x f es) = bnd (evs C ρ es) fun l => bnd (C f l) fun b => match b with | .own l => ret (.next, put ρ x (.own l)) | _ => fail := rfl
theorem w_newL {C ρ x} : ex C ρ (.newL x) = ret (.next, put ρ x (.own [])) := rfl
theorem w_set2 {C ρ x y e} : ex C ρ (.set2 x y e) = bnd (ev C ρ e) fun v => match v with | .tup [a, b] => ret (.next, put (put ρ x (.val a)) y (.val b)) | _ => fail := rfl
theorem w_pair {C ρ x y a b} : ex C ρ (.pair x y a b) = bnd (ev C ρ a) fun u => bnd (ev C ρ b) fun v => ret (.next, put (put ρ x (.val u)) y (.val v)) := rfl
theorem w_aug {C ρ x op e} : ex C ρ (.aug x op e) = bnd (lift (match get ρ x with | some (.val v) => some v | _ => none)) fun u => bnd (ev C ρ e) fun v => bnd (lift (match u, v with | .int _, .int _ => binop op u v | _, _ => none)) fun r => ret (.next, put ρ x (.val r)) := rfl
theorem w_app {C ρ x e} : ex C ρ (.app x e) = bnd (lift (match get ρ x with | some (.own l) => some l | _ => none)) fun l => bnd (ev C ρ e) fun v => if l.length < lid then ret (.next, put ρ x (.own (l ++ [v]))) else fail := rfl
theorem w_revs {C ρ x} : ex C ρ (.revs x) = bnd (lift (match get ρ x with | some (.own l) => some l | _ => none)) fun l => if l.length ≤ lid then ret (.next, put ρ x (.own l.reverse)) else fail := rfl
theorem w_penSet {C ρ x e} : ex C ρ (.penSet x e) = bnd (ev C ρ e) fun v => fun p => match v, get ρ x with | .int i, some (.val .pen) => some (.ok (.next, ρ), i) | _, _ => none := rfl
theorem w_expr {C ρ e} : ex C ρ (.expr e) = bnd (ev C ρ e) fun v => match v with | .none => ret (.next, ρ) | .int _ => ret (.next, ρ) | _ => fail := rfl
theorem w_ite {C ρ t a b} : ex C ρ (.ite t a b) = bnd (cond C ρ t) fun c => if c then exs C ρ a else exs C ρ b := rfl
theorem w_while {C ρ t b} : ex C ρ (.while_ t b) = iterW (fun ρ => cond C ρ t) (fun ρ => exs C ρ b) loopLid ρ := rfl
theorem w_forS {C ρ x e b} : ex C ρ (.forS x e b) = bnd (ev C ρ e) fun v => match v with | .str l => iterL x (fun ρ => exs C ρ b) (l.map fun c => .str [c]) ρ | _ => fail := rfl
theorem w_forL {C ρ x e b} : ex C ρ (.forL x e b) = bnd (ev C ρ e) fun v => match v with | .list l => iterL x (fun ρ => exs C ρ b) l ρ | _ => fail := rfl
theorem w_forR {C ρ x e b} : ex C ρ (.forR x e b) = bnd (ev C ρ e) fun v => match v with | .int i => if i.natAbs ≤ lid then iterL x (fun ρ => exs C ρ b) (intsTo i.toNat) ρ else fail | _ => fail := rfl
theorem w_ret {C ρ e} : ex C ρ (.ret e) = bnd (ev C ρ e) fun v => ret (.ret (.val v), ρ) := rfl
theorem w_ret0 {C ρ} : ex C ρ .ret0 = ret (.ret (.val .none), ρ) := rfl
theorem w_retOwn {C ρ x} : ex C ρ (.retOwn x) = bnd (lift (match get ρ x with | some (.own l) => some l | _ => none)) fun l => ret (.ret (.own l), ρ) := rfl
theorem w_retCallOwn {C ρ f x} : ex C ρ (.retCallOwn f x) = bnd (lift (match get ρ x with | some (.own l) => some l | _ => none)) fun l => bnd (C f [.list l]) fun b => ret (.ret b, []) := rfl
theorem w_raise {C ρ a b} : ex C ρ (.raise a b) = bnd (ev C ρ a) fun x => bnd (ev C ρ b) fun y => match x with | .str l => (fun p => some (.exn ⟨1, l, y⟩, p)) | _ => fail := rfl
theorem w_brk {C ρ} : ex C ρ .brk = ret (.brk, ρ) := rfl
theorem w_heard {C ρ b} : ex C ρ (.heard b) = (fun p => match exs C ρ b p with
      | some (.exn x, q) => some (.ok (.ret (.val (.tup [.str [114, 97, 105, 115, 101, 100], .int x.code, .str x.value, x.ec])), []), q)
      | r => r) := rfl
theorem w_tryOk {C ρ b} : ex C ρ (.tryOk b) = (fun p => match exs C ρ b p with
      | some (.exn _, _) => none
      | r => r) := rfl
theorem w_stuck {C ρ} : ex C ρ .stuck = fail := rfl
theorem ws_nil {C ρ} : exs C ρ .nil = ret (.next, ρ) := rfl
theorem ws_cons {C ρ s r} : exs C ρ (.cons s r) = (bnd (ex C ρ s) fun t => match t with
      | (.next, ρ') => exs C ρ' r
      | t => ret t) := rfl
end Lr
end
section
open PySem PySem.W PyProof.Rows
set_option maxRecDepth 100000
namespace Lr
noncomputable def Kf (P : Params) : Frag := (List.range 537).map fun a => (a, objAt P lawName 71 a)
noncomputable def lo : List Str := looseW vq looseL
abbrev Names := PySem.Str → Option Value
structure Gd (w : World) (mg mb : Names) (h : Heap) : Prop where
  kin : (Kf w.params).In h
  top : TopRead vq lo mg mb h
theorem Gd.keeps {w : World} {mg mb : Names} {h h' : Heap} (x : Gd w mg mb h) (k : ∀ b o, h.get? b = some o → h'.get? b = some o) : Gd w mg mb h' := ⟨x.kin.keeps k, x.top.keeps k⟩
abbrev Cell := Addr × Bool × List Value
abbrev Led := List Cell
noncomputable def kindOf (b : Bool) : String := if b then "tuple" else "list"
noncomputable def SatE (h : Heap) (q : Cell) : Prop := ∃ o n, h.get? q.1 = some o ∧ o.cls = .type (kindOf q.2.1) ∧ o.data = .seq q.2.2.toArray n
mutual
inductive Rep (ap : Option Addr) (led : Led) : Value → V → Prop
  | none : Rep ap led .none .none
  | bool (b : Bool) : Rep ap led (.bool b) (.bool b)
  | int (i : Int) (t : Tok) : Rep ap led (.int i t) (.int i)
  | str (x : PySem.Str) (t : Tok) : Rep ap led (.str x t) (.str x.cps.toList)
  | tup {a : Addr} {vs : List Value} {l : List V} (h : (a, true, vs) ∈ led) (r : RepL ap led vs l) : Rep ap led (.ref a) (.tup l)
  | list {a : Addr} {vs : List Value} {l : List V} (h : (a, false, vs) ∈ led) (r : RepL ap led vs l) : Rep ap led (.ref a) (.list l)
  | pen {a : Addr} (h : ap = some a) : Rep ap led (.ref a) .pen
inductive RepL (ap : Option Addr) (led : Led) : List Value → List V → Prop
  | nil : RepL ap led [] []
  | cons {v : Value} {x : V} {vs : List Value} {l : List V} (h : Rep ap led v x) (r : RepL ap led vs l) : RepL ap led (v :: vs) (x :: l)
end
theorem Rep.mono {ap : Option Addr} {led led' : Led} (k : ∀ q ∈ led, q ∈ led') {v : Value} {x : V} (h : Rep ap led v x) : Rep ap led' v x :=
  Rep.rec (motive_1 := fun v x _ => Rep ap led' v x) (motive_2 := fun v x _ => RepL ap led' v x) .none .bool .int .str (fun h _ r => .tup (k _ h) r) (fun h _ r => .list (k _ h) r) .pen .nil (fun _ _ h r => .cons h r) h
theorem RepL.ind {ap : Option Addr} {led : Led} {P : List Value → List V → Prop} (n : P [] []) (c : ∀ v x vs l, Rep ap led v x → RepL ap led vs l → P vs l → P (v :: vs) (x :: l)) {v : List Value} {x : List V} (h : RepL ap led v x) : P v x :=
  RepL.rec (motive_1 := fun _ _ _ => True) (motive_2 := fun v x _ => P v x) trivial (fun _ => trivial) (fun _ _ => trivial) (fun _ _ => trivial) (fun _ _ _ => trivial) (fun _ _ _ => trivial) (fun _ => trivial) n (fun h r _ i => c _ _ _ _ h r i) h
theorem RepL.mono {ap : Option Addr} {led led' : Led} (k : ∀ q ∈ led, q ∈ led') {v : List Value} {x : List V} (h : RepL ap led v x) : RepL ap led' v x :=
  h.ind (P := fun v x => RepL ap led' v x) .nil fun _ _ _ _ h _ i => .cons (h.mono k) i
section
variable {ap : Option Addr} {led : Led}
theorem RepL.length {v : List Value} {x : List V} (h : RepL ap led v x) : v.length = x.length :=
  h.ind (P := fun v x => v.length = x.length) rfl fun _ _ _ _ _ _ i => congrArg Nat.succ i
theorem RepL.append {v v' : List Value} {x x' : List V} (h : RepL ap led v x) (h' : RepL ap led v' x') : RepL ap led (v ++ v') (x ++ x') :=
  h.ind (P := fun v x => RepL ap led (v ++ v') (x ++ x')) h' fun _ _ _ _ h _ i => .cons h i
theorem RepL.get {v : List Value} {x : List V} (h : RepL ap led v x) : ∀ (i : Nat) (y : V), x[i]? = some y → ∃ u, v[i]? = some u ∧ Rep ap led u y :=
  h.ind (P := fun v x => ∀ (i : Nat) (y : V), x[i]? = some y → ∃ u, v[i]? = some u ∧ Rep ap led u y) (fun _ _ e => nomatch e) fun v _ _ _ h _ ih i y e => by
    cases i with
    | zero => cases e; exact ⟨v, rfl, h⟩
    | succ i => exact ih i y e
theorem RepL.nth {v : List Value} {x : List V} (h : RepL ap led v x) : ∀ (i : Nat) (u : Value), v[i]? = some u → ∃ y, x[i]? = some y ∧ Rep ap led u y :=
  h.ind (P := fun v x => ∀ (i : Nat) (u : Value), v[i]? = some u → ∃ y, x[i]? = some y ∧ Rep ap led u y) (fun _ _ e => nomatch e) fun _ x _ _ h _ ih i y e => by
    cases i with
    | zero => cases e; exact ⟨x, rfl, h⟩
    | succ i => exact ih i y e
theorem RepL.drop {v : List Value} {x : List V} (h : RepL ap led v x) : ∀ n : Nat, RepL ap led (v.drop n) (x.drop n) :=
  h.ind (P := fun v x => ∀ n : Nat, RepL ap led (v.drop n) (x.drop n)) (fun n => by cases n <;> exact .nil) fun _ _ _ _ h r ih n => by
    cases n with
    | zero => exact .cons h r
    | succ n => exact ih n
theorem RepL.take {v : List Value} {x : List V} (h : RepL ap led v x) : ∀ n : Nat, RepL ap led (v.take n) (x.take n) :=
  h.ind (P := fun v x => ∀ n : Nat, RepL ap led (v.take n) (x.take n)) (fun n => by cases n <;> exact .nil) fun _ _ _ _ h _ ih n => by
    cases n with
    | zero => exact .nil
    | succ n => exact .cons h (ih n)
theorem RepL.reverse {v : List Value} {x : List V} (h : RepL ap led v x) : RepL ap led v.reverse x.reverse :=
  h.ind (P := fun v x => RepL ap led v.reverse x.reverse) .nil fun _ _ _ _ h _ i => by rw [List.reverse_cons, List.reverse_cons]; exact i.append (.cons h .nil)
theorem RepL.repl {v : List Value} {x : List V} (h : RepL ap led v x) : ∀ n : Nat, RepL ap led (List.replicate n v).flatten (List.replicate n x).flatten
  | 0 => .nil
  | n + 1 => by rw [List.replicate_succ, List.replicate_succ, List.flatten_cons, List.flatten_cons]; exact RepL.append h (RepL.repl h n)
theorem Rep.strOf {x : PySem.Str} {t : Tok} {l : List Nat} (h : x.cps.toList = l) : Rep ap led (.str x t) (.str l) := h ▸ .str x t
end
noncomputable def Kp (X : List Addr) (h h' : Heap) : Prop := ∀ b o, b ∉ X → h.get? b = some o → ∃ sl, h'.get? b = some { o with slots := sl } ∧ ((∃ vs, o.data = .fields vs) → sl = o.slots)
theorem Kp.refl {X : List Addr} {h : Heap} : Kp X h h := fun _ o _ e => ⟨o.slots, e, fun _ => rfl⟩
theorem Kp.trans {X : List Addr} {h₁ h₂ h₃ : Heap} (x : Kp X h₁ h₂) (y : Kp X h₂ h₃) : Kp X h₁ h₃ := fun b o n e => by
  obtain ⟨_, e₁, f₁⟩ := x b o n e
  obtain ⟨sl, e₂, f₂⟩ := y b _ n e₁
  exact ⟨sl, e₂, fun v => (f₂ v).trans (f₁ v)⟩
theorem Kp.of_keeps {X : List Addr} {h h' : Heap} (k : ∀ b o, b ∉ X → h.get? b = some o → h'.get? b = some o) : Kp X h h' := fun b o n e => ⟨o.slots, k b o n e, fun _ => rfl⟩
theorem Kp.more {X Y : List Addr} {h h' : Heap} (k : Kp X h h') (s : ∀ b ∈ X, b ∈ Y) : Kp Y h h' := fun b o n e => k b o (fun q => n (s b q)) e
theorem Kp.less {X Y : List Addr} {h₀ h h' : Heap} (k₀ : Kp Y h₀ h) (k : Kp X h h') (s : ∀ b ∈ X, b ∈ Y ∨ h₀.get? b = none) : Kp Y h₀ h' := fun b o n e => by
  obtain ⟨_, e₁, f₁⟩ := k₀ b o n e
  obtain ⟨sl, e₂, f₂⟩ := k b _ (fun q => (s b q).elim n fun z => by rw [z] at e; cases e) e₁
  exact ⟨sl, e₂, fun v => (f₂ v).trans (f₁ v)⟩
theorem Kp.ns {X : List Addr} {h h' : Heap} (k : Kp X h h') {a : Addr} {m : Names} (n : h.Ns a m) (ha : a ∉ X) : h'.Ns a m := by
  obtain ⟨o, es, ep, ho, hd, r⟩ := n
  obtain ⟨sl, hs, _⟩ := k a o ha ho
  exact ⟨_, es, ep, hs, hd, r⟩
theorem Kp.sat {X : List Addr} {h h' : Heap} (k : Kp X h h') {q : Cell} (n : SatE h q) (ha : q.1 ∉ X) : SatE h' q := by
  obtain ⟨o, m, ho, hc, hd⟩ := n
  obtain ⟨sl, hs, _⟩ := k q.1 o ha ho
  exact ⟨_, m, hs, hc, hd⟩
theorem Kp.list {X : List Addr} {h h' : Heap} (k : Kp X h h') {a : Addr} {vs : Array Value} (n : h.IsList a vs) (ha : a ∉ X) : h'.IsList a vs := by
  obtain ⟨o, ho, hc, m, hd⟩ := n
  obtain ⟨sl, hs, _⟩ := k a o ha ho
  exact ⟨_, hs, hc, m, hd⟩
theorem SatE.list {h : Heap} {a : Addr} {vs : List Value} (x : SatE h (a, false, vs)) : h.IsList a vs.toArray := by obtain ⟨o, n, a, b, c⟩ := x; exact ⟨o, a, b, n, c⟩
theorem SatE.tup {h : Heap} {a : Addr} {vs : List Value} (x : SatE h (a, true, vs)) : IsTup h a vs.toArray := by obtain ⟨o, n, a, b, c⟩ := x; exact ⟨o, a, b, n, c⟩
theorem SatE.at {h : Heap} {q : Cell} (x : SatE h q) : ∃ o, h.get? q.1 = some o := by obtain ⟨o, _, a, _⟩ := x; exact ⟨o, a⟩
theorem ns_ne_sat {h : Heap} {a : Addr} {m : Names} {q : Cell} (n : h.Ns a m) (x : SatE h q) : q.1 ≠ a := fun e => by
  obtain ⟨o, es, ep, ho, hd, r⟩ := n
  obtain ⟨o', k, ho', hc, hd'⟩ := x
  rw [e, ho] at ho'; cases ho'; rw [hd] at hd'; cases hd'
theorem ns_ne_list {h : Heap} {a b : Addr} {m : Names} {vs : Array Value} (n : h.Ns a m) (x : h.IsList b vs) : b ≠ a := fun e => by
  obtain ⟨o, es, ep, ho, hd, r⟩ := n
  obtain ⟨o', ho', hc, k, hd'⟩ := x
  rw [e, ho] at ho'; cases ho'; rw [hd] at hd'; cases hd'
theorem none_of_ge {h : Heap} {a : Addr} (x : h.objs.size ≤ a) : h.get? a = none := by
  cases e : h.get? a with
  | none => rfl
  | some o => exact absurd (Heap.lt_size e) (Nat.not_lt.mpr x)
set_option genInjectivity false
set_option genSizeOf false
structure Site where
  w : World
  mg : Names
  mb : Names
  base : Heap
  ap : Addr
  dead : Option (Array Value) := Option.none
noncomputable def Site.rp (S : Site) : Option Addr := match S.dead with
  | none => some S.ap
  | some _ => none
noncomputable def PenAt (S : Site) (p : Int) (h : Heap) : Prop := match S.dead with
  | none => ∃ tk, h.IsList S.ap #[.int p tk]
  | some vs => ∃ o n, h.get? S.ap = some o ∧ o.data = .seq vs n
theorem PenAt.seq {S : Site} {p : Int} {h : Heap} (x : PenAt S p h) : ∃ o vs n, h.get? S.ap = some o ∧ o.data = .seq vs n := by
  unfold PenAt at x
  split at x
  · obtain ⟨_, o, a, _, n, b⟩ := x; exact ⟨o, _, n, a, b⟩
  · obtain ⟨o, n, a, b⟩ := x; exact ⟨o, _, n, a, b⟩
theorem PenAt.kp {S : Site} {p : Int} {X : List Addr} {h h' : Heap} (k : Kp X h h') (x : PenAt S p h) (n : S.ap ∉ X) : PenAt S p h' := by
  unfold PenAt at x ⊢
  split at x
  · exact ⟨x.choose, k.list x.choose_spec n⟩
  · obtain ⟨o, j, a, b⟩ := x
    obtain ⟨sl, a', _⟩ := k _ o n a
    exact ⟨_, j, a', b⟩
theorem PenAt.nf {S : Site} {p : Int} {h : Heap} (x : PenAt S p h) : ∃ o, h.get? S.ap = some o ∧ ∀ vs, o.data ≠ .fields vs := by
  obtain ⟨o, vs, n, a, b⟩ := x.seq
  exact ⟨o, a, fun vs q => by rw [b] at q; cases q⟩
theorem ns_ne_seq {h : Heap} {a b : Addr} {m : Names} {o : Obj} {vs : Array Value} {k : Nat} (n : h.Ns a m) (x : h.get? b = some o) (y : o.data = .seq vs k) : b ≠ a := fun e => by
  obtain ⟨o', es, ep, ho, hd, r⟩ := n
  rw [e, ho] at x; cases x; rw [hd] at y; cases y
theorem PenAt.keeps {S : Site} {p : Int} {h h' : Heap} (k : ∀ b o, h.get? b = some o → h'.get? b = some o) (x : PenAt S p h) : PenAt S p h' := x.kp (X := []) (Kp.of_keeps fun b o _ e => k b o e) (by simp)
theorem Site.rp_some {S : Site} {a : Addr} (h : S.rp = some a) : a = S.ap ∧ S.dead = none := by
  unfold Site.rp at h
  split at h
  · rename_i e; exact ⟨(Option.some.inj h).symm, e⟩
  · cases h
theorem PenAt.live {S : Site} {p : Int} {h : Heap} (x : PenAt S p h) (d : S.dead = none) : ∃ tk, h.IsList S.ap #[.int p tk] := by
  unfold PenAt at x
  rw [d] at x; exact x
theorem PenAt.of {S : Site} {p : Int} {h : Heap} {tk : Tok} (x : h.IsList S.ap #[.int p tk]) (d : S.dead = none) : PenAt S p h := by
  unfold PenAt
  rw [d]; exact ⟨tk, x⟩
structure Site.Ok (S : Site) : Prop where
  gd : Gd S.w S.mg S.mb S.base
  apn : S.dead = none → S.base.get? S.ap = none
structure Hp (S : Site) (envs : List Env) (p : Int) (h : Heap) : Prop where
  stays : S.base.StaysIn h
  ff : h.FunFrames S.base envs
  pen : PenAt S p h
structure Act where
  cn : PySem.Str
  cs : Scope
  L : Addr
  a : Addr
  ccd : Value
  outer : List Env
  A₀ : Around
  h₀ : Heap
  led₀ : Led
  by_ : List (Addr × Obj)
noncomputable def Act.env (c : Act) : Env := envOf c.cn c.cs c.L c.a c.ccd
noncomputable def Act.A (c : Act) : Around := c.A₀.deeper c.env
structure Act.Ok (S : Site) (c : Act) (n : Nat) : Prop where
  fn : c.cs.kind = .function
  fr : c.A₀.frames = some c.outer
  hh : c.A₀.handled = none
  gu : c.A₀.guards = some []
  depth : c.A₀.depth + 10 * n + 100 < recursionLimit
  units : c.A₀.units + 10 * n + 300 < cLine
  l0 : c.h₀.objs.size ≤ c.L
  pen0 : ∃ o, c.h₀.get? S.ap = some o
  lb : S.base.objs.size ≤ c.h₀.objs.size
theorem Act.Ok.framesA {S : Site} {c : Act} {n : Nat} (k : c.Ok S n) : c.A.frames = some (c.env :: c.outer) := Around.frames_deeper k.fr
theorem Act.Ok.handledA {S : Site} {c : Act} {n : Nat} (k : c.Ok S n) : c.A.handled = none := k.hh
abbrev Own := List (Nat × Addr × List Value)
noncomputable def OwnIs (h : Heap) (a : Addr) (vs : List Value) : Prop := ∃ o n, h.get? a = some o ∧ o.cls = .type "list" ∧ o.dict = none ∧ o.data = .seq vs.toArray n
theorem OwnIs.list {h : Heap} {a : Addr} {vs : List Value} (x : OwnIs h a vs) : h.IsList a vs.toArray := by obtain ⟨o, n, e, c, _, d⟩ := x; exact ⟨o, e, c, n, d⟩
theorem Kp.own {X : List Addr} {h h' : Heap} (k : Kp X h h') {a : Addr} {vs : List Value} (x : OwnIs h a vs) (ha : a ∉ X) : OwnIs h' a vs := by
  obtain ⟨o, n, e, c, d, f⟩ := x
  obtain ⟨sl', e', _⟩ := k a _ ha e
  exact ⟨_, n, e', c, d, f⟩
structure Sd (S : Site) (c : Act) (ns : List PySem.Str) (ρ : Fm) (p : Int) (m : Names) (own : Own) (led : Led) (h : Heap) : Prop where
  hp : Hp S (c.env :: c.outer) p h
  kept : Kp [S.ap] c.h₀ h
  nsL : h.Ns c.L m
  sat : ∀ q ∈ led, SatE h q
  ne : ∀ q ∈ led, q.1 ≠ S.ap
  fresh : ∀ q ∈ led, q ∈ c.led₀ ∨ c.h₀.objs.size ≤ q.1
  vals : ∀ x v, get ρ x = some (.val v) → ∃ nm val, ns[x]? = some nm ∧ m nm = some val ∧ Rep S.rp led val v
  owns : ∀ x l, get ρ x = some (.own l) → ∃ nm a vs, ns[x]? = some nm ∧ m nm = some (.ref a) ∧ (x, a, vs) ∈ own ∧ RepL S.rp led vs l
  ownAt : ∀ e ∈ own, OwnIs h e.2.1 e.2.2 ∧ e.2.1 ≠ S.ap ∧ c.h₀.objs.size ≤ e.2.1 ∧ ∀ q ∈ led, q.1 ≠ e.2.1
  nodup : (own.map fun e => e.2.1).Nodup
  bys : ∀ q ∈ c.by_, (∃ vs, q.2.data = .fields vs) ∧ h.get? q.1 = some q.2
theorem ff_step {base h h' : Heap} (k : ∀ b o, h.get? b = some o → (∀ vs, o.data ≠ .fields vs) → ∃ o', h'.get? b = some o' ∧ ∀ vs, o'.data ≠ .fields vs) {l : List Env} (x : h.FunFrames base l) : h'.FunFrames base l := by
  induction l with
  | nil => trivial
  | cons _ l ih =>
    obtain ⟨hk, ⟨L, o, hf, hn, ho, hd⟩, hr⟩ := x
    obtain ⟨o', ho', hd'⟩ := k L o ho hd
    exact ⟨hk, ⟨L, o', hf, hn, ho', hd'⟩, ih hr⟩
section
variable {S : Site} {c : Act} {ns : List PySem.Str} {ρ : Fm} {p q : Int} {m m' : Names} {own : Own} {led : Led} {h h' : Heap}
theorem Sd.pen_ne (R : Sd S c ns ρ p m own led h) : S.ap ≠ c.L := by obtain ⟨_, _, _, x, y⟩ := R.hp.pen.seq; exact ns_ne_seq R.nsL x y
theorem Hp.step {X : List Addr} {envs : List Env} (x : Hp S envs p h) (k : Kp X h h') (b : S.base.StaysIn h') (hX : ∀ b ∈ X, ∀ o, h.get? b = some o → (∀ vs, o.data ≠ .fields vs) → ∃ o', h'.get? b = some o' ∧ ∀ vs, o'.data ≠ .fields vs)
    (pn : PenAt S q h') : Hp S envs q h' :=
  ⟨b, ff_step (fun b o e f => by
    by_cases z : b ∈ X
    · exact hX b z o e f
    · obtain ⟨sl, e', _⟩ := k b o z e; exact ⟨_, e', f⟩) x.ff, pn⟩
theorem ns_nf {a : Addr} (n : h.Ns a m) : ∃ o, h.get? a = some o ∧ ∀ vs, o.data ≠ .fields vs := by
  obtain ⟨o, es, ep, ho, hd, r⟩ := n
  exact ⟨o, ho, fun vs q => by rw [hd] at q; cases q⟩
theorem list_nf {a : Addr} {vs : Array Value} (n : h.IsList a vs) : ∃ o, h.get? a = some o ∧ ∀ vs, o.data ≠ .fields vs := by
  obtain ⟨o, ho, hc, k, hd⟩ := n
  exact ⟨o, ho, fun vs q => by rw [hd] at q; cases q⟩
theorem Sd.step0 (R : Sd S c ns ρ p m own led h) (k : Kp [c.L, S.ap] h h') (n : h'.Ns c.L m') (b : S.base.StaysIn h') (hc : c.h₀.objs.size ≤ c.L) (pn : PenAt S q h') {ρ' : Fm}
    (vals : ∀ x v, get ρ' x = some (.val v) → ∃ nm val, ns[x]? = some nm ∧ m' nm = some val ∧ Rep S.rp led val v)
    (owns : ∀ x l, get ρ' x = some (.own l) → ∃ nm a vs, ns[x]? = some nm ∧ m' nm = some (.ref a) ∧ (x, a, vs) ∈ own ∧ RepL S.rp led vs l) : Sd S c ns ρ' q m' own led h' where
  hp := R.hp.step k b (fun b hb o e f => by
    simp only [List.mem_cons, List.not_mem_nil, or_false] at hb
    rcases hb with rfl | rfl
    · exact ns_nf n
    · exact pn.nf) pn
  kept := R.kept.less k fun b hb => by
    simp only [List.mem_cons, List.not_mem_nil, or_false] at hb
    rcases hb with rfl | rfl
    · exact .inr (none_of_ge hc)
    · exact .inl (.head _)
  nsL := n
  sat := fun q hq => k.sat (R.sat q hq) (by simpa using ⟨ns_ne_sat R.nsL (R.sat q hq), R.ne q hq⟩)
  ne := R.ne
  fresh := R.fresh
  vals := vals
  owns := owns
  ownAt := fun e he => by obtain ⟨a, r⟩ := R.ownAt e he; exact ⟨k.own a (by simpa using ⟨ns_ne_list R.nsL a.list, r.1⟩), r⟩
  nodup := R.nodup
  bys := fun z hz => by
    obtain ⟨⟨vs, hd⟩, e⟩ := R.bys z hz
    refine ⟨⟨vs, hd⟩, ?_⟩
    have n1 : z.1 ≠ c.L := fun q => by
      obtain ⟨o, es, ep, ho, hd', _⟩ := R.nsL
      rw [q, ho] at e; cases e
      rw [hd] at hd'; cases hd'
    have n2 : z.1 ≠ S.ap := fun q => by
      obtain ⟨o, _, k', ho, hd'⟩ := R.hp.pen.seq
      rw [q, ho] at e; cases e
      rw [hd] at hd'; cases hd'
    obtain ⟨sl', e', f'⟩ := k z.1 _ (by simpa using ⟨n1, n2⟩) e
    rw [f' ⟨vs, hd⟩] at e'
    exact e'
theorem Sd.step' (R : Sd S c ns ρ p m own led h) (k : Kp [c.L, S.ap] h h') (n : h'.Ns c.L m) (b : S.base.StaysIn h') (hc : c.h₀.objs.size ≤ c.L) (pn : PenAt S q h') : Sd S c ns ρ q m own led h' :=
  R.step0 k n b hc pn R.vals R.owns
theorem Sd.step (R : Sd S c ns ρ p m own led h) (k : Kp [c.L] h h') (n : h'.Ns c.L m) (b : S.base.StaysIn h') (hc : c.h₀.objs.size ≤ c.L) : Sd S c ns ρ p m own led h' :=
  R.step' (k.more fun b hb => by simp at hb; simp [hb]) n b hc (R.hp.pen.kp k (by simpa using R.pen_ne))
theorem Sd.grow (R : Sd S c ns ρ p m own led h) {led' : Led} (sub : ∀ q ∈ led, q ∈ led') (k : ∀ q ∈ led', q ∈ led ∨ (SatE h q ∧ q.1 ≠ S.ap ∧ c.h₀.objs.size ≤ q.1 ∧ ∀ e ∈ own, q.1 ≠ e.2.1)) : Sd S c ns ρ p m own led' h where
  hp := R.hp
  kept := R.kept
  nsL := R.nsL
  sat := fun q hq => (k q hq).elim (R.sat q) fun x => x.1
  ne := fun q hq => (k q hq).elim (R.ne q) fun x => x.2.1
  fresh := fun q hq => (k q hq).elim (R.fresh q) fun x => .inr x.2.2.1
  vals := fun x v e => by obtain ⟨nm, val, a, b, r⟩ := R.vals x v e; exact ⟨nm, val, a, b, r.mono sub⟩
  owns := fun x l e => by obtain ⟨nm, b, vs, a, c, d, r⟩ := R.owns x l e; exact ⟨nm, b, vs, a, c, d, r.mono sub⟩
  ownAt := fun e he => by obtain ⟨a, b, d, r⟩ := R.ownAt e he; exact ⟨a, b, d, fun q hq => (k q hq).elim (r q) fun x => x.2.2.2 e he⟩
  nodup := R.nodup
  bys := R.bys
theorem Sd.new (R : Sd S c ns ρ p m own led h) (hc : c.h₀.objs.size ≤ c.L) {b : Addr} (hb : h.objs.size ≤ b) : c.h₀.objs.size ≤ b :=
  Nat.le_trans (Nat.le_trans hc (Nat.le_of_lt R.nsL.lt)) hb
theorem Sd.new_ap (R : Sd S c ns ρ p m own led h) {b : Addr} (hb : h.objs.size ≤ b) : b ≠ S.ap := fun e => by
  obtain ⟨o, _, _, ho, _⟩ := R.hp.pen.seq
  exact absurd (Heap.lt_size ho) (by rw [← e]; exact Nat.not_lt.mpr hb)
theorem Sd.new_own (R : Sd S c ns ρ p m own led h) {b : Addr} (hb : h.objs.size ≤ b) : ∀ e ∈ own, b ≠ e.2.1 := fun e he q => by
  obtain ⟨⟨o, n, ho, _⟩, _⟩ := R.ownAt e he
  exact absurd (Heap.lt_size ho) (by rw [← q]; exact Nat.not_lt.mpr hb)
theorem Sd.made (R : Sd S c ns ρ p m own led h) (hc : c.h₀.objs.size ≤ c.L) (k : Kp [c.L] h h') (n : h'.Ns c.L m) (b : S.base.StaysIn h') {q : Cell} (hq : h.objs.size ≤ q.1) (x : SatE h' q) : Sd S c ns ρ p m own (q :: led) h' :=
  (R.step k n b hc).grow (fun _ hq => .tail _ hq) fun r hr => by
    rcases List.mem_cons.mp hr with rfl | hr
    · exact .inr ⟨x, R.new_ap hq, R.new hc hq, R.new_own hq⟩
    · exact .inl hr
end
end Lr
namespace Lr
noncomputable def allOf (base h : Heap) (L : Addr) : List (Addr × Obj) := (List.range h.objs.size).filterMap fun a => if a = L then none else match base.get? a with | some _ => none | none => (h.get? a).map fun o => (a, o)
theorem mem_allOf {base h : Heap} {L a : Addr} {o : Obj} : (a, o) ∈ allOf base h L ↔ a ≠ L ∧ base.get? a = none ∧ h.get? a = some o := by
  unfold allOf
  rw [List.mem_filterMap]
  constructor
  · rintro ⟨b, hb, e⟩
    by_cases q : b = L
    · rw [if_pos q] at e; cases e
    · rw [if_neg q] at e
      cases f : base.get? b with
      | some _ => rw [f] at e; cases e
      | none =>
        rw [f] at e
        cases g : h.get? b with
        | none => rw [g] at e; cases e
        | some o' => rw [g] at e; cases e; exact ⟨q, f, g⟩
  · rintro ⟨q, f, g⟩
    refine ⟨a, List.mem_range.mpr (Heap.lt_size g), ?_⟩
    rw [if_neg q, f, g]; rfl
theorem news_all {base h : Heap} {L : Addr} : News base L h (allOf base h L) := fun p hp =>
  let ⟨a, b, c⟩ := mem_allOf.mp (show (p.1, p.2) ∈ _ from hp); ⟨c, a, b⟩
theorem kp_all {base h h' : Heap} {L : Addr} {m : Names} {l : List (Addr × Obj)} (st : base.StaysIn h) (F : Fr base L h' m) (N : News base L h' l) (s : ∀ q ∈ allOf base h L, q ∈ l) : Kp [L] h h' := Kp.of_keeps fun b o hb e => by
  cases f : base.get? b with
  | none => exact (N _ (s _ (mem_allOf.mpr ⟨by simpa using hb, f, e⟩))).1
  | some o' => have := st b o' f; rw [e] at this; cases this; exact F.keep b o f
structure Cx (S : Site) (c : Act) (n : Nat) : Prop where
  so : S.Ok
  k : c.Ok S n
section
variable {S : Site} {c : Act} {n : Nat} {ns : List PySem.Str} {ρ : Fm} {p q : Int} {m m' : Names} {own : Own} {led : Led} {h h' : Heap}
theorem Sd.fr (R : Sd S c ns ρ p m own led h) (X : Cx S c n) : Fr S.base c.L h m := ⟨R.nsL, R.hp.stays, Nat.le_trans X.k.lb X.k.l0⟩
theorem Sd.after (R : Sd S c ns ρ p m own led h) (X : Cx S c n) (F : Fr S.base c.L h' m) {l : List (Addr × Obj)} (N : News S.base c.L h' l) (s : ∀ q ∈ allOf S.base h c.L, q ∈ l := by exact fun _ h => h) : Sd S c ns ρ p m own led h' :=
  R.step (kp_all R.hp.stays F N s) F.ns F.keep X.k.l0
theorem Sd.afterNew (R : Sd S c ns ρ p m own led h) (X : Cx S c n) (F : Fr S.base c.L h' m) {o : Obj} {a : Addr} (N : News S.base c.L h' ((a, o) :: allOf S.base h c.L)) {t : Bool} {vs : List Value} {j : Nat} (ha : h.objs.size ≤ a) (hc : o.cls = .type (kindOf t))
    (hd : o.data = .seq vs.toArray j) : Sd S c ns ρ p m own ((a, t, vs) :: led) h' :=
  R.made X.k.l0 (kp_all R.hp.stays F N fun _ h => .tail _ h) F.ns F.keep ha ⟨o, j, (N _ (.head _)).1, hc, hd⟩
theorem Sd.keeps (R : Sd S c ns ρ p m own led h) (X : Cx S c n) (k : ∀ b o, h.get? b = some o → h'.get? b = some o) : Sd S c ns ρ p m own led h' :=
  R.step (Kp.of_keeps fun b o _ e => k b o e) (R.nsL.keeps k) (fun b o e => k b o (R.hp.stays b o e)) X.k.l0
theorem Sd.push (R : Sd S c ns ρ p m own led h) (X : Cx S c n) (o : Obj) : Sd S c ns ρ p m own led (h.push o) := R.keeps X fun _ _ e => Heap.get?_push_of_some _ e
theorem Sd.pushNew (R : Sd S c ns ρ p m own led h) (X : Cx S c n) {o : Obj} {t : Bool} {vs : List Value} {j : Nat} (hc : o.cls = .type (kindOf t)) (hd : o.data = .seq vs.toArray j) (hf : o.isFreed = false := by rfl) :
    Sd S c ns ρ p m own ((h.objs.size, t, vs) :: led) (h.push o) :=
  R.made X.k.l0 (Kp.of_keeps fun _ _ _ e => Heap.get?_push_of_some _ e) (R.nsL.push o) (fun b x e => Heap.get?_push_of_some _ (R.hp.stays b x e)) (Nat.le_refl _) ⟨o, j, Heap.get?_push_size h hf, hc, hd⟩
end
noncomputable def TrD (lo : Nat) (e d : Addr) (h : Heap) : Option Value → Prop
  | none => ∃ oe vs, h.get? e = some oe ∧ (oe.cls = .ref 33 ∧ oe.dict = some d) ∧ oe.data = .fields vs ∧ vs[1]? = some .none
  | some fl => ∃ oe vs T oT ts, h.get? e = some oe ∧ (oe.cls = .ref 33 ∧ oe.dict = some d) ∧ oe.data = .fields vs ∧ vs[1]? = some (.ref T) ∧ lo ≤ T ∧ T ≠ e ∧ h.get? T = some oT ∧ oT.data = .fields ts ∧ ts[3]? = some fl
structure FlD (S : Site) (envs : List Env) (lo : Nat) (e d : Addr) (st : Option Value) (h : Heap) : Prop where
  stays : S.base.StaysIn h
  ff : h.FunFrames S.base envs
  low : S.base.objs.size ≤ lo
  le : lo ≤ e
  tr : TrD lo e d h st
theorem TrD.lower {lo lo' : Nat} {e d : Addr} {h : Heap} {st : Option Value} (x : TrD lo e d h st) (hl : lo' ≤ lo) : TrD lo' e d h st := by
  cases st with
  | none => exact x
  | some fl =>
    obtain ⟨oe, vs, T, oT, ts, a, b, c, d, e, r⟩ := x
    exact ⟨oe, vs, T, oT, ts, a, b, c, d, Nat.le_trans hl e, r⟩
theorem FlD.lower {S : Site} {envs : List Env} {lo lo' : Nat} {e d : Addr} {st : Option Value} {h : Heap} (x : FlD S envs lo e d st h) (hl : lo' ≤ lo) (hb : S.base.objs.size ≤ lo') : FlD S envs lo' e d st h :=
  ⟨x.stays, x.ff, hb, Nat.le_trans hl x.le, x.tr.lower hl⟩
noncomputable def ExcD (ap : Option Addr) (led : Led) (h : Heap) (d : Addr) (x : Exc) : Prop :=
  ∃ md v1 v2 v3, h.Ns d md ∧ md "code" = some v1 ∧ md "value" = some v2 ∧ md "errorcode" = some v3 ∧ Rep ap led v1 (.int x.code) ∧ Rep ap led v2 (.str x.value) ∧ Rep ap led v3 x.ec
structure Fly (S : Site) (c : Act) (x : Exc) (p : Int) (e : Addr) (h : Heap) : Prop where
  it : ∃ d st m led, FlD S (c.env :: c.outer) c.h₀.objs.size e d st h ∧ (st = none ∨ st = some .none ∨ st = some (rawInt c.L)) ∧ h.Ns c.L m ∧ ExcD S.rp led h d x ∧
    (∀ q ∈ led, SatE h q) ∧ (∀ q ∈ led, q.1 ≠ S.ap) ∧ ∀ q ∈ led, q ∈ c.led₀ ∨ c.h₀.objs.size ≤ q.1
  kept : Kp [S.ap] c.h₀ h
  pen : PenAt S p h
abbrev OkK (S : Site) (c : Act) (ns : List PySem.Str) (ρ : Fm) (p : Int) (m : Names) (own : Own) (led : Led) (s : Shared) (v : V) (Q : Value → Shared → Prop) : Prop :=
  ∀ h' tk led' val, Sd S c ns ρ p m own led' h' → (∀ q ∈ led, q ∈ led') → Rep S.rp led' val v → Q val { s with heap := h', toks := tk }
abbrev ExK (S : Site) (c : Act) (s : Shared) (E : Value → Shared → Prop) (x : Exc) (p : Int) : Prop :=
  ∀ e h' tk, Fly S c x p e h' → E (.ref e) { s with heap := h', toks := tk }
noncomputable def EvOk (S : Site) (c : Act) (ns : List PySem.Str) (ρ : Fm) (p : Int) (t : Sem Value) (o : Res V × Int) : Prop :=
  ∀ (s : Shared) (m : Names) (own : Own) (led : Led) (Q : Value → Shared → Prop) (E : Value → Shared → Prop), Sd S c ns ρ p m own led s.heap →
    (∀ v q, o = (.ok v, q) → OkK S c ns ρ q m own led s v Q) → (∀ x q, o = (.exn x, q) → ExK S c s E x q) → wpAny (model pw S.w) c.A t Q E s
noncomputable def EvsOk (S : Site) (c : Act) (ns : List PySem.Str) (ρ : Fm) (p : Int) (t : Sem (List Value)) (o : Res (List V) × Int) : Prop :=
  ∀ (s : Shared) (m : Names) (own : Own) (led : Led) (Q : List Value → Shared → Prop) (E : Value → Shared → Prop), Sd S c ns ρ p m own led s.heap →
    (∀ l q, o = (.ok l, q) → ∀ h' tk led' vs, Sd S c ns ρ q m own led' h' → (∀ q ∈ led, q ∈ led') → RepL S.rp led' vs l → Q vs { s with heap := h', toks := tk }) →
    (∀ x q, o = (.exn x, q) → ExK S c s E x q) → wpAny (model pw S.w) c.A t Q E s
noncomputable def CondOk (S : Site) (c : Act) (ns : List PySem.Str) (ρ : Fm) (p : Int) (t : Sem Bool) (o : Res Bool × Int) : Prop :=
  ∀ (s : Shared) (m : Names) (own : Own) (led : Led) (Q : Bool → Shared → Prop) (E : Value → Shared → Prop), Sd S c ns ρ p m own led s.heap →
    (∀ b q, o = (.ok b, q) → ∀ h' tk led', Sd S c ns ρ q m own led' h' → (∀ q ∈ led, q ∈ led') → Q b { s with heap := h', toks := tk }) →
    (∀ x q, o = (.exn x, q) → ExK S c s E x q) → wpAny (model pw S.w) c.A t Q E s
theorem bnd_some {α β : Type} {a : M α} {f : α → M β} {p : Int} {o : Res β × Int} (h : bnd a f p = some o) :
    (∃ v q, a p = some (.ok v, q) ∧ f v q = some o) ∨ ∃ x q, a p = some (.exn x, q) ∧ o = (.exn x, q) := by
  unfold bnd at h
  cases e : a p with
  | none => rw [e] at h; cases h
  | some r =>
    rw [e] at h
    obtain ⟨r, q⟩ := r
    cases r with
    | ok v => exact .inl ⟨v, q, rfl, h⟩
    | exn x => exact .inr ⟨x, q, rfl, by simpa using h.symm⟩
theorem lift_some {α : Type} {a : Option α} {p : Int} {o : Res α × Int} (h : lift a p = some o) : ∃ v, a = some v ∧ o = (.ok v, p) := by
  unfold lift at h
  cases a with
  | none => cases h
  | some v => exact ⟨v, rfl, by simpa using h.symm⟩
theorem ret_some {α : Type} {a : α} {p : Int} {o : Res α × Int} (h : ret a p = some o) : o = (.ok a, p) := by
  unfold ret at h; simpa using h.symm
section
variable {S : Site} {c : Act} {ns : List PySem.Str} {ρ : Fm} {p : Int}
theorem EvOk.seq {t : Sem Value} {k : Value → Shared → Prop} {E : Value → Shared → Prop} {mA : M V} {β : Type} {f : V → M β} {o : Res β × Int} (h : bnd mA f p = some o) (H : ∀ oA, mA p = some oA → EvOk S c ns ρ p t oA)
    {s : Shared} {m : Names} {own : Own} {led : Led} (R : Sd S c ns ρ p m own led s.heap)
    (hex : ∀ x q, o = (.exn x, q) → ExK S c s E x q)
    (hok : ∀ v q, f v q = some o → ∀ h' tk led' val, Sd S c ns ρ q m own led' h' → (∀ q ∈ led, q ∈ led') → Rep S.rp led' val v → k val { s with heap := h', toks := tk }) : wpAny (model pw S.w) c.A t k E s := by
  rcases bnd_some h with ⟨v, q, e1, e2⟩ | ⟨x, q, e1, e2⟩
  · exact H _ e1 s m own led k E R (fun v' q' e => by cases e; exact hok v q e2) (fun x q e => by cases e)
  · exact H _ e1 s m own led k E R (fun v' q' e => by cases e) (fun x' q' e => by cases e; exact hex x q e2)
theorem CondOk.seq {t : Sem Bool} {k : Bool → Shared → Prop} {E : Value → Shared → Prop} {mA : M Bool} {β : Type} {f : Bool → M β} {o : Res β × Int} (h : bnd mA f p = some o) (H : ∀ oA, mA p = some oA → CondOk S c ns ρ p t oA)
    {s : Shared} {m : Names} {own : Own} {led : Led} (R : Sd S c ns ρ p m own led s.heap)
    (hex : ∀ x q, o = (.exn x, q) → ExK S c s E x q)
    (hok : ∀ v q, f v q = some o → ∀ h' tk led', Sd S c ns ρ q m own led' h' → (∀ q ∈ led, q ∈ led') → k v { s with heap := h', toks := tk }) : wpAny (model pw S.w) c.A t k E s := by
  rcases bnd_some h with ⟨v, q, e1, e2⟩ | ⟨x, q, e1, e2⟩
  · exact H _ e1 s m own led k E R (fun v' q' e => by cases e; exact hok v q e2) (fun x q e => by cases e)
  · exact H _ e1 s m own led k E R (fun v' q' e => by cases e) (fun x' q' e => by cases e; exact hex x q e2)
theorem EvsOk.seq {t : Sem (List Value)} {k : List Value → Shared → Prop} {E : Value → Shared → Prop} {mA : M (List V)} {β : Type} {f : List V → M β} {o : Res β × Int} (h : bnd mA f p = some o) (H : ∀ oA, mA p = some oA → EvsOk S c ns ρ p t oA)
    {s : Shared} {m : Names} {own : Own} {led : Led} (R : Sd S c ns ρ p m own led s.heap)
    (hex : ∀ x q, o = (.exn x, q) → ExK S c s E x q)
    (hok : ∀ v q, f v q = some o → ∀ h' tk led' vs, Sd S c ns ρ q m own led' h' → (∀ q ∈ led, q ∈ led') → RepL S.rp led' vs v → k vs { s with heap := h', toks := tk }) : wpAny (model pw S.w) c.A t k E s := by
  rcases bnd_some h with ⟨v, q, e1, e2⟩ | ⟨x, q, e1, e2⟩
  · exact H _ e1 s m own led k E R (fun v' q' e => by cases e; exact hok v q e2) (fun x q e => by cases e)
  · exact H _ e1 s m own led k E R (fun v' q' e => by cases e) (fun x' q' e => by cases e; exact hex x q e2)
end
end Lr
end
section
open PySem PySem.W PyProof.Rows PySem.SeqAt
set_option maxRecDepth 100000
namespace Lr
theorem str_len {x : PySem.Str} : x.length = x.cps.toList.length := by simp [PySem.Str.length]
theorem lid_ok {n : Nat} (h : n ≤ lid) : n ≤ sizeLine := Nat.le_trans h (by decide)
theorem joined_flatten (n : Nat) (v : Array Nat) : (List.foldl (fun x1 x2 => x1 ++ x2) #[] (List.replicate n v)).toList = (List.replicate n v.toList).flatten := by
  have : ∀ (l : List (Array Nat)) (a : Array Nat), (List.foldl (fun x1 x2 => x1 ++ x2) a l).toList = a.toList ++ (l.map (·.toList)).flatten := by
    intro l
    induction l with
    | nil => intro a; simp
    | cons x r ih => intro a; rw [List.foldl_cons, ih]; simp
  rw [this]; simp
theorem list_mul_eq (vs : List Value) (j : Nat) : (List.foldl (fun x1 x2 => x1 ++ x2) #[] (List.replicate (if vs.toArray.isEmpty = true then 0 else j) vs.toArray)) = (List.replicate j vs).flatten.toArray := by
  apply Array.ext'
  have : ∀ (l : List (Array Value)) (a : Array Value), (List.foldl (fun x1 x2 => x1 ++ x2) a l).toList = a.toList ++ (l.map (·.toList)).flatten := by
    intro l
    induction l with
    | nil => intro a; simp
    | cons x r ih => intro a; rw [List.foldl_cons, ih]; simp
  rw [this]
  cases vs with
  | nil => simp
  | cons v vs => simp
theorem txt_mul (x : PySem.Str) (n : Int) : (Txt.mul x n).cps.toList = (List.replicate n.toNat x.cps.toList).flatten := by
  unfold Txt.mul
  split
  · rename_i h
    have : n.toNat = 0 := by omega
    rw [this]; rfl
  · rename_i h
    split
    · rename_i h2
      simp only [Bool.or_eq_true, beq_iff_eq] at h2
      rcases h2 with rfl | h2
      · simp
      · have h3 : x.cps.toList = [] := by rw [← List.length_eq_zero_iff, ← str_len]; exact h2
        rw [h3]; simp
    · exact joined_flatten _ _
theorem str_add (x y : PySem.Str) : (x ++ y).cps.toList = x.cps.toList ++ y.cps.toList := by
  show (x.cps ++ y.cps).toList = _
  simp
theorem natAbs_bits {a : Int} (h : a.natAbs < 2 ^ 200) : Builtin.Int.intBits a ≤ 200 := by
  unfold Builtin.Int.intBits
  split
  · exact Nat.zero_le _
  · rename_i n
    have h0 : a.natAbs ≠ 0 := by simpa using n
    have := (Nat.log2_lt h0).mpr h
    assumption
theorem mul_ok {a b : Int} (ha : a.natAbs < 2 ^ 200) (hb : b.natAbs < 2 ^ 200) : IntMulOk a b := by
  unfold IntMulOk
  have h1 := natAbs_bits ha
  have h2 := natAbs_bits hb
  have : Builtin.Int.intTooBig ((Builtin.Int.intBits a : Int) + (Builtin.Int.intBits b : Int)) = false := by
    unfold Builtin.Int.intTooBig
    simp only [decide_eq_false_iff_not, gt_iff_lt, Int.not_lt]
    have : (400 : Int) ≤ bitsLine := by decide
    omega
  rw [this]; simp
section
variable {S : Site} {c : Act} {n : Nat} {ns : List PySem.Str} {ρ : Fm} {p : Int} {m : Names} {own : Own} {led : Led} {s : Shared} {E : Value → Shared → Prop}
theorem mul_list_any {l : Addr} {items : Array Value} {x : Int} {u : Tok} {Q : Value → Shared → Prop} {w : World} {A : Around}
    (hl : s.heap.IsList l items) (hlo : -(2 ^ 63 : Int) ≤ x) (hhi : x < 2 ^ 63) (hsz : items.size * x.toNat ≤ 2 ^ 24)
    (h : Q (.ref s.heap.objs.size) { s with heap := s.heap.push { cls := .type "list", data := .seq (List.foldl (fun x1 x2 => x1 ++ x2) #[] (List.replicate (if items.isEmpty = true then 0 else x.toNat) items)) } }) :
    wpAny (model pw w) A (binaryOp .Mult (.ref l) (.int x u)) Q E s := by
  obtain ⟨⟨cls, dd, data, sl⟩, ho, hc, k, hd⟩ := hl
  simp only at hc hd
  subst hc hd
  exact wpAny_binaryOp_repeat_ref (T := "list") (U := "int") (by decide) ⟨_, ho, rfl⟩ (fun s' => typeIs_int s' x u) noFill_list_mul F.fills_int_mul F.slot_int_rmul repeat_list F.slot_int_index.lookup
    (call_meets F.slot_int_rmul (typeIs_int s x u) F.entry_int_rmul (F.args_int_rmul_2 _ _) (lm_int_rmul_list_any x u l items k dd sl)
      ⟨ho, rfl, ⟨_, ho, rfl⟩, call_meets F.slot_list_mul ⟨_, ho, rfl⟩ F.entry_list_mul (F.args_list_mul_2 _ _)
        (lm_list_mul_any l items k dd sl x u (by simp [Builtin.List.listFitsIndex]; omega) (by omega) (by simp [Builtin.List.listTooLong, sizeLine]; assumption))
        ⟨ho, h⟩⟩)
noncomputable def opOf : MOp → Operator
  | .add => .Add | .sub => .Sub | .mul => .Mult | .fdiv => .FloorDiv | .mod => .Mod
  | .band => .BitAnd | .shl => .LShift | .shr => .RShift | .pow => .Pow
noncomputable def mOp (m : MOp) (o : Operator) : Bool := Nat.beq (opOf m).ctorIdx o.ctorIdx
theorem op_at {a b : Operator} (h : Nat.beq a.ctorIdx b.ctorIdx = true) : b = a :=
  (Operator.ofNat_ctorIdx b).symm.trans ((congrArg Operator.ofNat (Nat.eq_of_beq_eq_true h).symm).trans (Operator.ofNat_ctorIdx a))
theorem mOp_el {m : MOp} {o : Operator} (h : mOp m o = true) : o = opOf m := op_at h
theorem asInt_some {x : V} {b : Int} (h : asInt x = some b) : x = .int b := by
  cases x <;> cases h <;> rfl
theorem asBool_some {x : V} {b : Bool} (h : asBool x = some b) : x = .bool b := by
  cases x <;> cases h <;> rfl
theorem asStr_some {x : V} {b : List Nat} (h : asStr x = some b) : x = .str b := by
  cases x <;> cases h <;> rfl
theorem asList_some {x : V} {b : List V} (h : asList x = some b) : x = .list b := by
  cases x <;> cases h <;> rfl
theorem obind {α β : Type} {a : Option α} {f : α → Option β} {r : β} (h : a.bind f = some r) : ∃ v, a = some v ∧ f v = some r := by
  cases a with
  | none => cases h
  | some v => exact ⟨v, rfl, h⟩
theorem onInts_el {α : Type} {f : Int → Int → Option α} {x y : V} {r : α} (h : onInts f x y = some r) : ∃ i j, x = .int i ∧ y = .int j ∧ f i j = some r := by
  obtain ⟨i, h1, h⟩ := obind h
  obtain ⟨j, h2, h⟩ := obind h
  exact ⟨i, j, asInt_some h1, asInt_some h2, h⟩
theorem ite_el {α : Type} {P : Prop} [Decidable P] {a : Option α} {r : α} (h : (if P then a else none) = some r) : P ∧ a = some r := by
  by_cases p : P
  · rw [if_pos p] at h; exact ⟨p, h⟩
  · rw [if_neg p] at h; cases h
theorem Rep.int_inv {ap : Option Addr} {led : Led} {v : Value} {i : Int} (h : Rep ap led v (.int i)) : ∃ t, v = .int i t := by cases h; exact ⟨_, rfl⟩
theorem Rep.bool_inv {ap : Option Addr} {led : Led} {v : Value} {i : Bool} (h : Rep ap led v (.bool i)) : v = .bool i := by cases h; rfl
theorem Rep.str_inv {ap : Option Addr} {led : Led} {v : Value} {l : List Nat} (h : Rep ap led v (.str l)) : ∃ x t, v = .str x t ∧ l = x.cps.toList := by cases h; exact ⟨_, _, rfl, rfl⟩
theorem Rep.list_inv {ap : Option Addr} {led : Led} {v : Value} {l : List V} (h : Rep ap led v (.list l)) : ∃ a vs, v = .ref a ∧ (a, false, vs) ∈ led ∧ RepL ap led vs l := by cases h with | list h r => exact ⟨_, _, rfl, h, r⟩
theorem Rep.tup_inv {ap : Option Addr} {led : Led} {v : Value} {l : List V} (h : Rep ap led v (.tup l)) : ∃ a vs, v = .ref a ∧ (a, true, vs) ∈ led ∧ RepL ap led vs l := by cases h with | tup h r => exact ⟨_, _, rfl, h, r⟩
theorem OkK.int {v : Int} {Q : Value → Shared → Prop} (R : Sd S c ns ρ p m own led s.heap) (hk : OkK S c ns ρ p m own led s (.int v) Q) (t k : Nat) : Q (.int v t) { s with toks := k } :=
  hk s.heap k led _ R (fun _ h => h) (.int _ _)
theorem OkK.bool {v : Bool} {Q : Value → Shared → Prop} (R : Sd S c ns ρ p m own led s.heap) (hk : OkK S c ns ρ p m own led s (.bool v) Q) : Q (.bool v) s :=
  hk s.heap s.toks led _ R (fun _ h => h) (.bool _)
theorem OkK.str {x : PySem.Str} {l : List Nat} (e : x.cps.toList = l) {Q : Value → Shared → Prop} (R : Sd S c ns ρ p m own led s.heap) (hk : OkK S c ns ρ p m own led s (.str l) Q) (t k : Nat) : Q (.str x t) { s with toks := k } :=
  hk s.heap k led _ R (fun _ h => h) (.strOf e)
theorem int2 {α : Type} {ap : Option Addr} {f : Int → Int → Option α} {x y : V} {r : α} (h : onInts f x y = some r) {va vb : Value} (ra : Rep ap led va x) (rb : Rep ap led vb y) :
    ∃ i j t u, va = .int i t ∧ vb = .int j u ∧ f i j = some r := by
  obtain ⟨i, j, rfl, rfl, e⟩ := onInts_el h
  obtain ⟨t, rfl⟩ := ra.int_inv
  obtain ⟨u, rfl⟩ := rb.int_inv
  exact ⟨i, j, t, u, rfl, rfl, e⟩
theorem addOk (X : Cx S c n) {a b r : V} (e : addV a b = some r) {va vb : Value} (ra : Rep S.rp led va a) (rb : Rep S.rp led vb b) (R : Sd S c ns ρ p m own led s.heap)
    {Q : Value → Shared → Prop} (hk : OkK S c ns ρ p m own led s r Q) : wpAny (model pw S.w) c.A (binaryOp .Add va vb) Q E s := by
  cases ra <;> first | cases e | skip
  · obtain ⟨j, h1, e⟩ := obind e
    cases e
    obtain ⟨u, rfl⟩ := (asInt_some h1 ▸ rb).int_inv
    exact add_int (hk.int R _ _)
  · obtain ⟨l, h1, e⟩ := obind e
    obtain ⟨y, u, rfl, rfl⟩ := (asStr_some h1 ▸ rb).str_inv
    obtain ⟨hl, e⟩ := ite_el e
    cases e
    refine add_str (fun t' k => hk.str (str_add _ _) R _ _) ?_
    rw [List.length_append] at hl
    rw [str_len, str_len]; exact lid_ok hl
  · rename_i a vs l h1 r1
    obtain ⟨l2, h2, e⟩ := obind e
    obtain ⟨a2, ws, rfl, h2, r2⟩ := (asList_some h2 ▸ rb).list_inv
    obtain ⟨hl, e⟩ := ite_el e
    cases e
    refine add_arrays (R.fr X) news_all (R.sat _ h1).list (R.sat _ h2).list (fun h' F N => hk h' s.toks _ _ (R.afterNew X F N (t := false) (vs := vs ++ ws) (Nat.le_refl _) rfl rfl) (fun _ h => .tail _ h) (.list (.head _) ((r1.append r2).mono fun _ h => .tail _ h))) ?_
    rw [List.length_append] at hl
    simp only [List.size_toArray]
    rw [r1.length, r2.length]; exact lid_ok hl
theorem mulOk (X : Cx S c n) {a b r : V} (e : mulV a b = some r) {va vb : Value} (ra : Rep S.rp led va a) (rb : Rep S.rp led vb b) (R : Sd S c ns ρ p m own led s.heap)
    {Q : Value → Shared → Prop} (hk : OkK S c ns ρ p m own led s r Q) : wpAny (model pw S.w) c.A (binaryOp .Mult va vb) Q E s := by
  obtain ⟨k, h1, e⟩ := obind e
  obtain ⟨u, rfl⟩ := (asInt_some h1 ▸ rb).int_inv
  cases ra <;> first | cases e | skip
  · obtain ⟨hb, e⟩ := ite_el e
    cases e
    exact mul_int (hk.int R _ _) (mul_ok hb.1 hb.2)
  · rename_i x t _
    obtain ⟨⟨h1, h2, h3⟩, e⟩ := ite_el e
    cases e
    rw [← str_len] at h1
    refine SB.mul ⟨by simp; omega, fun h4 h5 => ?_, fun h4 h5 => ?_⟩ (fun t' k => hk.str (txt_mul x _) R _ _)
    · simp only [Bool.or_eq_false_iff, beq_eq_false_iff_ne] at h5
      have h6 : (x.length : Int) * k ≤ 1000000 := by
        have : ((k.toNat * x.length : Nat) : Int) ≤ (lid : Nat) := Int.ofNat_le.mpr h1
        rw [Int.natCast_mul, Int.toNat_of_nonneg (by omega)] at this
        rw [Int.mul_comm]; exact this
      intro h7
      have h8 : (2 ^ 63 - 1 : Int) / k < x.length := h7
      rw [Int.ediv_lt_iff_lt_mul (by exact Int.not_lt.mp ‹_›)] at h8
      omega
    · unfold Builtin.Str.tooLong
      simp only [decide_eq_false_iff_not, gt_iff_lt, Nat.not_lt]
      rw [Nat.mul_comm]; exact lid_ok h1
  · rename_i a vs l h4 r1 _
    obtain ⟨⟨h1, h2, h3⟩, e⟩ := ite_el e
    cases e
    refine mul_list_any (R.sat _ h4).list (by omega) (by exact Int.lt_of_lt_of_le ‹_› (by decide)) ?_ ?_
    · rw [← r1.length] at h1
      simp only [List.size_toArray]
      rw [Nat.mul_comm]; exact Nat.le_trans h1 (by decide)
    · rw [list_mul_eq]
      exact hk _ s.toks _ _ (R.pushNew X (t := false) rfl rfl) (fun _ h => .tail _ h) (.list (.head _) ((r1.repl _).mono fun _ h => .tail _ h))
theorem binOk (X : Cx S c n) {mo : MOp} {o : Operator} (ho : mOp mo o = true) {a b r : V} (e : binop mo a b = some r) {va vb : Value} (ra : Rep S.rp led va a) (rb : Rep S.rp led vb b) (R : Sd S c ns ρ p m own led s.heap)
    {Q : Value → Shared → Prop} (hk : OkK S c ns ρ p m own led s r Q) : wpAny (model pw S.w) c.A (binaryOp o va vb) Q E s := by
  rw [mOp_el ho]
  cases mo with
  | add => exact addOk X e ra rb R hk
  | mul => exact mulOk X e ra rb R hk
  | sub =>
    obtain ⟨i, j, t, u, rfl, rfl, e⟩ := int2 e ra rb
    cases e
    exact sub_int (hk.int R _ _)
  | fdiv =>
    obtain ⟨i, b, t, u, rfl, rfl, e⟩ := int2 e ra rb
    obtain ⟨hb, e⟩ := ite_el e
    cases e
    refine floordiv_int (by omega) (hk.int R _ _) (.inl ?_)
    unfold Builtin.divisionGoesByPylong
    have : ¬ (if (b == 0) = true then 0 else b.natAbs.log2 / 30 + 1) > 300 := by
      have h0 : b.natAbs ≠ 0 := by omega
      have : b.natAbs.log2 < 10 := (Nat.log2_lt h0).mpr (by omega)
      split <;> omega
    simp only [this, decide_false, Bool.false_and]
  | mod =>
    obtain ⟨i, b, t, u, rfl, rfl, e⟩ := int2 e ra rb
    by_cases hb : b = 0
    · rw [if_pos hb] at e; cases e
    · rw [if_neg hb] at e; cases e
      exact mod_int' hb (hk.int R _ _)
  | band =>
    obtain ⟨i, j, t, u, rfl, rfl, e⟩ := int2 e ra rb
    cases e
    exact and_int (hk.int R _ _)
  | shl =>
    obtain ⟨i, b, t, u, rfl, rfl, e⟩ := int2 e ra rb
    obtain ⟨⟨h1, h2, h3⟩, e2⟩ := ite_el e
    cases e2
    clear e
    subst h1
    refine lshift_int_small h2 (by exact Int.le_trans ‹_› (by decide)) (by decide) ?_
    rw [Int.one_mul]; exact hk.int R _ _
  | shr =>
    obtain ⟨i, b, t, u, rfl, rfl, e⟩ := int2 e ra rb
    obtain ⟨hb, e⟩ := ite_el e
    cases e
    exact rshift_int_or X.k.handledA (fun h => by omega) (fun _ => hk.int R _ _)
  | pow =>
    obtain ⟨i, b, t, u, rfl, rfl, e⟩ := int2 e ra rb
    obtain ⟨⟨h1, h2, h3⟩, e2⟩ := ite_el e
    cases e2
    clear e
    subst h1
    exact pow_int h2 (by rw [show Builtin.Int.intBits 2 = 2 from by decide +kernel]; omega) (hk.int R _ _)
end
end Lr
end
section
open PySem PySem.W PyProof.Rows PySem.SeqAt
set_option maxRecDepth 100000
namespace Lr
theorem cell_one {h : Heap} {led : Led} (sat : ∀ q ∈ led, SatE h q) {a : Addr} {t : Bool} {vs ws : List Value} (h1 : (a, t, vs) ∈ led) (h2 : (a, t, ws) ∈ led) : vs = ws := by
  obtain ⟨o, n, ho, hc, hd⟩ := sat _ h1
  obtain ⟨o', n', ho', hc', hd'⟩ := sat _ h2
  simp only at ho ho' hd hd'
  rw [ho] at ho'; cases ho'; rw [hd] at hd'
  injection hd' with e1 e2
  simpa using e1
theorem bothSome {f : Option Bool} {g : Option Bool} {r : Bool} (e : (match f, g with | some u, some v => some (u && v) | _, _ => none) = some r) : ∃ u v, f = some u ∧ g = some v ∧ (u && v) = r := by
  cases f with
  | none => cases e
  | some u =>
    cases g with
    | none => cases e
    | some v => exact ⟨u, v, rfl, rfl, Option.some.inj e⟩
theorem veq_el {ap : Option Addr} {led : Led} {f : List V → List V → Option Bool} {a b : Value} {x y : V} {r : Bool} (h1 : Rep ap led a x) (h2 : Rep ap led b y) (e : veqV f x y = some r) {P : Value → Value → Bool → Prop}
    (nn : P .none .none true) (ni : ∀ i t, P .none (.int i t) false) (ns : ∀ x t, P .none (.str x t) false) (bb : ∀ u v, P (.bool u) (.bool v) (u == v))
    (kn : ∀ i t, P (.int i t) .none false) (ii : ∀ i t j u, P (.int i t) (.int j u) (i == j)) (is : ∀ i t x u, P (.int i t) (.str x u) false)
    (sn : ∀ x t, P (.str x t) .none false) (si : ∀ x u i t, P (.str x u) (.int i t) false) (ss : ∀ x t y u, P (.str x t) (.str y u) (x.cps.toList == y.cps.toList))
    (tt : ∀ l l' vs ws xs ys, (l, true, vs) ∈ led → RepL ap led vs xs → (l', true, ws) ∈ led → RepL ap led ws ys → f xs ys = some r → P (.ref l) (.ref l') r) : P a b r := by
  cases h1 with
  | none =>
    cases h2 <;> cases e
    · exact nn
    · exact ni _ _
    · exact ns _ _
  | bool b =>
    cases h2 <;> cases e
    exact bb _ _
  | int i t =>
    cases h2 <;> cases e
    · exact kn _ _
    · exact ii _ _ _ _
    · exact is _ _ _ _
  | str x t =>
    cases h2 <;> cases e
    · exact sn _ _
    · exact si _ _ _ _
    · exact ss _ _ _ _
  | tup h r =>
    cases h2 with
    | tup h' r' => exact tt _ _ _ _ _ _ h r h' r' e
    | none => cases e
    | bool _ => cases e
    | int _ _ => cases e
    | str _ _ => cases e
    | list _ _ => cases e
    | pen _ => cases e
  | list _ _ => cases e
  | pen _ => cases e
theorem veqL_self {ap : Option Addr} {led : Led} {f : V → V → Option Bool} (H : ∀ v x y r, Rep ap led v x → Rep ap led v y → f x y = some r → r = true) (vs : List Value) : ∀ (xs ys : List V) (r : Bool), RepL ap led vs xs → RepL ap led vs ys → veqL f xs ys = some r → r = true := by
  induction vs with
  | nil => intro _ _ _ h1 h2 e; cases h1; cases h2; cases e; rfl
  | cons v vs ih =>
    intro _ _ _ h1 h2 e
    cases h1 with
    | cons h1 r1 =>
      cases h2 with
      | cons h2 r2 =>
        obtain ⟨u, w, e1, e2, rfl⟩ := bothSome e
        rw [H v _ _ _ h1 h2 e1, ih _ _ _ r1 r2 e2]; rfl
theorem rep_self {ap : Option Addr} {h : Heap} {led : Led} (sat : ∀ q ∈ led, SatE h q) (n : Nat) : ∀ (v : Value) (x y : V) (r : Bool), Rep ap led v x → Rep ap led v y → veqN n x y = some r → r = true := by
  have base (f) (H : ∀ vs xs ys r, RepL ap led vs xs → RepL ap led vs ys → f xs ys = some r → r = true) (v : Value) (x y : V) (r : Bool) (h1 : Rep ap led v x) (h2 : Rep ap led v y) (e : veqV f x y = some r) : r = true := by
    refine veq_el h1 h2 e (P := fun a b r => a = b → r = true) (fun _ => rfl) nofun nofun (fun _ _ e => by cases e; exact beq_self_eq_true _) nofun (fun _ _ _ _ e => by cases e; exact beq_self_eq_true _) nofun nofun nofun (fun _ _ _ _ e => by cases e; exact beq_self_eq_true _) (fun l l' vs ws xs ys m1 r1 m2 r2 e he => ?_) rfl
    cases he
    cases cell_one sat m1 m2
    exact H _ _ _ _ r1 r2 e
  induction n with
  | zero => exact base (fun _ _ => none) (fun _ _ _ _ _ _ e => by cases e)
  | succ n ih => exact base _ (veqL_self ih)
noncomputable def at2 (f : V → V → Option Bool) (xs ys : List V) (j : Nat) : Bool := match xs[j]?, ys[j]? with
  | some x, some y => (f x y).getD false
  | _, _ => false
theorem veqL_all {f : V → V → Option Bool} : ∀ (xs ys : List V) (r : Bool), veqL f xs ys = some r → ((List.range (min xs.length ys.length)).all (at2 f xs ys) && xs.length == ys.length) = r
  | [], [], r, e => by cases e; rfl
  | [], _ :: _, r, e => by cases e; rfl
  | _ :: _, [], r, e => by cases e; exact Bool.and_false _
  | x :: xs, y :: ys, r, e => by
    obtain ⟨u, w, e1, e2, rfl⟩ := bothSome e
    rw [← veqL_all xs ys w e2]
    rw [List.length_cons, List.length_cons, Nat.succ_min_succ, List.range_succ_eq_map, List.all_cons, List.all_map]
    have h0 : at2 f (x :: xs) (y :: ys) 0 = u := by show (f x y).getD false = u; rw [e1]; rfl
    have h1 : (at2 f (x :: xs) (y :: ys) ∘ Nat.succ) = at2 f xs ys := rfl
    rw [h0, h1, Bool.and_assoc, show (xs.length + 1 == ys.length + 1) = (xs.length == ys.length) from by simp]
theorem veqL_some {f : V → V → Option Bool} : ∀ (xs ys : List V) (r : Bool), veqL f xs ys = some r → ∀ (j : Nat) (x y : V), xs[j]? = some x → ys[j]? = some y → ∃ u, f x y = some u
  | [], _, r, e, j, x, y, h1, h2 => by cases h1
  | _ :: _, [], r, e, j, x, y, h1, h2 => by cases h2
  | a :: xs, b :: ys, r, e, j, x, y, h1, h2 => by
    obtain ⟨u, w, e1, e2, rfl⟩ := bothSome e
    cases j with
    | zero => cases h1; cases h2; exact ⟨u, e1⟩
    | succ j => exact veqL_some xs ys w e2 j x y h1 h2
section
variable {S : Site} {c : Act} {n : Nat} {ns : List PySem.Str} {ρ : Fm} {p : Int} {m : Names} {own : Own} {led : Led} {s : Shared} {E : Value → Shared → Prop}
theorem items_at {A : Around} {s : Shared} {f : V → V → Option Bool} {ap : Option Addr} {vs ws : List Value} {xs ys : List V} {r : Bool} (r1 : RepL ap led vs xs) (r2 : RepL ap led ws ys) (e : veqL f xs ys = some r)
    (H : ∀ a b x y u, Rep ap led a x → Rep ap led b y → f x y = some u → EqAt A s a b u) : ∀ j (h1 : j < vs.toArray.size) (h2 : j < ws.toArray.size), EqAt A s vs.toArray[j] ws.toArray[j] (at2 f xs ys j) := fun j h1 h2 => by
  have g1 : vs[j]? = some vs.toArray[j] := by simp at h1 ⊢
  have g2 : ws[j]? = some ws.toArray[j] := by simp at h2 ⊢
  obtain ⟨x, ex, rx⟩ := r1.nth j _ g1
  obtain ⟨y, ey, ry⟩ := r2.nth j _ g2
  obtain ⟨u, eu⟩ := veqL_some xs ys r e j x y ex ey
  have : at2 f xs ys j = u := by simp [at2, ex, ey, eu]
  rw [this]
  exact H _ _ _ _ _ rx ry eu
theorem veq_strs (x y : PySem.Str) : (x.cps.toList == y.cps.toList) = (x == y) := str_beq x y
theorem eqAt (sat : ∀ q ∈ led, SatE s.heap q) : ∀ (n : Nat) (A : Around) (a b : Value) (x y : V) (r : Bool), A.units + n + 1 < cLine → Rep S.rp led a x → Rep S.rp led b y → veqN n x y = some r → EqAt A s a b r := by
  have base (A : Around) (f) (H : ∀ l l' vs ws xs ys r, (l, true, vs) ∈ led → RepL S.rp led vs xs → (l', true, ws) ∈ led → RepL S.rp led ws ys → f xs ys = some r → EqAt A s (.ref l) (.ref l') r) (a b : Value) (x y : V) (r : Bool) (h1 : Rep S.rp led a x) (h2 : Rep S.rp led b y) (e : veqV f x y = some r) : EqAt A s a b r :=
    veq_el h1 h2 e (P := fun a b r => EqAt A s a b r) (EqAt.same _) (fun _ _ => EqAt.none_int _ _) (fun _ _ => EqAt.none_str _ _) (fun _ _ => EqAt.bool_bool _ _) (fun _ _ => EqAt.int_none _ _) (fun _ _ _ _ => EqAt.int_int _ _ _ _) (fun _ _ _ _ => EqAt.int_str _ _ _ _) (fun _ _ => EqAt.str_none _ _) (fun _ _ _ _ => EqAt.str_int _ _ _ _) (fun _ _ _ _ => veq_strs _ _ ▸ EqAt.str_str _ _ _ _) (fun l l' vs ws xs ys m1 r1 m2 r2 e => H l l' vs ws xs ys r m1 r1 m2 r2 e)
  intro n
  induction n with
  | zero => exact fun A a b x y r hu => base A (fun _ _ => none) (fun _ _ _ _ _ _ _ _ _ _ _ e => by cases e) a b x y r
  | succ n ih =>
    refine fun A a b x y r hu => base A _ (fun l l' vs ws xs ys r m1 r1 m2 r2 e => ?_) a b x y r
    by_cases hne : l = l'
    · subst hne
      have : r = true := by
        cases cell_one sat m1 m2
        exact veqL_self (rep_self sat n) _ _ _ _ r1 r2 e
      rw [this]; exact EqAt.same _
    · have h3 := veqL_all xs ys r e
      rw [← r1.length, ← r2.length] at h3
      rw [← h3]
      exact EqAt.of_refs hne (RcAt.tuples (A := A) (sat _ m1).tup (sat _ m2).tup (by omega) (items_at (A := A.in1) r1 r2 e fun a b x y u ha hb hu' => ih A.in1 a b x y u (by show A.units + 1 + n + 1 < _; omega) ha hb hu'))
theorem in1_units (A : Around) : A.in1.units = A.units + 1 := rfl
theorem eqOk (X : Cx S c n) (R : Sd S c ns ρ p m own led s.heap) {a b : Value} {x y : V} {r : Bool} (h1 : Rep S.rp led a x) (h2 : Rep S.rp led b y) (e : veq x y = some r) {Q : Value → Shared → Prop} (hk : OkK S c ns ρ p m own led s (.bool r) Q) :
    wpAny (model pw S.w) c.A (compareOp .Eq a b) Q E s := by
  have hu : c.A.units + 20 < cLine := by have := X.k.units; show c.A₀.units + 3 + 20 < _; omega
  refine veq_el h1 h2 e (P := fun a b r => Q (.bool r) s → wpAny (model pw S.w) c.A (compareOp .Eq a b) Q E s) EqNone.eq_none_none (fun _ _ => EqNone.eq_none_int) (fun _ _ => EqNone.eq_none_str) (fun _ _ => eq_bool) (fun _ _ => EqNone.eq_int_none) (fun _ _ _ _ => eq_int) (fun _ _ _ _ => EqMixed.eq_int_str) (fun _ _ => EqNone.eq_str_none) (fun _ _ _ _ => EqMixed.eq_str_int) (fun _ _ _ _ => veq_strs _ _ ▸ eq_str) (fun l l' vs ws xs ys m1 r1 m2 r2 e hq => ?_) (hk.bool R)
  have h3 := veqL_all xs ys r e
  rw [← r1.length, ← r2.length] at h3
  rw [← h3] at hq
  exact RcAt.tuples (A := c.A) (R.sat _ m1).tup (R.sat _ m2).tup (by omega) (items_at (A := c.A.in1) r1 r2 e fun a b x y u ha hb hu' => eqAt R.sat 3 c.A.in1 a b x y u (by show c.A.units + 1 + 3 + 1 < _; omega) ha hb hu') _ _ _ _ hq
theorem neOk (X : Cx S c n) (R : Sd S c ns ρ p m own led s.heap) {a b : Value} {x y : V} {r : Bool} (h1 : Rep S.rp led a x) (h2 : Rep S.rp led b y) (e : veq x y = some r) {Q : Value → Shared → Prop} (hk : OkK S c ns ρ p m own led s (.bool (!r)) Q) :
    wpAny (model pw S.w) c.A (compareOp .NotEq a b) Q E s := by
  have hu : c.A.units + 20 < cLine := by have := X.k.units; show c.A₀.units + 3 + 20 < _; omega
  refine veq_el h1 h2 e (P := fun a b r => Q (.bool (!r)) s → wpAny (model pw S.w) c.A (compareOp .NotEq a b) Q E s) (RcNeAt.none_none _ _ _ _) (fun _ _ => RcNeAt.none_int _ _ _ _ _ _) (fun _ _ => RcNeAt.none_str _ _ _ _ _ _) (fun _ _ => RcNeAt.bool_bool _ _ _ _ _ _) (fun _ _ => RcNeAt.int_none _ _ _ _ _ _) (fun _ _ _ _ => RcNeAt.int_int _ _ _ _ _ _ _ _) (fun _ _ _ _ => RcNeAt.int_str _ _ _ _ _ _ _ _) (fun _ _ => RcNeAt.str_none _ _ _ _ _ _) (fun _ _ _ _ => RcNeAt.str_int _ _ _ _ _ _ _ _) (fun _ _ _ _ => veq_strs _ _ ▸ RcNeAt.str_str _ _ _ _ _ _ _ _) (fun l l' vs ws xs ys m1 r1 m2 r2 e hq => ?_) (hk.bool R)
  have h3 := veqL_all xs ys r e
  rw [← r1.length, ← r2.length] at h3
  rw [← h3] at hq
  exact RcNeAt.tuples (A := c.A) (R.sat _ m1).tup (R.sat _ m2).tup (by omega) (items_at (A := c.A.in1) r1 r2 e fun a b x y u ha hb hu' => eqAt R.sat 3 c.A.in1 a b x y u (by show c.A.units + 1 + 3 + 1 < _; omega) ha hb hu') _ _ _ _ hq
noncomputable def cmpOf : COp → CmpOp
  | .eq => .Eq | .ne => .NotEq | .lt => .Lt | .le => .LtE | .gt => .Gt | .ge => .GtE
noncomputable def mCmp (m : COp) (o : CmpOp) : Bool := Nat.beq (cmpOf m).ctorIdx o.ctorIdx
theorem cmp_at {a b : CmpOp} (h : Nat.beq a.ctorIdx b.ctorIdx = true) : b = a :=
  (CmpOp.ofNat_ctorIdx b).symm.trans ((congrArg CmpOp.ofNat (Nat.eq_of_beq_eq_true h).symm).trans (CmpOp.ofNat_ctorIdx a))
theorem mCmp_el {m : COp} {o : CmpOp} (h : mCmp m o = true) : o = cmpOf m := cmp_at h
theorem cmpOk (X : Cx S c n) (R : Sd S c ns ρ p m own led s.heap) {co : COp} {o : CmpOp} (ho : mCmp co o = true) {a b : Value} {x y : V} {r : Bool} (h1 : Rep S.rp led a x) (h2 : Rep S.rp led b y) (e : cmpop co x y = some r) {Q : Value → Shared → Prop}
    (hk : OkK S c ns ρ p m own led s (.bool r) Q) : wpAny (model pw S.w) c.A (compareOp o a b) Q E s := by
  rw [mCmp_el ho]
  cases co with
  | eq => exact eqOk X R h1 h2 e hk
  | ne =>
    cases f : veq x y with
    | none => rw [show cmpop .ne x y = (veq x y).map (!·) from rfl, f] at e; cases e
    | some u => rw [show cmpop .ne x y = (veq x y).map (!·) from rfl, f] at e; cases e; exact neOk X R h1 h2 f hk
  | lt => obtain ⟨i, j, t, u, rfl, rfl, e⟩ := int2 e h1 h2; cases e; exact lt_int (hk.bool R)
  | le => obtain ⟨i, j, t, u, rfl, rfl, e⟩ := int2 e h1 h2; cases e; exact le_int (hk.bool R)
  | gt => obtain ⟨i, j, t, u, rfl, rfl, e⟩ := int2 e h1 h2; cases e; exact gt_int (hk.bool R)
  | ge => obtain ⟨i, j, t, u, rfl, rfl, e⟩ := int2 e h1 h2; cases e; exact ge_int (hk.bool R)
end
end Lr
end
section
open PySem PySem.W PyProof.Rows PySem.SeqAt
set_option maxRecDepth 100000
namespace Lr
noncomputable def isName : Expr → Bool
  | .Name _ _ => true
  | _ => false
noncomputable def noSlice : Expr → Bool
  | .Slice .. => false
  | .Starred .. => false
  | _ => true
theorem letgo_name {v : Expr} (h : isName v = true) (o r : Value) : letTemporaryGo v o r = pure () := by
  cases v <;> first | exact absurd h Bool.false_ne_true | rfl
theorem letgo_str (v : Expr) (x : PySem.Str) (t : Tok) (r : Value) : letTemporaryGo v (.str x t) r = pure () := by cases v <;> rfl
theorem sub_plain {y : Expr} (h : noSlice y = true) (o i : Value) : subscripted y false o i = operate [o, i] (getItem o i) := by
  cases y <;> first | exact absurd h Bool.false_ne_true | rfl
theorem pick_aux {α : Type} (l : List α) (a : Nat) : ∀ c : Nat, a + c ≤ l.length → (List.range c).filterMap (fun k => l[a + k]?) = (l.drop a).take c
  | 0, _ => by simp
  | c + 1, h => by
    rw [List.range_succ, List.filterMap_append, pick_aux l a c (by exact Nat.le_of_lt ‹_›)]
    have hl : c < (l.drop a).length := by rw [List.length_drop]; omega
    rw [List.take_succ_eq_append_getElem hl]
    congr 1
    have : l[a + c]? = some (l.drop a)[c] := by rw [List.getElem_drop]; exact List.getElem?_eq_getElem _
    simp [this]
theorem range_len (a b : Int) (ha : 0 ≤ a) : ((if a < b then (b - a + 1 - 1) / 1 else 0 : Int)).toNat = b.toNat - a.toNat := by
  by_cases h : a < b
  · rw [if_pos h, Int.add_sub_cancel, Int.ediv_one]
    obtain ⟨i, rfl⟩ := Int.eq_ofNat_of_zero_le ha
    obtain ⟨j, rfl⟩ := Int.eq_ofNat_of_zero_le (Int.le_trans ha (Int.le_of_lt h))
    exact Int.toNat_sub j i
  · rw [if_neg h, Nat.sub_eq_zero_of_le (Int.toNat_le_toNat (Int.not_lt.mp h))]
    rfl
theorem range_pick {α : Type} (l : List α) (a b : Int) (ha : 0 ≤ a) (hb : b ≤ l.length) : (sliceRange a b 1).filterMap (fun i => l[i]?) = (l.take b.toNat).drop a.toNat := by
  unfold sliceRange
  simp only [gt_iff_lt, Int.one_pos, if_true, Int.one_mul]
  rw [List.filterMap_map, range_len a b ha, List.drop_take]
  have h2 : ((fun i => l[i]?) ∘ fun (k : Nat) => (a + (k : Int)).toNat) = fun k => l[a.toNat + k]? := by
    funext k
    show l[(a + (k : Int)).toNat]? = _
    rw [Int.toNat_add ha (Int.natCast_nonneg k), Int.toNat_natCast]
  rw [h2]
  by_cases h : a ≤ b
  · refine pick_aux l _ _ ?_
    rw [Nat.add_sub_cancel' (Int.toNat_le_toNat h)]
    exact Int.toNat_le.mpr hb
  · rw [Nat.sub_eq_zero_of_le (Int.toNat_le_toNat (Int.le_of_lt (Int.not_le.mp h)))]; rfl
theorem clip_lo {i : Int} {n : Nat} (h : 0 ≤ i) : (max 0 (min (if i < 0 then i + (n : Int) else i) (n : Int))) = min i n := by
  rw [if_neg (Int.not_lt.mpr h)]
  exact Int.max_eq_right (Int.le_min.mpr ⟨h, Int.natCast_nonneg n⟩)
theorem min_nn {i : Int} {n : Nat} (h : 0 ≤ i) : 0 ≤ min i (n : Int) := Int.le_min.mpr ⟨h, Int.natCast_nonneg n⟩
theorem toNat_ge {i : Int} {n : Nat} (h : (n : Int) ≤ i) : n ≤ i.toNat := Int.ofNat_le.mp (Int.le_trans h (Int.self_le_toNat i))
theorem pick_ss {α : Type} (l : List α) (i j : Int) (hi : 0 ≤ i) (hj : 0 ≤ j) : (sliceRange (min i l.length) (min j l.length) 1).filterMap (fun k => l[k]?) = (l.take j.toNat).drop i.toNat := by
  rw [range_pick l _ _ (min_nn hi) (Int.min_le_right _ _)]
  by_cases h2 : i ≤ l.length
  · rw [Int.min_eq_left h2]
    by_cases h1 : j ≤ l.length
    · rw [Int.min_eq_left h1]
    · have h1 := Int.le_of_lt (Int.not_le.mp h1)
      rw [Int.min_eq_right h1, Int.toNat_natCast, List.take_of_length_le (Nat.le_refl _), List.take_of_length_le (toNat_ge h1)]
  · have h2 := Int.le_of_lt (Int.not_le.mp h2)
    rw [Int.min_eq_right h2, Int.toNat_natCast, List.drop_eq_nil_of_le (List.length_take_le' _ _), List.drop_eq_nil_of_le (Nat.le_trans (List.length_take_le' _ _) (toNat_ge h2))]
theorem pick_len {α : Type} {l : List α} {a b : Int} (h : (sliceRange a b 1).length = l.length) (h1 : 0 ≤ a) (h2 : b ≤ l.length) : (sliceRange a b 1).filterMap (fun k => l[k]?) = l := by
  rw [range_pick l a b h1 h2]
  have : (sliceRange a b 1).length = b.toNat - a.toNat := by
    unfold sliceRange
    simp only [gt_iff_lt, Int.one_pos, if_true, List.length_map, List.length_range]
    exact range_len a b h1
  rw [this] at h
  have hb := Int.toNat_le.mpr h2
  generalize b.toNat = j at h hb
  generalize a.toNat = i at h
  rcases Nat.eq_zero_or_pos l.length with h0 | h0
  · have : l = [] := List.length_eq_zero_iff.mp h0
    subst this; rw [List.take_nil, List.drop_nil]
  · have e1 : j = l.length := by omega
    have e2 : i = 0 := by omega
    rw [e1, e2, List.take_length]; rfl
theorem txt_slice (x : PySem.Str) (a b : Option Int) (lo hi : Int) (h0 : 0 ≤ lo) (h1 : hi ≤ x.cps.toList.length) (e : Builtin.Str.strSliceIndices a b 1 x.length = sliceRange lo hi 1) :
    (Txt.slice x a b).cps.toList = (sliceRange lo hi 1).filterMap (fun k => x.cps.toList[k]?) := by
  unfold Txt.slice
  rw [e]
  split
  · rename_i h
    simp only [beq_self_eq_true, Bool.true_and, beq_iff_eq] at h
    rw [str_len] at h
    exact (pick_len h h0 h1).symm
  · simp
theorem slice_ss (x : PySem.Str) (i j : Int) (hi : 0 ≤ i) (hj : 0 ≤ j) : (Txt.slice x (some i) (some j)).cps.toList = (x.cps.toList.take j.toNat).drop i.toNat := by
  rw [txt_slice x _ _ (min i x.cps.toList.length) (min j x.cps.toList.length) (min_nn hi) (Int.min_le_right _ _) (by
    unfold Builtin.Str.strSliceIndices
    simp only [gt_iff_lt, Int.one_pos, if_true]
    rw [clip_lo hi, clip_lo hj, str_len])]
  exact pick_ss _ i j hi hj
theorem take_all {α : Type} (l : List α) (n : Nat) (h : l.length ≤ n) : l.take n = l := List.take_of_length_le h
theorem slice_sn (x : PySem.Str) (i : Int) (hi : 0 ≤ i) : (Txt.slice x (some i) none).cps.toList = x.cps.toList.drop i.toNat := by
  rw [txt_slice x _ _ (min i x.cps.toList.length) (x.cps.toList.length) (min_nn hi) (Int.le_refl _) (by
    unfold Builtin.Str.strSliceIndices
    simp only [gt_iff_lt, Int.one_pos, if_true]
    rw [clip_lo hi, str_len])]
  have := pick_ss x.cps.toList i x.cps.toList.length hi (Int.natCast_nonneg _)
  rw [Int.min_self, Int.toNat_natCast, List.take_length] at this
  exact this
theorem slice_ns (x : PySem.Str) (j : Int) (hj : 0 ≤ j) : (Txt.slice x none (some j)).cps.toList = x.cps.toList.take j.toNat := by
  rw [txt_slice x _ _ 0 (min j x.cps.toList.length) (Int.le_refl 0) (Int.min_le_right _ _) (by
    unfold Builtin.Str.strSliceIndices
    simp only [gt_iff_lt, Int.one_pos, if_true]
    rw [clip_lo hj, str_len])]
  have := pick_ss x.cps.toList 0 j (Int.le_refl 0) hj
  rw [Int.min_eq_left (Int.natCast_nonneg _)] at this
  simpa using this
theorem vec_slice (l : List Value) (a b : Option Int) (lo hi : Int) (h0 : 0 ≤ lo) (h1 : hi ≤ l.length) (e : sliceBounds a b none l.toArray.size = (lo, hi, 1)) : slicePick l.toArray a b none = ((sliceRange lo hi 1).filterMap (fun k => l[k]?)).toArray := by
  unfold slicePick
  rw [e]; simp
theorem vec_ss (l : List Value) (i j : Int) (hi : 0 ≤ i) (hj : 0 ≤ j) : slicePick l.toArray (some i) (some j) none = ((l.take j.toNat).drop i.toNat).toArray := by
  rw [vec_slice l _ _ (min i l.length) (min j l.length) (min_nn hi) (Int.min_le_right _ _) (by
    unfold sliceBounds
    simp only [Option.getD_none, gt_iff_lt, Int.one_pos, if_true, List.size_toArray]
    rw [clip_lo hi, clip_lo hj])]
  rw [pick_ss _ i j hi hj]
theorem vec_sn (l : List Value) (i : Int) (hi : 0 ≤ i) : slicePick l.toArray (some i) none none = (l.drop i.toNat).toArray := by
  rw [vec_slice l _ _ (min i l.length) l.length (min_nn hi) (Int.le_refl _) (by
    unfold sliceBounds
    simp only [Option.getD_none, gt_iff_lt, Int.one_pos, if_true, List.size_toArray]
    rw [clip_lo hi])]
  have := pick_ss l i l.length hi (Int.natCast_nonneg _)
  rw [Int.min_self, Int.toNat_natCast, List.take_length] at this
  rw [this]
theorem vec_ns (l : List Value) (j : Int) (hj : 0 ≤ j) : slicePick l.toArray none (some j) none = (l.take j.toNat).toArray := by
  rw [vec_slice l _ _ 0 (min j l.length) (Int.le_refl 0) (Int.min_le_right _ _) (by
    unfold sliceBounds
    simp only [Option.getD_none, gt_iff_lt, Int.one_pos, if_true, List.size_toArray]
    rw [clip_lo hj])]
  have := pick_ss l 0 j (Int.le_refl 0) hj
  rw [Int.min_eq_left (Int.natCast_nonneg _)] at this
  rw [this]; simp
theorem seqIdx (k : Int) (n : Nat) (h0 : 0 ≤ k) (h1 : k < n) : seqIndex? k n = some k.toNat := by
  unfold seqIndex?
  simp [show ¬ k < 0 by exact Int.not_lt.mpr ‹_›, h0, h1]
section
variable {S : Site} {c : Act} {n : Nat} {ns : List PySem.Str} {ρ : Fm} {p : Int} {m : Names} {own : Own} {led : Led} {s : Shared} {E : Value → Shared → Prop}
theorem so_true {b : Bool} {l : List V} (h : strOnly b (.list l) = true) : b = true := by
  cases b
  · exact absurd h Bool.false_ne_true
  · rfl
theorem idxOk (X : Cx S c n) (R : Sd S c ns ρ p m own led s.heap) {value sl : Expr} (hs : noSlice sl = true) {b : Bool} (hv : b = true → isName value = true) {o i : Value} {x y r : V} (h1 : Rep S.rp led o x) (h2 : Rep S.rp led i y) (hb : strOnly b x = true) (e : idx x y = some r)
    {Q : Value → Shared → Prop} (hk : OkK S c ns ρ p m own led s r Q) : wpAny (model pw S.w) c.A (subscriptTail value sl o i) Q E s := by
  cases h1 <;> first | cases e | skip
  · rename_i z t
    obtain ⟨k, h3, e⟩ := obind e
    obtain ⟨u, rfl⟩ := (asInt_some h3 ▸ h2).int_inv
    obtain ⟨⟨h0, h9⟩, e⟩ := ite_el e
    cases g : z.cps.toList[k.toNat]? with
    | none => rw [g] at e; cases e
    | some ch =>
      rw [g] at e
      cases e
      have hlt : k.toNat < z.cps.size := by
        have := (List.getElem?_eq_some_iff.mp g).1
        simpa using this
      refine subscriptTail_builtin (typeIs_str s z t) F.slot_str_getitem.lookup (getItem_str (c := ch) (by simp; omega) ?_ (hk.str rfl R _ _)) (sub_plain hs _ _) (letgo_str _ _ _)
      have : seqIndex? k z.length = some k.toNat := seqIdx _ _ h0 ((Int.toNat_lt h0).mp hlt)
      rw [this]
      simpa using g
  · rename_i hm hr
    obtain ⟨k, h3, e⟩ := obind e
    obtain ⟨u, rfl⟩ := (asInt_some h3 ▸ h2).int_inv
    obtain ⟨⟨h0, h9⟩, e⟩ := ite_el e
    obtain ⟨u, g, hu⟩ := hr.get _ _ e
    exact item_tupleT (R.sat _ hm).tup (by omega) (by exact Int.lt_of_lt_of_le ‹_› (by decide)) (seqIdx _ _ h0 ((Int.toNat_lt h0).mp (List.getElem?_eq_some_iff.mp g).1)) g (hk s.heap s.toks _ _ R (fun _ h => h) hu) (sub_plain hs _ _)
  · rename_i hm hr
    obtain ⟨k, h3, e⟩ := obind e
    obtain ⟨u, rfl⟩ := (asInt_some h3 ▸ h2).int_inv
    obtain ⟨⟨h0, h9⟩, e⟩ := ite_el e
    obtain ⟨u, g, hu⟩ := hr.get _ _ e
    exact subscriptTail_builtin (T := "list") (let ⟨o, a, b, _⟩ := (R.sat _ hm).list; ⟨o, a, b⟩) slot_list_getitem.lookup (getItem_listL (R.sat _ hm).list h0 (by exact Int.lt_of_lt_of_le ‹_› (by decide)) g (hk s.heap s.toks _ _ R (fun _ h => h) hu)) (sub_plain hs _ _) (letgo_name (hv (so_true hb)) _)
abbrev slObj (a b : Value) : Obj := { cls := .type "slice", data := .fields #[a, b, .none] }
theorem slSub (lo hi : Option Expr) (pp : Pos) (o i : Value) : subscripted (.Slice lo hi none pp) false o i = operate [i, o] (getItem o i) := rfl
theorem slssOk (X : Cx S c n) (R : Sd S c ns ρ p m own led s.heap) {value : Expr} {l u : Option Expr} {pp : Pos} {b : Bool} (hv : b = true → isName value = true) {o : Value} {x r : V} {i j : Int} {ti tj : Tok} (h1 : Rep S.rp led o x) (hb : strOnly b x = true) (e : slice x i (some j) = some r)
    {Q : Value → Shared → Prop} (hk : OkK S c ns ρ p m own led s r Q) : wpAny (model pw S.w) c.A (subscriptTail value (.Slice l u none pp) o (.ref s.heap.objs.size)) Q E { s with heap := s.heap.push (slObj (.int i ti) (.int j tj)) } := by
  cases x <;> first | cases e | skip
  · obtain ⟨⟨h0, h9, hl⟩, e⟩ := ite_el e
    obtain ⟨z, t, rfl, rfl⟩ := h1.str_inv
    cases e
    exact slice_strN_ss (R.fr X) news_all (fun h' t' k F N => hk h' k led _ (R.after X F N) (fun _ h => h) (.strOf (slice_ss _ _ _ h0 h9))) (slSub _ _ _ _ _) (letgo_str _ _ _) (by rw [str_len]; exact lid_ok hl)
  · obtain ⟨⟨h0, h9, hl⟩, e⟩ := ite_el e
    obtain ⟨_, vs, rfl, hm, hr⟩ := h1.list_inv
    cases e
    refine PyProof.Rows.slice_list (R.fr X) news_all (R.sat _ hm).list (.int i ti) (.int j tj) (fun h' F N => ?_) (slSub _ _ _ _ _) (letgo_name (hv (so_true hb)) _) (by simp only [List.size_toArray]; rw [hr.length]; exact lid_ok hl)
    rw [vec_ss _ _ _ h0 h9] at N
    exact hk h' s.toks _ _ (R.afterNew X F N (t := false) (Nat.le_succ _) rfl rfl) (fun _ h => .tail _ h) (.list (.head _) (((hr.take _).drop _).mono fun _ h => .tail _ h))
theorem slsnOk (X : Cx S c n) (R : Sd S c ns ρ p m own led s.heap) {value : Expr} {l u : Option Expr} {pp : Pos} {b : Bool} (hv : b = true → isName value = true) {o : Value} {x r : V} {i : Int} {ti : Tok} (h1 : Rep S.rp led o x) (hb : strOnly b x = true) (e : slice x i none = some r)
    {Q : Value → Shared → Prop} (hk : OkK S c ns ρ p m own led s r Q) : wpAny (model pw S.w) c.A (subscriptTail value (.Slice l u none pp) o (.ref s.heap.objs.size)) Q E { s with heap := s.heap.push (slObj (.int i ti) .none) } := by
  cases x <;> first | cases e | skip
  · obtain ⟨⟨h0, hl⟩, e⟩ := ite_el e
    obtain ⟨z, t, rfl, rfl⟩ := h1.str_inv
    cases e
    exact slice_strN_sn (R.fr X) news_all (fun h' t' k F N => hk h' k led _ (R.after X F N) (fun _ h => h) (.strOf (slice_sn _ _ h0))) (slSub _ _ _ _ _) (letgo_str _ _ _) (by rw [str_len]; exact lid_ok hl)
  · obtain ⟨⟨h0, hl⟩, e⟩ := ite_el e
    obtain ⟨_, vs, rfl, hm, hr⟩ := h1.list_inv
    cases e
    refine PyProof.Rows.slice_list (R.fr X) news_all (R.sat _ hm).list (.int i ti) .none (fun h' F N => ?_) (slSub _ _ _ _ _) (letgo_name (hv (so_true hb)) _) (by simp only [List.size_toArray]; rw [hr.length]; exact lid_ok hl)
    rw [vec_sn _ _ h0] at N
    exact hk h' s.toks _ _ (R.afterNew X F N (t := false) (Nat.le_succ _) rfl rfl) (fun _ h => .tail _ h) (.list (.head _) ((hr.drop _).mono fun _ h => .tail _ h))
theorem slnsOk (X : Cx S c n) (R : Sd S c ns ρ p m own led s.heap) {value : Expr} {l u : Option Expr} {pp : Pos} {b : Bool} (hv : b = true → isName value = true) {o : Value} {x r : V} {j : Int} {tj : Tok} (h1 : Rep S.rp led o x) (hb : strOnly b x = true) (e : sliceT x j = some r)
    {Q : Value → Shared → Prop} (hk : OkK S c ns ρ p m own led s r Q) : wpAny (model pw S.w) c.A (subscriptTail value (.Slice l u none pp) o (.ref s.heap.objs.size)) Q E { s with heap := s.heap.push (slObj .none (.int j tj)) } := by
  cases x <;> first | cases e | skip
  · obtain ⟨⟨h0, hl⟩, e⟩ := ite_el e
    obtain ⟨z, t, rfl, rfl⟩ := h1.str_inv
    cases e
    exact slice_strN_ns (R.fr X) news_all (fun h' t' k F N => hk h' k led _ (R.after X F N) (fun _ h => h) (.strOf (slice_ns _ _ h0))) (slSub _ _ _ _ _) (letgo_str _ _ _) (by rw [str_len]; exact lid_ok hl)
  · obtain ⟨⟨h0, hl⟩, e⟩ := ite_el e
    obtain ⟨_, vs, rfl, hm, hr⟩ := h1.list_inv
    cases e
    refine PyProof.Rows.slice_list (R.fr X) news_all (R.sat _ hm).list .none (.int j tj) (fun h' F N => ?_) (slSub _ _ _ _ _) (letgo_name (hv (so_true hb)) _) (by simp only [List.size_toArray]; rw [hr.length]; exact lid_ok hl)
    rw [vec_ns _ _ h0] at N
    exact hk h' s.toks _ _ (R.afterNew X F N (t := false) (Nat.le_succ _) rfl rfl) (fun _ h => .tail _ h) (.list (.head _) ((hr.take _).mono fun _ h => .tail _ h))
theorem lenOk (X : Cx S c n) (R : Sd S c ns ρ p m own led s.heap) {o : Value} {x r : V} (h1 : Rep S.rp led o x) (e : lenOf x = some r) {Q : Value → Shared → Prop} (hk : OkK S c ns ρ p m own led s r Q) : wpAny (model pw S.w) c.A (call (.builtin "len") [o]) Q E s := by
  cases h1 <;> first | cases e | skip
  · rename_i z t
    obtain ⟨hl, e⟩ := ite_el e
    cases e
    rw [← str_len] at hl
    refine len_str (by unfold lid at hl; omega) ?_
    have := hk.int R (s.toks + 1) (s.toks + 1 + 1)
    rw [← str_len] at this; exact this
  · rename_i hm hr
    obtain ⟨hl, e⟩ := ite_el e
    cases e
    rw [← hr.length] at hl
    refine len_tuple (R.sat _ hm).tup (by simp only [List.size_toArray]; unfold lid at hl; omega) ?_
    have := hk.int R (s.toks + 1) (s.toks + 1 + 1)
    rw [← hr.length] at this
    exact this
  · rename_i hm hr
    obtain ⟨hl, e⟩ := ite_el e
    cases e
    rw [← hr.length] at hl
    refine PySem.Calls.call_len_list (R.sat _ hm).list (by simp only [List.size_toArray]; unfold lid at hl; omega) ?_
    have := hk.int R (s.toks + 1) (s.toks + 1 + 1)
    rw [← hr.length] at this
    exact this
end
end Lr
end
section
open PySem PySem.W PyProof.Rows PySem.SeqAt
set_option maxRecDepth 100000
namespace Lr
theorem tx_of (z : PySem.Str) : tx z.cps.toList = z := by cases z; simp [tx]
theorem glued_join (s : PySem.Str) : ∀ (ys : List PySem.Str), (Builtin.Str.glued s ys).cps.toList = joinL s.cps.toList (ys.map (·.cps.toList))
  | [] => rfl
  | y :: r => by
    unfold Builtin.Str.glued
    simp only [List.drop_succ_cons, List.drop_zero, List.headD_cons]
    have : ∀ (r : List PySem.Str) (a : Array Nat), (r.foldl (fun acc p => acc ++ s.cps ++ p.cps) a).toList = joinL s.cps.toList (a.toList :: r.map (·.cps.toList)) := by
      intro r
      induction r with
      | nil => intro a; rfl
      | cons x r ih =>
        intro a
        rw [List.foldl_cons, ih, List.map_cons]
        cases r with
        | nil => simp [joinL]
        | cons y r => simp [joinL]
    rw [this]; rfl
theorem strs_are {ap : Option Addr} {led : Led} {vs : List Value} {l : List V} {xs : List (List Nat)} (h : RepL ap led vs l) : strsOf l = some xs → ∃ ys : List PySem.Str, StrsAre vs ys ∧ ys.map (·.cps.toList) = xs :=
  h.ind (P := fun vs l => ∀ xs, strsOf l = some xs → ∃ ys : List PySem.Str, StrsAre vs ys ∧ ys.map (·.cps.toList) = xs) (fun xs e => by cases e; exact ⟨[], .nil, rfl⟩) (fun v x vs l h _ ih xs e => by
    cases h <;> first | cases e | skip
    obtain ⟨xs', e1, rfl⟩ := Option.map_eq_some_iff.mp e
    obtain ⟨ys, h1, h2⟩ := ih _ e1
    exact ⟨_ :: ys, .cons _ _ h1, congrArg (_ :: ·) h2⟩) xs
noncomputable def valEq : Value → Value → Bool
  | .none, .none => true
  | .bool a, .bool b => a == b
  | .int a _, .int b _ => a == b
  | .str x _, .str y _ => x == y
  | _, _ => false
section
variable {S : Site} {c : Act} {n : Nat} {ns : List PySem.Str} {ρ : Fm} {p : Int} {m : Names} {own : Own} {led : Led} {s : Shared} {E : Value → Shared → Prop}
theorem joinVOk {sp : Value} {x r : V} {l : List V} {a : Addr} {vs : List Value} (R : Sd S c ns ρ p m own led s.heap) (h0 : Rep S.rp led sp x) (hl : s.heap.IsList a vs.toArray) (hr : RepL S.rp led vs l) (e : joinV x l = some r) {Q : Value → Shared → Prop}
    (hk : OkK S c ns ρ p m own led s r Q) : wpAny (model pw S.w) c.A (call (.builtin "str.join") [sp, .ref a]) Q E s := by
  unfold joinV at e
  split at e
  · rename_i sl xs q1
    split at e
    · rename_i hsz
      cases h0 with | str z t =>
      cases e
      obtain ⟨ys, h1, h2⟩ := strs_are hr q1
      have e1 : xs.map (·.length) = ys.map (·.length) := by rw [← h2, List.map_map]; apply List.map_congr_left; intro y _; exact str_len.symm
      refine join_list hl (by simpa using h1) ?_ (fun t' k => hk s.heap k led _ R (fun _ h => h) (.strOf ?_))
      · rw [← e1, str_len]
        have : ys.length = xs.length := by rw [← h2, List.length_map]
        rw [this]; exact lid_ok hsz
      · show (Builtin.Str.glued z ys).cps.toList = _
        rw [glued_join, h2]
    · cases e
  · cases e
theorem maxOk (X : Cx S c n) (R : Sd S c ns ρ p m own led s.heap) {a b : Value} {i j : Int} (h1 : Rep S.rp led a (.int i)) (h2 : Rep S.rp led b (.int j)) {Q : Value → Shared → Prop} (hk : OkK S c ns ρ p m own led s (.int (if i < j then j else i)) Q) :
    wpAny (model pw S.w) c.A (call (.builtin "max") [a, b]) Q E s := by
  obtain ⟨_, rfl⟩ := h1.int_inv; obtain ⟨_, rfl⟩ := h2.int_inv
  exact max_two_N X.k.handledA (R.fr X) news_all fun h' tk F N => hk h' tk led _ (R.after X F N) (fun _ h => h) (.int _ _)
theorem minOk (X : Cx S c n) (R : Sd S c ns ρ p m own led s.heap) {a b : Value} {i j : Int} (h1 : Rep S.rp led a (.int i)) (h2 : Rep S.rp led b (.int j)) {Q : Value → Shared → Prop} (hk : OkK S c ns ρ p m own led s (.int (if j < i then j else i)) Q) :
    wpAny (model pw S.w) c.A (call (.builtin "min") [a, b]) Q E s := by
  obtain ⟨_, rfl⟩ := h1.int_inv; obtain ⟨_, rfl⟩ := h2.int_inv
  exact min_two_N X.k.handledA (R.fr X) news_all fun h' tk F N => hk h' tk led _ (R.after X F N) (fun _ h => h) (.int _ _)
theorem strIntOk (R : Sd S c ns ρ p m own led s.heap) {a : Value} {i : Int} (h1 : Rep S.rp led a (.int i)) (hi : i.natAbs < 10 ^ 20) {Q : Value → Shared → Prop} (hk : OkK S c ns ρ p m own led s (.str (intStr i)) Q) :
    wpAny (model pw S.w) c.A (call (.type "str") [a]) Q E s := by
  obtain ⟨_, rfl⟩ := h1.int_inv
  refine P.str_of_int ?_ (hk.str rfl R _ _)
  by_cases h0 : i.natAbs = 0
  · rw [h0]; decide
  · exact (Nat.log2_lt h0).mpr (Nat.lt_trans hi (by decide +kernel))
theorem signsOk (X : Cx S c n) (R : Sd S c ns ρ p m own led s.heap) {a : Value} {l : List Nat} (h1 : Rep S.rp led a (.str l)) (hl : l.length ≤ lid) {Q : Value → Shared → Prop} (hk : OkK S c ns ρ p m own led s (.list (l.map fun c => V.str [c])) Q) :
    wpAny (model pw S.w) c.A (call (.type "list") [a]) Q E s := by
  cases h1 with | str z t =>
  refine call_list_str X.k.handledA z t (fun h' tk acc k kp hg hi => ?_) (by have := lid_ok hl; simpa using this)
  have R' := R.keeps X kp
  have := R'.grow (led' := (s.heap.objs.size, false, acc.toList) :: led) (fun _ h => .tail _ h) fun q hq => by
    rcases List.mem_cons.mp hq with rfl | hq
    · exact .inr ⟨⟨_, k, hg, rfl, by simp⟩, R.new_ap (Nat.le_refl _), R.new X.k.l0 (Nat.le_refl _), R.new_own (Nat.le_refl _)⟩
    · exact .inl hq
  refine hk h' tk _ _ this (fun _ h => .tail _ h) (.list (.head _) ?_)
  obtain ⟨hsz, hit⟩ := hi
  have gen : ∀ (n : Nat) (vs : List Value) (cs : List Nat), vs.length = cs.length → (∀ (j : Nat) (v : Value), vs[j]? = some v → ∃ ch u, cs[j]? = some ch ∧ v = Value.str ⟨#[ch]⟩ u) → RepL S.rp ((s.heap.objs.size, false, acc.toList) :: led) vs (cs.map fun c => V.str [c]) := by
    intro n vs
    induction vs with
    | nil => intro cs h1 _; cases cs with | nil => exact .nil | cons _ _ => cases h1
    | cons v vs ih =>
      intro cs h1 h2
      cases cs with
      | nil => cases h1
      | cons ch cs =>
        obtain ⟨ch', u, e1, e2⟩ := h2 0 v rfl
        simp only [List.getElem?_cons_zero, Option.some.injEq] at e1
        subst e1 e2
        exact .cons (.str _ _) (ih cs (by simpa using h1) fun j v hv => by simpa using h2 (j + 1) v (by simpa using hv))
  refine gen 0 acc.toList z.cps.toList (by simpa using hsz) fun j v hv => ?_
  obtain ⟨ch, u, e1, e2⟩ := hit j v (by simpa using hv)
  exact ⟨ch, u, by simpa using e1, e2⟩
theorem ordOk (R : Sd S c ns ρ p m own led s.heap) {a : Value} {ch : Nat} (h1 : Rep S.rp led a (.str [ch])) {Q : Value → Shared → Prop} (hk : OkK S c ns ρ p m own led s (.int ch) Q) :
    wpAny (model pw S.w) c.A (call (.builtin "ord") [a]) Q E s := by
  generalize hv : V.str [ch] = v at h1
  cases h1 with
  | str z t =>
    injection hv with hv
    have hz : z = ⟨#[ch]⟩ := by
      obtain ⟨⟨l⟩⟩ := z
      simp at hv; rw [← hv]
    subst hz
    exact P.ord_of_char (hk.int R _ _)
  | _ => cases hv
theorem findOk (R : Sd S c ns ρ p m own led s.heap) {a b : Value} {l k : List Nat} (h1 : Rep S.rp led a (.str l)) (h2 : Rep S.rp led b (.str k)) {Q : Value → Shared → Prop} (hk : OkK S c ns ρ p m own led s (.int (Txt.find (tx l) (tx k))) Q) :
    wpAny (model pw S.w) c.A (call (.builtin "str.find") [a, b]) Q E s := by
  obtain ⟨_, _, rfl, rfl⟩ := h1.str_inv; obtain ⟨_, _, rfl, rfl⟩ := h2.str_inv
  rw [tx_of, tx_of] at hk
  exact SC.find (hk.int R _ _)
theorem rfindOk (R : Sd S c ns ρ p m own led s.heap) {a b : Value} {l k : List Nat} (h1 : Rep S.rp led a (.str l)) (h2 : Rep S.rp led b (.str k)) {Q : Value → Shared → Prop} (hk : OkK S c ns ρ p m own led s (.int (Txt.rfind (tx l) (tx k))) Q) :
    wpAny (model pw S.w) c.A (call (.builtin "str.rfind") [a, b]) Q E s := by
  obtain ⟨_, _, rfl, rfl⟩ := h1.str_inv; obtain ⟨_, _, rfl, rfl⟩ := h2.str_inv
  rw [tx_of, tx_of] at hk
  exact SC.rfind (hk.int R _ _)
theorem startsOk (R : Sd S c ns ρ p m own led s.heap) {a b : Value} {l k : List Nat} (h1 : Rep S.rp led a (.str l)) (h2 : Rep S.rp led b (.str k)) {Q : Value → Shared → Prop} (hk : OkK S c ns ρ p m own led s (.bool (Txt.startswith (tx l) (tx k))) Q) :
    wpAny (model pw S.w) c.A (call (.builtin "str.startswith") [a, b]) Q E s := by
  obtain ⟨_, _, rfl, rfl⟩ := h1.str_inv; obtain ⟨_, _, rfl, rfl⟩ := h2.str_inv
  rw [tx_of, tx_of] at hk
  exact SC.startswith (hk.bool R)
theorem endsOk (R : Sd S c ns ρ p m own led s.heap) {a b : Value} {l k : List Nat} (h1 : Rep S.rp led a (.str l)) (h2 : Rep S.rp led b (.str k)) {Q : Value → Shared → Prop} (hk : OkK S c ns ρ p m own led s (.bool (Txt.endswith (tx l) (tx k))) Q) :
    wpAny (model pw S.w) c.A (call (.builtin "str.endswith") [a, b]) Q E s := by
  obtain ⟨_, _, rfl, rfl⟩ := h1.str_inv; obtain ⟨_, _, rfl, rfl⟩ := h2.str_inv
  rw [tx_of, tx_of] at hk
  exact SC.endswith (hk.bool R)
theorem indexOk (X : Cx S c n) (R : Sd S c ns ρ p m own led s.heap) {a b : Value} {l k : List Nat} (h1 : Rep S.rp led a (.str l)) (h2 : Rep S.rp led b (.str k)) (h0 : 0 ≤ Txt.find (tx l) (tx k)) {Q : Value → Shared → Prop} (hk : OkK S c ns ρ p m own led s (.int (Txt.find (tx l) (tx k))) Q) :
    wpAny (model pw S.w) c.A (call (.builtin "str.index") [a, b]) Q E s := by
  obtain ⟨_, _, rfl, rfl⟩ := h1.str_inv; obtain ⟨_, _, rfl, rfl⟩ := h2.str_inv
  rw [tx_of, tx_of] at hk h0
  exact index_or X.k.handledA (fun h => by omega) (fun _ _ => hk.int R _ _)
theorem inSOk (R : Sd S c ns ρ p m own led s.heap) {a b : Value} {l k : List Nat} (h1 : Rep S.rp led a (.str k)) (h2 : Rep S.rp led b (.str l)) {neg : Bool} {Q : Value → Shared → Prop} (hk : OkK S c ns ρ p m own led s (.bool (Txt.contains (tx l) (tx k) != neg)) Q) :
    wpAny (model pw S.w) c.A (compareOp (if neg then .NotIn else .In) a b) Q E s := by
  obtain ⟨_, _, rfl, rfl⟩ := h1.str_inv; obtain ⟨_, _, rfl, rfl⟩ := h2.str_inv
  rw [tx_of, tx_of] at hk
  cases neg with
  | false => rw [Bool.bne_false] at hk; exact in_str (hk.bool R)
  | true => rw [Bool.bne_true] at hk; exact notIn_str (hk.bool R)
theorem inConsts_cons (x k : V) (r : List V) : inConsts x (k :: r) = bif isTup k then none else match veq k x, inConsts x r with | some u, some v => some (u || v) | _, _ => none := rfl
theorem orSome {f : Option Bool} {g : Option Bool} {r : Bool} (e : (match f, g with | some u, some v => some (u || v) | _, _ => none) = some r) : ∃ u v, f = some u ∧ g = some v ∧ (u || v) = r := by
  cases f with
  | none => cases e
  | some u =>
    cases g with
    | none => cases e
    | some v => exact ⟨u, v, rfl, rfl, Option.some.inj e⟩
theorem valEq_of {ap : Option Addr} {v a : Value} {k x : V} {u : Bool} (h : Rep ap led v k) (h1 : Rep ap led a x) (nt : isTup k = false) (e : veq k x = some u) : u = valEq v a := by
  have nr : ∀ l, v ≠ .ref l := by
    cases h <;> first | (intro _ w; cases w; done) | (cases nt; done) | (cases e; done)
  exact veq_el h h1 e (P := fun v a u => (∀ l, v ≠ .ref l) → u = valEq v a) (fun _ => rfl) (fun _ _ _ => rfl) (fun _ _ _ => rfl) (fun _ _ _ => rfl) (fun _ _ _ => rfl) (fun _ _ _ _ _ => rfl) (fun _ _ _ _ _ => rfl) (fun _ _ _ => rfl) (fun _ _ _ _ _ => rfl) (fun _ _ _ _ _ => veq_strs _ _) (fun l _ _ _ _ _ _ _ _ _ _ n => absurd rfl (n l)) nr
theorem inTOk (X : Cx S c n) (R : Sd S c ns ρ p m own led s.heap) {a : Value} {l : Addr} {vs : List Value} {x : V} {ks : List V} {r neg : Bool} (h1 : Rep S.rp led a x) (hm : (l, true, vs) ∈ led) (hr : RepL S.rp led vs ks) (e : inConsts x ks = some r)
    {Q : Value → Shared → Prop} (hk : OkK S c ns ρ p m own led s (.bool (r != neg)) Q) : wpAny (model pw S.w) c.A (compareOp (if neg then .NotIn else .In) a (.ref l)) Q E s := by
  have hu : c.A.units + 20 < cLine := by have := X.k.units; show c.A₀.units + 3 + 20 < _; omega
  have each : ∀ (vs : List Value) (ks : List V) (r : Bool), RepL S.rp led vs ks → inConsts x ks = some r → (∀ y ∈ vs, EqAt c.A.in1 s y a (valEq y a)) ∧ vs.any (fun y => valEq y a) = r := by
    intro vs
    induction vs with
    | nil => intro ks r h e; cases h; cases e; exact ⟨(fun _ h => nomatch h), rfl⟩
    | cons v vs ih =>
      intro ks r h e
      cases h with
      | cons h hr =>
      cases nt : isTup ‹V› with
      | true => rw [inConsts_cons, nt] at e; cases e
      | false =>
        rw [inConsts_cons, nt] at e
        obtain ⟨u, w, e1, e2, rfl⟩ := orSome e
        obtain ⟨i1, i2⟩ := ih _ w hr e2
        have hE := eqAt R.sat 4 c.A.in1 _ _ _ _ _ (by show c.A.units + 1 + 4 + 1 < _; omega) h h1 e1
        have hv : u = valEq v a := valEq_of h h1 nt e1
        subst hv
        refine ⟨fun y hy => ?_, by rw [List.any_cons, i2]⟩
        rcases List.mem_cons.mp hy with rfl | hy
        · exact hE
        · exact i1 y hy
  obtain ⟨hf, hany⟩ := each vs ks r hr e
  cases neg with
  | false => rw [Bool.bne_false] at hk; exact in_tupleAt (fun y => valEq y a) (R.sat _ hm).tup (by simpa using hf) (by simpa [hany] using hk.bool R)
  | true => rw [Bool.bne_true] at hk; exact notIn_tupleAt (fun y => valEq y a) (R.sat _ hm).tup (by simpa using hf) (by simpa [hany] using hk.bool R)
end
end Lr
end
section
open PySem PySem.W PyProof.Rows
set_option maxRecDepth 1000000
namespace Lr
theorem lookup_map (f : Nat → Obj) : ∀ (l : List Nat) (a : Nat), a ∈ l → (l.map fun a => (a, f a)).lookup a = some (f a)
  | [], _, h => nomatch h
  | b :: l, a, h => by
    rw [List.map_cons, List.lookup_cons]
    by_cases e : a = b
    · subst e; simp
    · have : (a == b) = false := by simpa using e
      rw [this]
      rcases List.mem_cons.mp h with q | q
      · exact absurd q e
      · exact lookup_map f l a q
theorem Kf_get (P : Params) {a : Nat} (h : a < 537) : (Kf P).lookup a = some (objAt P lawName 71 a) := lookup_map _ _ _ (List.mem_range.mpr h)
theorem Gd.at {w : World} {mg mb : Names} {h : Heap} (x : Gd w mg mb h) {a : Nat} (ha : a < 537) : h.get? a = some (objAt w.params lawName 71 a) := x.kin a _ (Kf_get _ ha)
theorem Gd.mg {w : World} {mg mb : Names} {h : Heap} (x : Gd w mg mb h) (name : PySem.Str) : mg name = nsFind (mainEnts w.params lawName 71).toArray name := by
  obtain ⟨o, es, ep, ho, hd, _, hm⟩ := x.top.g
  have h3 : h.get? 3 = some (mainObj w.params lawName 71) := x.at (a := 3) (by decide)
  have : o = mainObj w.params lawName 71 := by
    have : h.get? mainGlobals = some (mainObj w.params lawName 71) := h3
    rw [ho] at this; exact Option.some.inj this
  subst this
  rw [← hm name]
  unfold mainObj at hd
  injection hd with e1 e2
  rw [e1]
noncomputable def fnName (f : Nat) : PySem.Str := nameOfDef (stm (row f).1)
noncomputable def fnAddr (f : Nat) : Addr := (row f).2.1 + 6
theorem mg_fns (P : Params) : ((List.range 71).map fun f => nsFind (mainEnts P lawName 71).toArray (fnName f)) = (List.range 71).map fun f => some (.ref (fnAddr f)) := by kernel_rfl
noncomputable def bltNames : List PySem.Str := ["len", "max", "min", "str", "list", "ord", "range", "sum", "Exception"]
theorem mg_blts (P : Params) : (bltNames.map fun f => nsFind (mainEnts P lawName 71).toArray f) = bltNames.map fun _ => none := by kernel_rfl
theorem mg_raised (P : Params) : nsFind (mainEnts P lawName 71).toArray "Raised" = some (.ref 33) := by kernel_rfl
theorem Gd.fn {w : World} {mg mb : Names} {h : Heap} (x : Gd w mg mb h) {f : Nat} (hf : f < 71) : mg (fnName f) = some (.ref (fnAddr f)) := by
  rw [x.mg]
  exact List.map_inj_left.mp (mg_fns w.params) f (List.mem_range.mpr hf)
theorem Gd.blt {w : World} {mg mb : Names} {h : Heap} (x : Gd w mg mb h) {f : PySem.Str} (hf : f ∈ bltNames) : mg f = none := by
  rw [x.mg]
  exact List.map_inj_left.mp (mg_blts w.params) f hf
end Lr
end
section
open PySem PySem.W PyProof.Rows PySem.SeqAt PySem.Calls
set_option maxRecDepth 100000
namespace Lr
noncomputable def noStar : Expr → Bool
  | .Starred .. => false
  | _ => true
noncomputable def isConst : Expr → Bool
  | .Constant .. => true
  | _ => false
theorem star_cons {x : Expr} (h : noStar x = true) (r : List Expr) (env : Env) : starEach (x :: r) env = (false, eval x env) :: starEach r env := by
  cases x <;> first | exact absurd h Bool.false_ne_true | rfl
theorem star_any {env : Env} {pos : Pos} : ∀ {xs : List Expr}, xs.all noStar = true → (backTo pos (starEach xs env)).any (·.1) = false
  | [], _ => rfl
  | x :: xs, h => by
    rw [List.all_cons, Bool.and_eq_true] at h
    rw [star_cons h.1]
    show (false || (backTo pos (starEach xs env)).any (·.1)) = false
    rw [star_any h.2]; rfl
section
variable {M : Model} {A : Around} {E : Value → Shared → Prop} {s : Shared} {env : Env}
theorem args_of {f : Value} {xs : List Expr} {pos : Pos} {Q : Args → Shared → Prop} (hx : xs.all noStar = true)
    (h : wpAny M A (spliced (backTo pos (starEach xs env))) (fun vs s' => Q ⟨vs, []⟩ s') E s) : wpAny M A (evalArgs f true (backTo pos (starEach xs env)) []) Q E s := by
  cases xs with
  | nil =>
    unfold evalArgs
    refine wpAny_bind (wpAny_mono h (fun vs s' h' => ?_) fun _ _ x => x)
    refine wpAny_holding ?_
    exact wpAny_bind (wpAny_pure (wpAny_bind (wpAny_pure (wpAny_pure h'))))
  | cons x xs =>
    rw [List.all_cons, Bool.and_eq_true] at hx
    rw [star_cons hx.1] at h ⊢
    exact evalArgs_plain h
theorem callBlt {id : String} {first : List Value} {xs : List Expr} {pos : Pos} {Q : Value → Shared → Prop} (hx : xs.all noStar = true)
    (h : wpAny M A (spliced (backTo pos (starEach xs env))) (fun vs s₁ => wpAny M A (call (.builtin id) (first ++ vs)) Q E s₁) E s) : wpAny M A (callWith pos (.builtin id) first (backTo pos (starEach xs env)) []) Q E s :=
  callWith_builtin (star_any hx) (args_of hx h)
theorem callTyp {id : String} {first : List Value} {xs : List Expr} {pos : Pos} {Q : Value → Shared → Prop} (hx : xs.all noStar = true)
    (h : wpAny M A (spliced (backTo pos (starEach xs env))) (fun vs s₁ => wpAny M A (call (.type id) (first ++ vs)) Q E s₁) E s) : wpAny M A (callWith pos (.type id) first (backTo pos (starEach xs env)) []) Q E s :=
  PySem.callWith_type (star_any hx) (args_of hx h)
theorem callFn {a : Addr} {o : Obj} {fd : FuncData} {xs : List Expr} {pos : Pos} {Q : Value → Shared → Prop} (hx : xs.all noStar = true)
    (h : wpAny M A (spliced (backTo pos (starEach xs env))) (fun vs s₁ => (s₁.heap.get? a = some o ∧ o.data = .func fd) ∧ wpAny M A (call (.ref a) vs) Q E s₁) E s) : wpAny M A (callWith pos (.ref a) [] (backTo pos (starEach xs env)) []) Q E s :=
  callWith_function (args_of hx h)
theorem callName {x : PySem.Str} {np pos : Pos} {xs : List Expr} {Q : Value → Shared → Prop}
    (h : wpAny M A (eval (.Name x np) env) (fun f s₁ => wpAny M A (callWith pos f [] (backTo pos (starEach xs env)) []) Q E s₁) E s) : wpAny M A (eval (.Call (.Name x np) xs [] pos) env) Q E s := Call_Name rfl h
theorem methCall {o : Expr} {name : PySem.Str} {apos pos : Pos} {xs : List Expr} {Q : Value → Shared → Prop} (ho : (isName o || isConst o) = true) (hx : xs.all noStar = true) (hl : xs.length < 30) (hp : (apos.endLine == pos.line) = true)
    (h : ∀ pl, wpAny M A (eval o env) (fun ov s₁ => wpAny M A (getMethod ov name pl) (fun fx s₂ => wpAny M A (callWith pos fx.1 fx.2 (backTo pos (starEach xs env)) []) Q E s₂) E s₁) E s) :
    wpAny M A (eval (.Call (.Attribute o name apos) xs [] pos) env) Q E s := by
  have hf : methodCallForm (xs.length + 0) (backTo pos (starEach xs env)) (backToKw pos (keywordEach [] env)) = true := by
    unfold methodCallForm
    have h1 : (backTo pos (starEach xs env)).all (fun x => !x.1) = true := by
      have := star_any (env := env) (pos := pos) hx
      rw [List.all_eq_true]
      intro y hy
      have := List.any_eq_false.mp this y hy
      simpa using this
    rw [h1]
    show (true && true && decide (xs.length + 0 + 0 < 30)) = true
    simpa using hl
  have he : eval (.Call (.Attribute o name apos) xs [] pos) env = (do
      let ov ← eval o env
      standAt apos.atName
      methodCall o name apos pos env ov (xs.length + 0) (backTo pos (starEach xs env)) (backToKw pos (keywordEach [] env))) := by
    cases o <;> first | exact absurd ho Bool.false_ne_true | rfl
  rw [he]
  refine wpAny_bind (wpAny_mono (h (do return (← importBound o env).getD true)) (fun ov s₁ h₁ => wpAny_bind (wpAny_standAt ?_)) fun _ _ x => x)
  unfold methodCall calleeOf methodCallPos
  rw [hf]
  refine wpAny_bind (wpAny_holding (wpAny_mono h₁ (fun fx s₂ h₂ => ?_) fun _ _ x => x))
  obtain ⟨f, first⟩ := fx
  simp only [hp, Bool.not_true, Bool.false_or, if_true]
  exact wpAny_bind (wpAny_pure h₂)
end
end Lr
end
section
open PySem PySem.W
namespace Lr
noncomputable def onBoolOp (e : Expr) (F : BoolOp → List Expr → Pos → Bool) : Bool := if h : e.ctorIdx = 0 then @Expr.BoolOp.elim (fun _ => Bool) e h F else false
theorem onBoolOp_el {P : Expr → Prop} {e : Expr} {F : BoolOp → List Expr → Pos → Bool} (h : onBoolOp e F = true) (k : ∀ a1 a2 a3, F a1 a2 a3 = true → P (.BoolOp a1 a2 a3)) : P e := by
  unfold onBoolOp at h
  split at h
  · rename_i i
    exact @Expr.BoolOp.elim (fun e => ∀ i : e.ctorIdx = 0, @Expr.BoolOp.elim (fun _ => Bool) e i F = true → P e) e i (fun a1 a2 a3 _ h => k a1 a2 a3 h) i h
  · exact absurd h Bool.false_ne_true
noncomputable def onBinOp (e : Expr) (F : Expr → Operator → Expr → Pos → Bool) : Bool := if h : e.ctorIdx = 2 then @Expr.BinOp.elim (fun _ => Bool) e h F else false
theorem onBinOp_el {P : Expr → Prop} {e : Expr} {F : Expr → Operator → Expr → Pos → Bool} (h : onBinOp e F = true) (k : ∀ a1 a2 a3 a4, F a1 a2 a3 a4 = true → P (.BinOp a1 a2 a3 a4)) : P e := by
  unfold onBinOp at h
  split at h
  · rename_i i
    exact @Expr.BinOp.elim (fun e => ∀ i : e.ctorIdx = 2, @Expr.BinOp.elim (fun _ => Bool) e i F = true → P e) e i (fun a1 a2 a3 a4 _ h => k a1 a2 a3 a4 h) i h
  · exact absurd h Bool.false_ne_true
noncomputable def onUnaryOp (e : Expr) (F : UnaryOp → Expr → Pos → Bool) : Bool := if h : e.ctorIdx = 3 then @Expr.UnaryOp.elim (fun _ => Bool) e h F else false
theorem onUnaryOp_el {P : Expr → Prop} {e : Expr} {F : UnaryOp → Expr → Pos → Bool} (h : onUnaryOp e F = true) (k : ∀ a1 a2 a3, F a1 a2 a3 = true → P (.UnaryOp a1 a2 a3)) : P e := by
  unfold onUnaryOp at h
  split at h
  · rename_i i
    exact @Expr.UnaryOp.elim (fun e => ∀ i : e.ctorIdx = 3, @Expr.UnaryOp.elim (fun _ => Bool) e i F = true → P e) e i (fun a1 a2 a3 _ h => k a1 a2 a3 h) i h
  · exact absurd h Bool.false_ne_true
noncomputable def onIfExp (e : Expr) (F : Expr → Expr → Expr → Pos → Bool) : Bool := if h : e.ctorIdx = 5 then @Expr.IfExp.elim (fun _ => Bool) e h F else false
theorem onIfExp_el {P : Expr → Prop} {e : Expr} {F : Expr → Expr → Expr → Pos → Bool} (h : onIfExp e F = true) (k : ∀ a1 a2 a3 a4, F a1 a2 a3 a4 = true → P (.IfExp a1 a2 a3 a4)) : P e := by
  unfold onIfExp at h
  split at h
  · rename_i i
    exact @Expr.IfExp.elim (fun e => ∀ i : e.ctorIdx = 5, @Expr.IfExp.elim (fun _ => Bool) e i F = true → P e) e i (fun a1 a2 a3 a4 _ h => k a1 a2 a3 a4 h) i h
  · exact absurd h Bool.false_ne_true
noncomputable def onCompare (e : Expr) (F : Expr → List CmpOp → List Expr → Pos → Bool) : Bool := if h : e.ctorIdx = 15 then @Expr.Compare.elim (fun _ => Bool) e h F else false
theorem onCompare_el {P : Expr → Prop} {e : Expr} {F : Expr → List CmpOp → List Expr → Pos → Bool} (h : onCompare e F = true) (k : ∀ a1 a2 a3 a4, F a1 a2 a3 a4 = true → P (.Compare a1 a2 a3 a4)) : P e := by
  unfold onCompare at h
  split at h
  · rename_i i
    exact @Expr.Compare.elim (fun e => ∀ i : e.ctorIdx = 15, @Expr.Compare.elim (fun _ => Bool) e i F = true → P e) e i (fun a1 a2 a3 a4 _ h => k a1 a2 a3 a4 h) i h
  · exact absurd h Bool.false_ne_true
noncomputable def onCall (e : Expr) (F : Expr → List Expr → List Keyword → Pos → Bool) : Bool := if h : e.ctorIdx = 16 then @Expr.Call.elim (fun _ => Bool) e h F else false
theorem onCall_el {P : Expr → Prop} {e : Expr} {F : Expr → List Expr → List Keyword → Pos → Bool} (h : onCall e F = true) (k : ∀ a1 a2 a3 a4, F a1 a2 a3 a4 = true → P (.Call a1 a2 a3 a4)) : P e := by
  unfold onCall at h
  split at h
  · rename_i i
    exact @Expr.Call.elim (fun e => ∀ i : e.ctorIdx = 16, @Expr.Call.elim (fun _ => Bool) e i F = true → P e) e i (fun a1 a2 a3 a4 _ h => k a1 a2 a3 a4 h) i h
  · exact absurd h Bool.false_ne_true
noncomputable def onConstant (e : Expr) (F : Const → Nat → Pos → Bool) : Bool := if h : e.ctorIdx = 19 then @Expr.Constant.elim (fun _ => Bool) e h F else false
theorem onConstant_el {P : Expr → Prop} {e : Expr} {F : Const → Nat → Pos → Bool} (h : onConstant e F = true) (k : ∀ a1 a2 a3, F a1 a2 a3 = true → P (.Constant a1 a2 a3)) : P e := by
  unfold onConstant at h
  split at h
  · rename_i i
    exact @Expr.Constant.elim (fun e => ∀ i : e.ctorIdx = 19, @Expr.Constant.elim (fun _ => Bool) e i F = true → P e) e i (fun a1 a2 a3 _ h => k a1 a2 a3 h) i h
  · exact absurd h Bool.false_ne_true
noncomputable def onAttribute (e : Expr) (F : Expr → PySem.Str → Pos → Bool) : Bool := if h : e.ctorIdx = 20 then @Expr.Attribute.elim (fun _ => Bool) e h F else false
theorem onAttribute_el {P : Expr → Prop} {e : Expr} {F : Expr → PySem.Str → Pos → Bool} (h : onAttribute e F = true) (k : ∀ a1 a2 a3, F a1 a2 a3 = true → P (.Attribute a1 a2 a3)) : P e := by
  unfold onAttribute at h
  split at h
  · rename_i i
    exact @Expr.Attribute.elim (fun e => ∀ i : e.ctorIdx = 20, @Expr.Attribute.elim (fun _ => Bool) e i F = true → P e) e i (fun a1 a2 a3 _ h => k a1 a2 a3 h) i h
  · exact absurd h Bool.false_ne_true
noncomputable def onSubscript (e : Expr) (F : Expr → Expr → Pos → Bool) : Bool := if h : e.ctorIdx = 21 then @Expr.Subscript.elim (fun _ => Bool) e h F else false
theorem onSubscript_el {P : Expr → Prop} {e : Expr} {F : Expr → Expr → Pos → Bool} (h : onSubscript e F = true) (k : ∀ a1 a2 a3, F a1 a2 a3 = true → P (.Subscript a1 a2 a3)) : P e := by
  unfold onSubscript at h
  split at h
  · rename_i i
    exact @Expr.Subscript.elim (fun e => ∀ i : e.ctorIdx = 21, @Expr.Subscript.elim (fun _ => Bool) e i F = true → P e) e i (fun a1 a2 a3 _ h => k a1 a2 a3 h) i h
  · exact absurd h Bool.false_ne_true
noncomputable def onName (e : Expr) (F : PySem.Str → Pos → Bool) : Bool := if h : e.ctorIdx = 23 then @Expr.Name.elim (fun _ => Bool) e h F else false
theorem onName_el {P : Expr → Prop} {e : Expr} {F : PySem.Str → Pos → Bool} (h : onName e F = true) (k : ∀ a1 a2, F a1 a2 = true → P (.Name a1 a2)) : P e := by
  unfold onName at h
  split at h
  · rename_i i
    exact @Expr.Name.elim (fun e => ∀ i : e.ctorIdx = 23, @Expr.Name.elim (fun _ => Bool) e i F = true → P e) e i (fun a1 a2 _ h => k a1 a2 h) i h
  · exact absurd h Bool.false_ne_true
noncomputable def onList (e : Expr) (F : List Expr → Pos → Bool) : Bool := if h : e.ctorIdx = 24 then @Expr.List.elim (fun _ => Bool) e h F else false
theorem onList_el {P : Expr → Prop} {e : Expr} {F : List Expr → Pos → Bool} (h : onList e F = true) (k : ∀ a1 a2, F a1 a2 = true → P (.List a1 a2)) : P e := by
  unfold onList at h
  split at h
  · rename_i i
    exact @Expr.List.elim (fun e => ∀ i : e.ctorIdx = 24, @Expr.List.elim (fun _ => Bool) e i F = true → P e) e i (fun a1 a2 _ h => k a1 a2 h) i h
  · exact absurd h Bool.false_ne_true
noncomputable def onTuple (e : Expr) (F : List Expr → Nat → Pos → Bool) : Bool := if h : e.ctorIdx = 25 then @Expr.Tuple.elim (fun _ => Bool) e h F else false
theorem onTuple_el {P : Expr → Prop} {e : Expr} {F : List Expr → Nat → Pos → Bool} (h : onTuple e F = true) (k : ∀ a1 a2 a3, F a1 a2 a3 = true → P (.Tuple a1 a2 a3)) : P e := by
  unfold onTuple at h
  split at h
  · rename_i i
    exact @Expr.Tuple.elim (fun e => ∀ i : e.ctorIdx = 25, @Expr.Tuple.elim (fun _ => Bool) e i F = true → P e) e i (fun a1 a2 a3 _ h => k a1 a2 a3 h) i h
  · exact absurd h Bool.false_ne_true
noncomputable def onSlice (e : Expr) (F : Option Expr → Option Expr → Option Expr → Pos → Bool) : Bool := if h : e.ctorIdx = 26 then @Expr.Slice.elim (fun _ => Bool) e h F else false
theorem onSlice_el {P : Expr → Prop} {e : Expr} {F : Option Expr → Option Expr → Option Expr → Pos → Bool} (h : onSlice e F = true) (k : ∀ a1 a2 a3 a4, F a1 a2 a3 a4 = true → P (.Slice a1 a2 a3 a4)) : P e := by
  unfold onSlice at h
  split at h
  · rename_i i
    exact @Expr.Slice.elim (fun e => ∀ i : e.ctorIdx = 26, @Expr.Slice.elim (fun _ => Bool) e i F = true → P e) e i (fun a1 a2 a3 a4 _ h => k a1 a2 a3 a4 h) i h
  · exact absurd h Bool.false_ne_true
noncomputable def onSReturn (e : Stmt) (F : Option Expr → Pos → Bool) : Bool := if h : e.ctorIdx = 3 then @Stmt.Return.elim (fun _ => Bool) e h F else false
theorem onSReturn_el {P : Stmt → Prop} {e : Stmt} {F : Option Expr → Pos → Bool} (h : onSReturn e F = true) (k : ∀ a1 a2, F a1 a2 = true → P (.Return a1 a2)) : P e := by
  unfold onSReturn at h
  split at h
  · rename_i i
    exact @Stmt.Return.elim (fun e => ∀ i : e.ctorIdx = 3, @Stmt.Return.elim (fun _ => Bool) e i F = true → P e) e i (fun a1 a2 _ h => k a1 a2 h) i h
  · exact absurd h Bool.false_ne_true
noncomputable def onSAssign (e : Stmt) (F : List Expr → Expr → Pos → Bool) : Bool := if h : e.ctorIdx = 5 then @Stmt.Assign.elim (fun _ => Bool) e h F else false
theorem onSAssign_el {P : Stmt → Prop} {e : Stmt} {F : List Expr → Expr → Pos → Bool} (h : onSAssign e F = true) (k : ∀ a1 a2 a3, F a1 a2 a3 = true → P (.Assign a1 a2 a3)) : P e := by
  unfold onSAssign at h
  split at h
  · rename_i i
    exact @Stmt.Assign.elim (fun e => ∀ i : e.ctorIdx = 5, @Stmt.Assign.elim (fun _ => Bool) e i F = true → P e) e i (fun a1 a2 a3 _ h => k a1 a2 a3 h) i h
  · exact absurd h Bool.false_ne_true
noncomputable def onSAugAssign (e : Stmt) (F : Expr → Operator → Expr → Pos → Bool) : Bool := if h : e.ctorIdx = 7 then @Stmt.AugAssign.elim (fun _ => Bool) e h F else false
theorem onSAugAssign_el {P : Stmt → Prop} {e : Stmt} {F : Expr → Operator → Expr → Pos → Bool} (h : onSAugAssign e F = true) (k : ∀ a1 a2 a3 a4, F a1 a2 a3 a4 = true → P (.AugAssign a1 a2 a3 a4)) : P e := by
  unfold onSAugAssign at h
  split at h
  · rename_i i
    exact @Stmt.AugAssign.elim (fun e => ∀ i : e.ctorIdx = 7, @Stmt.AugAssign.elim (fun _ => Bool) e i F = true → P e) e i (fun a1 a2 a3 a4 _ h => k a1 a2 a3 a4 h) i h
  · exact absurd h Bool.false_ne_true
noncomputable def onSFor (e : Stmt) (F : Expr → Expr → List Stmt → List Stmt → Pos → Bool) : Bool := if h : e.ctorIdx = 9 then @Stmt.For.elim (fun _ => Bool) e h F else false
theorem onSFor_el {P : Stmt → Prop} {e : Stmt} {F : Expr → Expr → List Stmt → List Stmt → Pos → Bool} (h : onSFor e F = true) (k : ∀ a1 a2 a3 a4 a5, F a1 a2 a3 a4 a5 = true → P (.For a1 a2 a3 a4 a5)) : P e := by
  unfold onSFor at h
  split at h
  · rename_i i
    exact @Stmt.For.elim (fun e => ∀ i : e.ctorIdx = 9, @Stmt.For.elim (fun _ => Bool) e i F = true → P e) e i (fun a1 a2 a3 a4 a5 _ h => k a1 a2 a3 a4 a5 h) i h
  · exact absurd h Bool.false_ne_true
noncomputable def onSWhile (e : Stmt) (F : Expr → List Stmt → List Stmt → Pos → Bool) : Bool := if h : e.ctorIdx = 11 then @Stmt.While.elim (fun _ => Bool) e h F else false
theorem onSWhile_el {P : Stmt → Prop} {e : Stmt} {F : Expr → List Stmt → List Stmt → Pos → Bool} (h : onSWhile e F = true) (k : ∀ a1 a2 a3 a4, F a1 a2 a3 a4 = true → P (.While a1 a2 a3 a4)) : P e := by
  unfold onSWhile at h
  split at h
  · rename_i i
    exact @Stmt.While.elim (fun e => ∀ i : e.ctorIdx = 11, @Stmt.While.elim (fun _ => Bool) e i F = true → P e) e i (fun a1 a2 a3 a4 _ h => k a1 a2 a3 a4 h) i h
  · exact absurd h Bool.false_ne_true
noncomputable def onSIf (e : Stmt) (F : Expr → List Stmt → List Stmt → Pos → Bool) : Bool := if h : e.ctorIdx = 12 then @Stmt.If.elim (fun _ => Bool) e h F else false
theorem onSIf_el {P : Stmt → Prop} {e : Stmt} {F : Expr → List Stmt → List Stmt → Pos → Bool} (h : onSIf e F = true) (k : ∀ a1 a2 a3 a4, F a1 a2 a3 a4 = true → P (.If a1 a2 a3 a4)) : P e := by
  unfold onSIf at h
  split at h
  · rename_i i
    exact @Stmt.If.elim (fun e => ∀ i : e.ctorIdx = 12, @Stmt.If.elim (fun _ => Bool) e i F = true → P e) e i (fun a1 a2 a3 a4 _ h => k a1 a2 a3 a4 h) i h
  · exact absurd h Bool.false_ne_true
noncomputable def onSRaise (e : Stmt) (F : Option Expr → Option Expr → Pos → Bool) : Bool := if h : e.ctorIdx = 16 then @Stmt.Raise.elim (fun _ => Bool) e h F else false
theorem onSRaise_el {P : Stmt → Prop} {e : Stmt} {F : Option Expr → Option Expr → Pos → Bool} (h : onSRaise e F = true) (k : ∀ a1 a2 a3, F a1 a2 a3 = true → P (.Raise a1 a2 a3)) : P e := by
  unfold onSRaise at h
  split at h
  · rename_i i
    exact @Stmt.Raise.elim (fun e => ∀ i : e.ctorIdx = 16, @Stmt.Raise.elim (fun _ => Bool) e i F = true → P e) e i (fun a1 a2 a3 _ h => k a1 a2 a3 h) i h
  · exact absurd h Bool.false_ne_true
noncomputable def onSTry (e : Stmt) (F : List Stmt → List ExceptHandler → List Stmt → List Stmt → Pos → Bool) : Bool := if h : e.ctorIdx = 17 then @Stmt.Try.elim (fun _ => Bool) e h F else false
theorem onSTry_el {P : Stmt → Prop} {e : Stmt} {F : List Stmt → List ExceptHandler → List Stmt → List Stmt → Pos → Bool} (h : onSTry e F = true) (k : ∀ a1 a2 a3 a4 a5, F a1 a2 a3 a4 a5 = true → P (.Try a1 a2 a3 a4 a5)) : P e := by
  unfold onSTry at h
  split at h
  · rename_i i
    exact @Stmt.Try.elim (fun e => ∀ i : e.ctorIdx = 17, @Stmt.Try.elim (fun _ => Bool) e i F = true → P e) e i (fun a1 a2 a3 a4 a5 _ h => k a1 a2 a3 a4 a5 h) i h
  · exact absurd h Bool.false_ne_true
noncomputable def onSExpr (e : Stmt) (F : Expr → Pos → Bool) : Bool := if h : e.ctorIdx = 24 then @Stmt.Expr.elim (fun _ => Bool) e h F else false
theorem onSExpr_el {P : Stmt → Prop} {e : Stmt} {F : Expr → Pos → Bool} (h : onSExpr e F = true) (k : ∀ a1 a2, F a1 a2 = true → P (.Expr a1 a2)) : P e := by
  unfold onSExpr at h
  split at h
  · rename_i i
    exact @Stmt.Expr.elim (fun e => ∀ i : e.ctorIdx = 24, @Stmt.Expr.elim (fun _ => Bool) e i F = true → P e) e i (fun a1 a2 _ h => k a1 a2 h) i h
  · exact absurd h Bool.false_ne_true
noncomputable def onSBreak (e : Stmt) (F : Pos → Bool) : Bool := if h : e.ctorIdx = 26 then @Stmt.Break.elim (fun _ => Bool) e h F else false
theorem onSBreak_el {P : Stmt → Prop} {e : Stmt} {F : Pos → Bool} (h : onSBreak e F = true) (k : ∀ a1, F a1 = true → P (.Break a1)) : P e := by
  unfold onSBreak at h
  split at h
  · rename_i i
    exact @Stmt.Break.elim (fun e => ∀ i : e.ctorIdx = 26, @Stmt.Break.elim (fun _ => Bool) e i F = true → P e) e i (fun a1 _ h => k a1 h) i h
  · exact absurd h Bool.false_ne_true
noncomputable def onHExceptHandler (e : ExceptHandler) (F : Option Expr → Option PySem.Str → List Stmt → Pos → Bool) : Bool := match e with | .ExceptHandler a b c d => F a b c d
theorem onHExceptHandler_el {P : ExceptHandler → Prop} {e : ExceptHandler} {F : Option Expr → Option PySem.Str → List Stmt → Pos → Bool} (h : onHExceptHandler e F = true) (k : ∀ a b c d, F a b c d = true → P (.ExceptHandler a b c d)) : P e := by
  cases e; exact k _ _ _ _ h
noncomputable def onCInt (c : Const) (F : Int → Bool) : Bool := match c with | .int i => F i | _ => false
theorem onCInt_el {P : Const → Prop} {c : Const} {F : Int → Bool} (h : onCInt c F = true) (k : ∀ i, F i = true → P (.int i)) : P c := by
  cases c <;> first | exact k _ h | exact absurd h Bool.false_ne_true
noncomputable def onCStr (c : Const) (F : PySem.Str → Bool) : Bool := match c with | .str i => F i | _ => false
theorem onCStr_el {P : Const → Prop} {c : Const} {F : PySem.Str → Bool} (h : onCStr c F = true) (k : ∀ i, F i = true → P (.str i)) : P c := by
  cases c <;> first | exact k _ h | exact absurd h Bool.false_ne_true
noncomputable def onCBool (c : Const) (F : Bool → Bool) : Bool := match c with | .bool i => F i | _ => false
theorem onCBool_el {P : Const → Prop} {c : Const} {F : Bool → Bool} (h : onCBool c F = true) (k : ∀ i, F i = true → P (.bool i)) : P c := by
  cases c <;> first | exact k _ h | exact absurd h Bool.false_ne_true
noncomputable def onCNone (c : Const) (b : Bool) : Bool := match c with | .none => b | _ => false
theorem onCNone_el {P : Const → Prop} {c : Const} {b : Bool} (h : onCNone c b = true) (k : b = true → P .none) : P c := by
  cases c <;> first | exact k h | exact absurd h Bool.false_ne_true
section
variable {α : Type}
noncomputable def onSome (c : Option α) (F : α → Bool) : Bool := match c with | some i => F i | _ => false
theorem onSome_el {P : Option α → Prop} {c : Option α} {F : α → Bool} (h : onSome c F = true) (k : ∀ i, F i = true → P (some i)) : P c := by
  cases c <;> first | exact k _ h | exact absurd h Bool.false_ne_true
noncomputable def onNone (c : Option α) (b : Bool) : Bool := match c with | none => b | _ => false
theorem onNone_el {P : Option α → Prop} {c : Option α} {b : Bool} (h : onNone c b = true) (k : b = true → P none) : P c := by
  cases c <;> first | exact k h | exact absurd h Bool.false_ne_true
noncomputable def on0 (l : List α) (b : Bool) : Bool := match l with | [] => b | _ => false
theorem on0_el {P : List α → Prop} {l : List α} {b : Bool} (h : on0 l b = true) (k : b = true → P []) : P l := by
  cases l <;> first | exact k h | exact absurd h Bool.false_ne_true
noncomputable def onCons (l : List α) (F : α → List α → Bool) : Bool := match l with | a :: r => F a r | _ => false
theorem onCons_el {P : List α → Prop} {l : List α} {F : α → List α → Bool} (h : onCons l F = true) (k : ∀ a r, F a r = true → P (a :: r)) : P l := by
  cases l <;> first | exact k _ _ h | exact absurd h Bool.false_ne_true
noncomputable def on1 (l : List α) (F : α → Bool) : Bool := onCons l fun a r => on0 r (F a)
theorem on1_el {P : List α → Prop} {l : List α} {F : α → Bool} (h : on1 l F = true) (k : ∀ a, F a = true → P [a]) : P l :=
  onCons_el h fun a _ h => on0_el (P := fun r => P (a :: r)) h fun h => k a h
noncomputable def on2 (l : List α) (F : α → α → Bool) : Bool := onCons l fun a r => on1 r (F a)
theorem on2_el {P : List α → Prop} {l : List α} {F : α → α → Bool} (h : on2 l F = true) (k : ∀ a b, F a b = true → P [a, b]) : P l :=
  onCons_el h fun a _ h => on1_el (P := fun r => P (a :: r)) h fun b h => k a b h
noncomputable def on3 (l : List α) (F : α → α → α → Bool) : Bool := onCons l fun a r => on2 r (F a)
theorem on3_el {P : List α → Prop} {l : List α} {F : α → α → α → Bool} (h : on3 l F = true) (k : ∀ a b c, F a b c = true → P [a, b, c]) : P l :=
  onCons_el h fun a _ h => on2_el (P := fun r => P (a :: r)) h fun b c h => k a b c h
noncomputable def on4 (l : List α) (F : α → α → α → α → Bool) : Bool := onCons l fun a r => on3 r (F a)
theorem on4_el {P : List α → Prop} {l : List α} {F : α → α → α → α → Bool} (h : on4 l F = true) (k : ∀ a b c d, F a b c d = true → P [a, b, c, d]) : P l :=
  onCons_el h fun a _ h => on3_el (P := fun r => P (a :: r)) h fun b c d h => k a b c d h
end
end Lr
end
section
open PySem PySem.W PyProof.Rows PySem.SeqAt PySem.Calls
set_option maxRecDepth 100000
namespace Lr
noncomputable def okName (x : PySem.Str) : Bool := !(x == ("__debug__" : PySem.Str)) && !(x == ("__name__" : PySem.Str))
noncomputable def isLoc (cs : Scope) (ns : List PySem.Str) (i : Nat) (x : PySem.Str) : Bool := ns[i]? == some x && cs.names.lookup x == some .local && okName x
noncomputable def isGlo (cs : Scope) (x : PySem.Str) : Bool := cs.names.lookup x == some .globalImplicit && okName x
noncomputable def mC : V → Const → Bool
  | .none, .none => true
  | .bool a, .bool b => a == b
  | .int a, .int b => a == b
  | .str l, .str x => l == x.cps.toList
  | _, _ => false
noncomputable def mKs : List V → List Expr → Bool
  | [], [] => true
  | k :: ks, .Constant c _ _ :: r => mC k c && mKs ks r
  | _, _ => false
noncomputable def noSet : Expr → Bool
  | .Set .. => false
  | _ => true
mutual
noncomputable def mX (cs : Scope) (ns : List PySem.Str) : ME → Bool → Expr → Bool
  | .v i => fun t e => onName e fun x _ => (isLoc cs ns i x)
  | .c k => fun t e => onConstant e fun c _ _ => (!t && mC k c)
  | .tup es => fun t e => onTuple e fun xs _ _ => (!t && mXs cs ns es false xs && xs.all noStar)
  | .lst es => fun t e => onList e fun xs _ => (!t && mXs cs ns es false xs && xs.all noStar)
  | .bin op a b => fun t e => onBinOp e fun l o r _ => (!t && mOp op o && mX cs ns a false l && mX cs ns b false r)
  | .neg a => fun t e => onUnaryOp e fun o x _ => (!t && (o == .USub) && mX cs ns a false x)
  | .bo isAnd es => fun t e => onBoolOp e fun o xs _ => ((o == (if isAnd then .And else .Or)) && mXs cs ns es t xs && !xs.isEmpty)
  | .not a => fun t e => onUnaryOp e fun o x _ => ((o == .Not) && mX cs ns a t x)
  | .cmp op a b => fun t e => onCompare e fun l u1 u2 _ => on1 u1 fun o => on1 u2 fun r => (mCmp op o && mX cs ns a false l && mX cs ns b false r && noSet r)
  | .chain a b d => fun t e => onCompare e fun l u1 u2 _ => on2 u1 fun o o' => on2 u2 fun r q => (t && (o == .LtE) && (o' == .LtE) && mX cs ns a false l && mX cs ns b false r && mX cs ns d false q && noSet q)
  | .isNone i => fun t e => onCompare e fun u1 u2 u3 _ => onName u1 fun x _ => on1 u2 fun o => on1 u3 fun u4 => onConstant u4 fun u5 _ _ => onCNone u5 <| ((o == .Is) && isLoc cs ns i x)
  | .notNone i => fun t e => onCompare e fun u1 u2 u3 _ => onName u1 fun x _ => on1 u2 fun o => on1 u3 fun u4 => onConstant u4 fun u5 _ _ => onCNone u5 <| ((o == .IsNot) && isLoc cs ns i x)
  | .inT neg a ks => fun t e => onCompare e fun l u1 u2 _ => on1 u1 fun o => on1 u2 fun u3 => onTuple u3 fun xs _ _ => ((o == (if neg then .NotIn else .In)) && mX cs ns a false l && mKs ks xs && decide (xs.length ≤ 64))
  | .inS neg a b => fun t e => onCompare e fun l u1 u2 _ => on1 u1 fun o => on1 u2 fun r => ((o == (if neg then .NotIn else .In)) && mX cs ns a false l && mX cs ns b false r && noSet r)
  | .ifx q a b => fun t e => onIfExp e fun x y z _ => (!t && mX cs ns q true x && mX cs ns a false y && mX cs ns b false z)
  | .idx a i => fun t e => onSubscript e fun x y _ => (mX cs ns a false x && mX cs ns i false y && noSlice y)
  | .sl a l h => fun t e => onSubscript e fun x u1 _ => onSlice u1 fun u2 u3 u4 _ => onSome u2 fun y => onSome u3 fun z => onNone u4 <| (mX cs ns a false x && mX cs ns l false y && mX cs ns h false z)
  | .slF a l => fun t e => onSubscript e fun x u1 _ => onSlice u1 fun u2 u3 u4 _ => onSome u2 fun y => onNone u3 <| onNone u4 <| (mX cs ns a false x && mX cs ns l false y)
  | .slT a h => fun t e => onSubscript e fun x u1 _ => onSlice u1 fun u2 u3 u4 _ => onNone u2 <| onSome u3 fun z => onNone u4 <| (mX cs ns a false x && mX cs ns h false z)
  | .rev a => fun t e => onSubscript e fun x u1 _ => onSlice u1 fun u2 u3 u4 _ => onNone u2 <| onNone u3 <| onSome u4 fun u5 => onUnaryOp u5 fun o u6 _ => onConstant u6 fun u7 _ _ => onCInt u7 fun i => ((o == .USub) && i == 1 && mX cs ns a false x && !isV a)
  | .call f es => fun t e => onCall e fun u1 xs u2 _ => onName u1 fun g _ => on0 u2 <| (isGlo cs g && decide (f < 71) && fnName f == g && mXs cs ns es false xs && xs.all noStar)
  | .lenV i => fun t e => onCall e fun u1 u2 u3 _ => onName u1 fun g _ => on1 u2 fun u4 => onName u4 fun x _ => on0 u3 <| (isGlo cs g && g == ("len" : PySem.Str) && isLoc cs ns i x)
  | .joinV a i => fun t e => onCall e fun u1 u2 u3 pos => onAttribute u1 fun o n ap => on1 u2 fun u4 => onName u4 fun x _ => on0 u3 <| (n == ("join" : PySem.Str) && mX cs ns a false o && (isName o || isConst o) && (ap.endLine == pos.line) && isLoc cs ns i x)
  | .penGet i => fun t e => onSubscript e fun u1 u2 _ => onName u1 fun x _ => onConstant u2 fun u3 _ _ => onCInt u3 fun j => (j == 0 && isLoc cs ns i x)
  | .stuck => fun _ _ => true
  | .len a => fun t e => onCall e fun u1 u2 u3 _ => onName u1 fun g _ => on1 u2 fun x => on0 u3 <| (isGlo cs g && g == ("len" : PySem.Str) && mX cs ns a false x && noStar x)
  | .max a b => fun t e => onCall e fun u1 u2 u3 _ => onName u1 fun g _ => on2 u2 fun x y => on0 u3 <| (isGlo cs g && g == ("max" : PySem.Str) && mX cs ns a false x && noStar x && mX cs ns b false y && noStar y)
  | .min a b => fun t e => onCall e fun u1 u2 u3 _ => onName u1 fun g _ => on2 u2 fun x y => on0 u3 <| (isGlo cs g && g == ("min" : PySem.Str) && mX cs ns a false x && noStar x && mX cs ns b false y && noStar y)
  | .str a => fun t e => onCall e fun u1 u2 u3 _ => onName u1 fun g _ => on1 u2 fun x => on0 u3 <| (isGlo cs g && g == ("str" : PySem.Str) && mX cs ns a false x && noStar x)
  | .signs a => fun t e => onCall e fun u1 u2 u3 _ => onName u1 fun g _ => on1 u2 fun x => on0 u3 <| (isGlo cs g && g == ("list" : PySem.Str) && mX cs ns a false x && noStar x)
  | .ord a => fun t e => onCall e fun u1 u2 u3 _ => onName u1 fun g _ => on1 u2 fun x => on0 u3 <| (isGlo cs g && g == ("ord" : PySem.Str) && mX cs ns a false x && noStar x)
  | .join a b => fun t e => onCall e fun u1 u2 u3 pos => onAttribute u1 fun o n ap => on1 u2 fun x => on0 u3 <| (n == ("join" : PySem.Str) && mX cs ns a false o && (isName o || isConst o) && (ap.endLine == pos.line) && mX cs ns b false x && noStar x)
  | .find a b => fun t e => onCall e fun u1 u2 u3 pos => onAttribute u1 fun o n ap => on1 u2 fun x => on0 u3 <| (n == ("find" : PySem.Str) && mX cs ns a false o && (isName o || isConst o) && (ap.endLine == pos.line) && mX cs ns b false x && noStar x)
  | .rfind a b => fun t e => onCall e fun u1 u2 u3 pos => onAttribute u1 fun o n ap => on1 u2 fun x => on0 u3 <| (n == ("rfind" : PySem.Str) && mX cs ns a false o && (isName o || isConst o) && (ap.endLine == pos.line) && mX cs ns b false x && noStar x)
  | .starts a b => fun t e => onCall e fun u1 u2 u3 pos => onAttribute u1 fun o n ap => on1 u2 fun x => on0 u3 <| (n == ("startswith" : PySem.Str) && mX cs ns a false o && (isName o || isConst o) && (ap.endLine == pos.line) && mX cs ns b false x && noStar x)
  | .ends a b => fun t e => onCall e fun u1 u2 u3 pos => onAttribute u1 fun o n ap => on1 u2 fun x => on0 u3 <| (n == ("endswith" : PySem.Str) && mX cs ns a false o && (isName o || isConst o) && (ap.endLine == pos.line) && mX cs ns b false x && noStar x)
  | .index a b => fun t e => onCall e fun u1 u2 u3 pos => onAttribute u1 fun o n ap => on1 u2 fun x => on0 u3 <| (n == ("index" : PySem.Str) && mX cs ns a false o && (isName o || isConst o) && (ap.endLine == pos.line) && mX cs ns b false x && noStar x)
noncomputable def mXs (cs : Scope) (ns : List PySem.Str) : MEs → Bool → List Expr → Bool
  | .nil => fun _ xs => xs.isEmpty
  | .cons e r => fun t xs => match xs with | x :: xs => mX cs ns e t x && mXs cs ns r t xs | [] => false
end
theorem iX_v {cs : Scope} {ns : List PySem.Str} {i : Nat} {tb : Bool} {P : Expr → Prop} {e : Expr} (hz : mX cs ns (.v i) tb e = true) (k : ∀ x w1, (isLoc cs ns i x) = true → P (.Name x w1)) : P e := by
  refine onName_el (P := fun e => P (e)) hz fun x w1 h1 => ?_
  exact k _ _ h1
theorem iX_c {cs : Scope} {ns : List PySem.Str} {k : V} {tb : Bool} {P : Expr → Prop} {e : Expr} (hz : mX cs ns (.c k) tb e = true) (k : ∀ c w1 w2, (!tb && mC k c) = true → P (.Constant c w1 w2)) : P e := by
  refine onConstant_el (P := fun e => P (e)) hz fun c w1 w2 h1 => ?_
  exact k _ _ _ h1
theorem iX_tup {cs : Scope} {ns : List PySem.Str} {es : MEs} {tb : Bool} {P : Expr → Prop} {e : Expr} (hz : mX cs ns (.tup es) tb e = true) (k : ∀ xs w1 w2, (!tb && mXs cs ns es false xs && xs.all noStar) = true → P (.Tuple xs w1 w2)) : P e := by
  refine onTuple_el (P := fun e => P (e)) hz fun xs w1 w2 h1 => ?_
  exact k _ _ _ h1
theorem iX_lst {cs : Scope} {ns : List PySem.Str} {es : MEs} {tb : Bool} {P : Expr → Prop} {e : Expr} (hz : mX cs ns (.lst es) tb e = true) (k : ∀ xs w1, (!tb && mXs cs ns es false xs && xs.all noStar) = true → P (.List xs w1)) : P e := by
  refine onList_el (P := fun e => P (e)) hz fun xs w1 h1 => ?_
  exact k _ _ h1
theorem iX_bin {cs : Scope} {ns : List PySem.Str} {op : MOp} {a : ME} {b : ME} {tb : Bool} {P : Expr → Prop} {e : Expr} (hz : mX cs ns (.bin op a b) tb e = true) (k : ∀ l o r w1, (!tb && mOp op o && mX cs ns a false l && mX cs ns b false r) = true → P (.BinOp l o r w1)) : P e := by
  refine onBinOp_el (P := fun e => P (e)) hz fun l o r w1 h1 => ?_
  exact k _ _ _ _ h1
theorem iX_neg {cs : Scope} {ns : List PySem.Str} {a : ME} {tb : Bool} {P : Expr → Prop} {e : Expr} (hz : mX cs ns (.neg a) tb e = true) (k : ∀ o x w1, (!tb && (o == .USub) && mX cs ns a false x) = true → P (.UnaryOp o x w1)) : P e := by
  refine onUnaryOp_el (P := fun e => P (e)) hz fun o x w1 h1 => ?_
  exact k _ _ _ h1
theorem iX_bo {cs : Scope} {ns : List PySem.Str} {isAnd : Bool} {es : MEs} {tb : Bool} {P : Expr → Prop} {e : Expr} (hz : mX cs ns (.bo isAnd es) tb e = true) (k : ∀ o xs w1, ((o == (if isAnd then .And else .Or)) && mXs cs ns es tb xs && !xs.isEmpty) = true → P (.BoolOp o xs w1)) : P e := by
  refine onBoolOp_el (P := fun e => P (e)) hz fun o xs w1 h1 => ?_
  exact k _ _ _ h1
theorem iX_not {cs : Scope} {ns : List PySem.Str} {a : ME} {tb : Bool} {P : Expr → Prop} {e : Expr} (hz : mX cs ns (.not a) tb e = true) (k : ∀ o x w1, ((o == .Not) && mX cs ns a tb x) = true → P (.UnaryOp o x w1)) : P e := by
  refine onUnaryOp_el (P := fun e => P (e)) hz fun o x w1 h1 => ?_
  exact k _ _ _ h1
theorem iX_cmp {cs : Scope} {ns : List PySem.Str} {op : COp} {a : ME} {b : ME} {tb : Bool} {P : Expr → Prop} {e : Expr} (hz : mX cs ns (.cmp op a b) tb e = true) (k : ∀ l w1 o r, (mCmp op o && mX cs ns a false l && mX cs ns b false r && noSet r) = true → P (.Compare l [o] [r] w1)) : P e := by
  refine onCompare_el (P := fun e => P (e)) hz fun l u1 u2 w1 h1 => ?_
  refine on1_el (P := fun u1 => P ((.Compare l u1 u2 w1))) h1 fun o h2 => ?_
  refine on1_el (P := fun u2 => P ((.Compare l [o] u2 w1))) h2 fun r h3 => ?_
  exact k _ _ _ _ h3
theorem iX_chain {cs : Scope} {ns : List PySem.Str} {a : ME} {b : ME} {d : ME} {tb : Bool} {P : Expr → Prop} {e : Expr} (hz : mX cs ns (.chain a b d) tb e = true) (k : ∀ l w1 o o' r q, (tb && (o == .LtE) && (o' == .LtE) && mX cs ns a false l && mX cs ns b false r && mX cs ns d false q && noSet q) = true → P (.Compare l [o, o'] [r, q] w1)) : P e := by
  refine onCompare_el (P := fun e => P (e)) hz fun l u1 u2 w1 h1 => ?_
  refine on2_el (P := fun u1 => P ((.Compare l u1 u2 w1))) h1 fun o o' h2 => ?_
  refine on2_el (P := fun u2 => P ((.Compare l [o, o'] u2 w1))) h2 fun r q h3 => ?_
  exact k _ _ _ _ _ _ h3
theorem iX_isNone {cs : Scope} {ns : List PySem.Str} {i : Nat} {tb : Bool} {P : Expr → Prop} {e : Expr} (hz : mX cs ns (.isNone i) tb e = true) (k : ∀ w1 x w2 o w3 w4, ((o == .Is) && isLoc cs ns i x) = true → P (.Compare (.Name x w2) [o] [(.Constant (.none) w3 w4)] w1)) : P e := by
  refine onCompare_el (P := fun e => P (e)) hz fun u1 u2 u3 w1 h1 => ?_
  refine onName_el (P := fun u1 => P ((.Compare u1 u2 u3 w1))) h1 fun x w2 h2 => ?_
  refine on1_el (P := fun u2 => P ((.Compare (.Name x w2) u2 u3 w1))) h2 fun o h3 => ?_
  refine on1_el (P := fun u3 => P ((.Compare (.Name x w2) [o] u3 w1))) h3 fun u4 h4 => ?_
  refine onConstant_el (P := fun u4 => P ((.Compare (.Name x w2) [o] [u4] w1))) h4 fun u5 w3 w4 h5 => ?_
  refine onCNone_el (P := fun u5 => P ((.Compare (.Name x w2) [o] [(.Constant u5 w3 w4)] w1))) h5 fun h6 => ?_
  exact k _ _ _ _ _ _ h6
theorem iX_notNone {cs : Scope} {ns : List PySem.Str} {i : Nat} {tb : Bool} {P : Expr → Prop} {e : Expr} (hz : mX cs ns (.notNone i) tb e = true) (k : ∀ w1 x w2 o w3 w4, ((o == .IsNot) && isLoc cs ns i x) = true → P (.Compare (.Name x w2) [o] [(.Constant (.none) w3 w4)] w1)) : P e := by
  refine onCompare_el (P := fun e => P (e)) hz fun u1 u2 u3 w1 h1 => ?_
  refine onName_el (P := fun u1 => P ((.Compare u1 u2 u3 w1))) h1 fun x w2 h2 => ?_
  refine on1_el (P := fun u2 => P ((.Compare (.Name x w2) u2 u3 w1))) h2 fun o h3 => ?_
  refine on1_el (P := fun u3 => P ((.Compare (.Name x w2) [o] u3 w1))) h3 fun u4 h4 => ?_
  refine onConstant_el (P := fun u4 => P ((.Compare (.Name x w2) [o] [u4] w1))) h4 fun u5 w3 w4 h5 => ?_
  refine onCNone_el (P := fun u5 => P ((.Compare (.Name x w2) [o] [(.Constant u5 w3 w4)] w1))) h5 fun h6 => ?_
  exact k _ _ _ _ _ _ h6
theorem iX_inT {cs : Scope} {ns : List PySem.Str} {neg : Bool} {a : ME} {ks : List V} {tb : Bool} {P : Expr → Prop} {e : Expr} (hz : mX cs ns (.inT neg a ks) tb e = true) (k : ∀ l w1 o xs w2 w3, ((o == (if neg then .NotIn else .In)) && mX cs ns a false l && mKs ks xs && decide (xs.length ≤ 64)) = true → P (.Compare l [o] [(.Tuple xs w2 w3)] w1)) : P e := by
  refine onCompare_el (P := fun e => P (e)) hz fun l u1 u2 w1 h1 => ?_
  refine on1_el (P := fun u1 => P ((.Compare l u1 u2 w1))) h1 fun o h2 => ?_
  refine on1_el (P := fun u2 => P ((.Compare l [o] u2 w1))) h2 fun u3 h3 => ?_
  refine onTuple_el (P := fun u3 => P ((.Compare l [o] [u3] w1))) h3 fun xs w2 w3 h4 => ?_
  exact k _ _ _ _ _ _ h4
theorem iX_inS {cs : Scope} {ns : List PySem.Str} {neg : Bool} {a : ME} {b : ME} {tb : Bool} {P : Expr → Prop} {e : Expr} (hz : mX cs ns (.inS neg a b) tb e = true) (k : ∀ l w1 o r, ((o == (if neg then .NotIn else .In)) && mX cs ns a false l && mX cs ns b false r && noSet r) = true → P (.Compare l [o] [r] w1)) : P e := by
  refine onCompare_el (P := fun e => P (e)) hz fun l u1 u2 w1 h1 => ?_
  refine on1_el (P := fun u1 => P ((.Compare l u1 u2 w1))) h1 fun o h2 => ?_
  refine on1_el (P := fun u2 => P ((.Compare l [o] u2 w1))) h2 fun r h3 => ?_
  exact k _ _ _ _ h3
theorem iX_ifx {cs : Scope} {ns : List PySem.Str} {q : ME} {a : ME} {b : ME} {tb : Bool} {P : Expr → Prop} {e : Expr} (hz : mX cs ns (.ifx q a b) tb e = true) (k : ∀ x y z w1, (!tb && mX cs ns q true x && mX cs ns a false y && mX cs ns b false z) = true → P (.IfExp x y z w1)) : P e := by
  refine onIfExp_el (P := fun e => P (e)) hz fun x y z w1 h1 => ?_
  exact k _ _ _ _ h1
theorem iX_idx {cs : Scope} {ns : List PySem.Str} {a : ME} {i : ME} {tb : Bool} {P : Expr → Prop} {e : Expr} (hz : mX cs ns (.idx a i) tb e = true) (k : ∀ x y w1, (mX cs ns a false x && mX cs ns i false y && noSlice y) = true → P (.Subscript x y w1)) : P e := by
  refine onSubscript_el (P := fun e => P (e)) hz fun x y w1 h1 => ?_
  exact k _ _ _ h1
theorem iX_sl {cs : Scope} {ns : List PySem.Str} {a : ME} {l : ME} {h : ME} {tb : Bool} {P : Expr → Prop} {e : Expr} (hz : mX cs ns (.sl a l h) tb e = true) (k : ∀ x w1 w2 y z, (mX cs ns a false x && mX cs ns l false y && mX cs ns h false z) = true → P (.Subscript x (.Slice (some y) (some z) none w2) w1)) : P e := by
  refine onSubscript_el (P := fun e => P (e)) hz fun x u1 w1 h1 => ?_
  refine onSlice_el (P := fun u1 => P ((.Subscript x u1 w1))) h1 fun u2 u3 u4 w2 h2 => ?_
  refine onSome_el (P := fun u2 => P ((.Subscript x (.Slice u2 u3 u4 w2) w1))) h2 fun y h3 => ?_
  refine onSome_el (P := fun u3 => P ((.Subscript x (.Slice (some y) u3 u4 w2) w1))) h3 fun z h4 => ?_
  refine onNone_el (P := fun u4 => P ((.Subscript x (.Slice (some y) (some z) u4 w2) w1))) h4 fun h5 => ?_
  exact k _ _ _ _ _ h5
theorem iX_slF {cs : Scope} {ns : List PySem.Str} {a : ME} {l : ME} {tb : Bool} {P : Expr → Prop} {e : Expr} (hz : mX cs ns (.slF a l) tb e = true) (k : ∀ x w1 w2 y, (mX cs ns a false x && mX cs ns l false y) = true → P (.Subscript x (.Slice (some y) none none w2) w1)) : P e := by
  refine onSubscript_el (P := fun e => P (e)) hz fun x u1 w1 h1 => ?_
  refine onSlice_el (P := fun u1 => P ((.Subscript x u1 w1))) h1 fun u2 u3 u4 w2 h2 => ?_
  refine onSome_el (P := fun u2 => P ((.Subscript x (.Slice u2 u3 u4 w2) w1))) h2 fun y h3 => ?_
  refine onNone_el (P := fun u3 => P ((.Subscript x (.Slice (some y) u3 u4 w2) w1))) h3 fun h4 => ?_
  refine onNone_el (P := fun u4 => P ((.Subscript x (.Slice (some y) none u4 w2) w1))) h4 fun h5 => ?_
  exact k _ _ _ _ h5
theorem iX_slT {cs : Scope} {ns : List PySem.Str} {a : ME} {h : ME} {tb : Bool} {P : Expr → Prop} {e : Expr} (hz : mX cs ns (.slT a h) tb e = true) (k : ∀ x w1 w2 z, (mX cs ns a false x && mX cs ns h false z) = true → P (.Subscript x (.Slice none (some z) none w2) w1)) : P e := by
  refine onSubscript_el (P := fun e => P (e)) hz fun x u1 w1 h1 => ?_
  refine onSlice_el (P := fun u1 => P ((.Subscript x u1 w1))) h1 fun u2 u3 u4 w2 h2 => ?_
  refine onNone_el (P := fun u2 => P ((.Subscript x (.Slice u2 u3 u4 w2) w1))) h2 fun h3 => ?_
  refine onSome_el (P := fun u3 => P ((.Subscript x (.Slice none u3 u4 w2) w1))) h3 fun z h4 => ?_
  refine onNone_el (P := fun u4 => P ((.Subscript x (.Slice none (some z) u4 w2) w1))) h4 fun h5 => ?_
  exact k _ _ _ _ h5
theorem iX_rev {cs : Scope} {ns : List PySem.Str} {a : ME} {tb : Bool} {P : Expr → Prop} {e : Expr} (hz : mX cs ns (.rev a) tb e = true) (k : ∀ x w1 w2 o w3 w4 w5 i, ((o == .USub) && i == 1 && mX cs ns a false x && !isV a) = true → P (.Subscript x (.Slice none none (some (.UnaryOp o (.Constant (.int i) w4 w5) w3)) w2) w1)) : P e := by
  refine onSubscript_el (P := fun e => P (e)) hz fun x u1 w1 h1 => ?_
  refine onSlice_el (P := fun u1 => P ((.Subscript x u1 w1))) h1 fun u2 u3 u4 w2 h2 => ?_
  refine onNone_el (P := fun u2 => P ((.Subscript x (.Slice u2 u3 u4 w2) w1))) h2 fun h3 => ?_
  refine onNone_el (P := fun u3 => P ((.Subscript x (.Slice none u3 u4 w2) w1))) h3 fun h4 => ?_
  refine onSome_el (P := fun u4 => P ((.Subscript x (.Slice none none u4 w2) w1))) h4 fun u5 h5 => ?_
  refine onUnaryOp_el (P := fun u5 => P ((.Subscript x (.Slice none none (some u5) w2) w1))) h5 fun o u6 w3 h6 => ?_
  refine onConstant_el (P := fun u6 => P ((.Subscript x (.Slice none none (some (.UnaryOp o u6 w3)) w2) w1))) h6 fun u7 w4 w5 h7 => ?_
  refine onCInt_el (P := fun u7 => P ((.Subscript x (.Slice none none (some (.UnaryOp o (.Constant u7 w4 w5) w3)) w2) w1))) h7 fun i h8 => ?_
  exact k _ _ _ _ _ _ _ _ h8
theorem iX_call {cs : Scope} {ns : List PySem.Str} {f : Nat} {es : MEs} {tb : Bool} {P : Expr → Prop} {e : Expr} (hz : mX cs ns (.call f es) tb e = true) (k : ∀ xs w1 g w2, (isGlo cs g && decide (f < 71) && fnName f == g && mXs cs ns es false xs && xs.all noStar) = true → P (.Call (.Name g w2) xs [] w1)) : P e := by
  refine onCall_el (P := fun e => P (e)) hz fun u1 xs u2 w1 h1 => ?_
  refine onName_el (P := fun u1 => P ((.Call u1 xs u2 w1))) h1 fun g w2 h2 => ?_
  refine on0_el (P := fun u2 => P ((.Call (.Name g w2) xs u2 w1))) h2 fun h3 => ?_
  exact k _ _ _ _ h3
theorem iX_lenV {cs : Scope} {ns : List PySem.Str} {i : Nat} {tb : Bool} {P : Expr → Prop} {e : Expr} (hz : mX cs ns (.lenV i) tb e = true) (k : ∀ w1 g w2 x w3, (isGlo cs g && g == ("len" : PySem.Str) && isLoc cs ns i x) = true → P (.Call (.Name g w2) [(.Name x w3)] [] w1)) : P e := by
  refine onCall_el (P := fun e => P (e)) hz fun u1 u2 u3 w1 h1 => ?_
  refine onName_el (P := fun u1 => P ((.Call u1 u2 u3 w1))) h1 fun g w2 h2 => ?_
  refine on1_el (P := fun u2 => P ((.Call (.Name g w2) u2 u3 w1))) h2 fun u4 h3 => ?_
  refine onName_el (P := fun u4 => P ((.Call (.Name g w2) [u4] u3 w1))) h3 fun x w3 h4 => ?_
  refine on0_el (P := fun u3 => P ((.Call (.Name g w2) [(.Name x w3)] u3 w1))) h4 fun h5 => ?_
  exact k _ _ _ _ _ h5
theorem iX_joinV {cs : Scope} {ns : List PySem.Str} {a : ME} {i : Nat} {tb : Bool} {P : Expr → Prop} {e : Expr} (hz : mX cs ns (.joinV a i) tb e = true) (k : ∀ pos o n ap x w1, (n == ("join" : PySem.Str) && mX cs ns a false o && (isName o || isConst o) && (ap.endLine == pos.line) && isLoc cs ns i x) = true → P (.Call (.Attribute o n ap) [(.Name x w1)] [] pos)) : P e := by
  refine onCall_el (P := fun e => P (e)) hz fun u1 u2 u3 pos h1 => ?_
  refine onAttribute_el (P := fun u1 => P ((.Call u1 u2 u3 pos))) h1 fun o n ap h2 => ?_
  refine on1_el (P := fun u2 => P ((.Call (.Attribute o n ap) u2 u3 pos))) h2 fun u4 h3 => ?_
  refine onName_el (P := fun u4 => P ((.Call (.Attribute o n ap) [u4] u3 pos))) h3 fun x w1 h4 => ?_
  refine on0_el (P := fun u3 => P ((.Call (.Attribute o n ap) [(.Name x w1)] u3 pos))) h4 fun h5 => ?_
  exact k _ _ _ _ _ _ h5
theorem iX_penGet {cs : Scope} {ns : List PySem.Str} {i : Nat} {tb : Bool} {P : Expr → Prop} {e : Expr} (hz : mX cs ns (.penGet i) tb e = true) (k : ∀ w1 x w2 w3 w4 j, (j == 0 && isLoc cs ns i x) = true → P (.Subscript (.Name x w2) (.Constant (.int j) w3 w4) w1)) : P e := by
  refine onSubscript_el (P := fun e => P (e)) hz fun u1 u2 w1 h1 => ?_
  refine onName_el (P := fun u1 => P ((.Subscript u1 u2 w1))) h1 fun x w2 h2 => ?_
  refine onConstant_el (P := fun u2 => P ((.Subscript (.Name x w2) u2 w1))) h2 fun u3 w3 w4 h3 => ?_
  refine onCInt_el (P := fun u3 => P ((.Subscript (.Name x w2) (.Constant u3 w3 w4) w1))) h3 fun j h4 => ?_
  exact k _ _ _ _ _ _ h4
theorem iX_len {cs : Scope} {ns : List PySem.Str} {a : ME} {tb : Bool} {P : Expr → Prop} {e : Expr} (hz : mX cs ns (.len a) tb e = true) (k : ∀ w1 g w2 x, (isGlo cs g && g == ("len" : PySem.Str) && mX cs ns a false x && noStar x) = true → P (.Call (.Name g w2) [x] [] w1)) : P e := by
  refine onCall_el (P := fun e => P (e)) hz fun u1 u2 u3 w1 h1 => ?_
  refine onName_el (P := fun u1 => P ((.Call u1 u2 u3 w1))) h1 fun g w2 h2 => ?_
  refine on1_el (P := fun u2 => P ((.Call (.Name g w2) u2 u3 w1))) h2 fun x h3 => ?_
  refine on0_el (P := fun u3 => P ((.Call (.Name g w2) [x] u3 w1))) h3 fun h4 => ?_
  exact k _ _ _ _ h4
theorem iX_max {cs : Scope} {ns : List PySem.Str} {a : ME} {b : ME} {tb : Bool} {P : Expr → Prop} {e : Expr} (hz : mX cs ns (.max a b) tb e = true) (k : ∀ w1 g w2 x y, (isGlo cs g && g == ("max" : PySem.Str) && mX cs ns a false x && noStar x && mX cs ns b false y && noStar y) = true → P (.Call (.Name g w2) [x, y] [] w1)) : P e := by
  refine onCall_el (P := fun e => P (e)) hz fun u1 u2 u3 w1 h1 => ?_
  refine onName_el (P := fun u1 => P ((.Call u1 u2 u3 w1))) h1 fun g w2 h2 => ?_
  refine on2_el (P := fun u2 => P ((.Call (.Name g w2) u2 u3 w1))) h2 fun x y h3 => ?_
  refine on0_el (P := fun u3 => P ((.Call (.Name g w2) [x, y] u3 w1))) h3 fun h4 => ?_
  exact k _ _ _ _ _ h4
theorem iX_min {cs : Scope} {ns : List PySem.Str} {a : ME} {b : ME} {tb : Bool} {P : Expr → Prop} {e : Expr} (hz : mX cs ns (.min a b) tb e = true) (k : ∀ w1 g w2 x y, (isGlo cs g && g == ("min" : PySem.Str) && mX cs ns a false x && noStar x && mX cs ns b false y && noStar y) = true → P (.Call (.Name g w2) [x, y] [] w1)) : P e := by
  refine onCall_el (P := fun e => P (e)) hz fun u1 u2 u3 w1 h1 => ?_
  refine onName_el (P := fun u1 => P ((.Call u1 u2 u3 w1))) h1 fun g w2 h2 => ?_
  refine on2_el (P := fun u2 => P ((.Call (.Name g w2) u2 u3 w1))) h2 fun x y h3 => ?_
  refine on0_el (P := fun u3 => P ((.Call (.Name g w2) [x, y] u3 w1))) h3 fun h4 => ?_
  exact k _ _ _ _ _ h4
theorem iX_str {cs : Scope} {ns : List PySem.Str} {a : ME} {tb : Bool} {P : Expr → Prop} {e : Expr} (hz : mX cs ns (.str a) tb e = true) (k : ∀ w1 g w2 x, (isGlo cs g && g == ("str" : PySem.Str) && mX cs ns a false x && noStar x) = true → P (.Call (.Name g w2) [x] [] w1)) : P e := by
  refine onCall_el (P := fun e => P (e)) hz fun u1 u2 u3 w1 h1 => ?_
  refine onName_el (P := fun u1 => P ((.Call u1 u2 u3 w1))) h1 fun g w2 h2 => ?_
  refine on1_el (P := fun u2 => P ((.Call (.Name g w2) u2 u3 w1))) h2 fun x h3 => ?_
  refine on0_el (P := fun u3 => P ((.Call (.Name g w2) [x] u3 w1))) h3 fun h4 => ?_
  exact k _ _ _ _ h4
theorem iX_signs {cs : Scope} {ns : List PySem.Str} {a : ME} {tb : Bool} {P : Expr → Prop} {e : Expr} (hz : mX cs ns (.signs a) tb e = true) (k : ∀ w1 g w2 x, (isGlo cs g && g == ("list" : PySem.Str) && mX cs ns a false x && noStar x) = true → P (.Call (.Name g w2) [x] [] w1)) : P e := by
  refine onCall_el (P := fun e => P (e)) hz fun u1 u2 u3 w1 h1 => ?_
  refine onName_el (P := fun u1 => P ((.Call u1 u2 u3 w1))) h1 fun g w2 h2 => ?_
  refine on1_el (P := fun u2 => P ((.Call (.Name g w2) u2 u3 w1))) h2 fun x h3 => ?_
  refine on0_el (P := fun u3 => P ((.Call (.Name g w2) [x] u3 w1))) h3 fun h4 => ?_
  exact k _ _ _ _ h4
theorem iX_ord {cs : Scope} {ns : List PySem.Str} {a : ME} {tb : Bool} {P : Expr → Prop} {e : Expr} (hz : mX cs ns (.ord a) tb e = true) (k : ∀ w1 g w2 x, (isGlo cs g && g == ("ord" : PySem.Str) && mX cs ns a false x && noStar x) = true → P (.Call (.Name g w2) [x] [] w1)) : P e := by
  refine onCall_el (P := fun e => P (e)) hz fun u1 u2 u3 w1 h1 => ?_
  refine onName_el (P := fun u1 => P ((.Call u1 u2 u3 w1))) h1 fun g w2 h2 => ?_
  refine on1_el (P := fun u2 => P ((.Call (.Name g w2) u2 u3 w1))) h2 fun x h3 => ?_
  refine on0_el (P := fun u3 => P ((.Call (.Name g w2) [x] u3 w1))) h3 fun h4 => ?_
  exact k _ _ _ _ h4
theorem iX_join {cs : Scope} {ns : List PySem.Str} {a : ME} {b : ME} {tb : Bool} {P : Expr → Prop} {e : Expr} (hz : mX cs ns (.join a b) tb e = true) (k : ∀ pos o n ap x, (n == ("join" : PySem.Str) && mX cs ns a false o && (isName o || isConst o) && (ap.endLine == pos.line) && mX cs ns b false x && noStar x) = true → P (.Call (.Attribute o n ap) [x] [] pos)) : P e := by
  refine onCall_el (P := fun e => P (e)) hz fun u1 u2 u3 pos h1 => ?_
  refine onAttribute_el (P := fun u1 => P ((.Call u1 u2 u3 pos))) h1 fun o n ap h2 => ?_
  refine on1_el (P := fun u2 => P ((.Call (.Attribute o n ap) u2 u3 pos))) h2 fun x h3 => ?_
  refine on0_el (P := fun u3 => P ((.Call (.Attribute o n ap) [x] u3 pos))) h3 fun h4 => ?_
  exact k _ _ _ _ _ h4
theorem iX_find {cs : Scope} {ns : List PySem.Str} {a : ME} {b : ME} {tb : Bool} {P : Expr → Prop} {e : Expr} (hz : mX cs ns (.find a b) tb e = true) (k : ∀ pos o n ap x, (n == ("find" : PySem.Str) && mX cs ns a false o && (isName o || isConst o) && (ap.endLine == pos.line) && mX cs ns b false x && noStar x) = true → P (.Call (.Attribute o n ap) [x] [] pos)) : P e := by
  refine onCall_el (P := fun e => P (e)) hz fun u1 u2 u3 pos h1 => ?_
  refine onAttribute_el (P := fun u1 => P ((.Call u1 u2 u3 pos))) h1 fun o n ap h2 => ?_
  refine on1_el (P := fun u2 => P ((.Call (.Attribute o n ap) u2 u3 pos))) h2 fun x h3 => ?_
  refine on0_el (P := fun u3 => P ((.Call (.Attribute o n ap) [x] u3 pos))) h3 fun h4 => ?_
  exact k _ _ _ _ _ h4
theorem iX_rfind {cs : Scope} {ns : List PySem.Str} {a : ME} {b : ME} {tb : Bool} {P : Expr → Prop} {e : Expr} (hz : mX cs ns (.rfind a b) tb e = true) (k : ∀ pos o n ap x, (n == ("rfind" : PySem.Str) && mX cs ns a false o && (isName o || isConst o) && (ap.endLine == pos.line) && mX cs ns b false x && noStar x) = true → P (.Call (.Attribute o n ap) [x] [] pos)) : P e := by
  refine onCall_el (P := fun e => P (e)) hz fun u1 u2 u3 pos h1 => ?_
  refine onAttribute_el (P := fun u1 => P ((.Call u1 u2 u3 pos))) h1 fun o n ap h2 => ?_
  refine on1_el (P := fun u2 => P ((.Call (.Attribute o n ap) u2 u3 pos))) h2 fun x h3 => ?_
  refine on0_el (P := fun u3 => P ((.Call (.Attribute o n ap) [x] u3 pos))) h3 fun h4 => ?_
  exact k _ _ _ _ _ h4
theorem iX_starts {cs : Scope} {ns : List PySem.Str} {a : ME} {b : ME} {tb : Bool} {P : Expr → Prop} {e : Expr} (hz : mX cs ns (.starts a b) tb e = true) (k : ∀ pos o n ap x, (n == ("startswith" : PySem.Str) && mX cs ns a false o && (isName o || isConst o) && (ap.endLine == pos.line) && mX cs ns b false x && noStar x) = true → P (.Call (.Attribute o n ap) [x] [] pos)) : P e := by
  refine onCall_el (P := fun e => P (e)) hz fun u1 u2 u3 pos h1 => ?_
  refine onAttribute_el (P := fun u1 => P ((.Call u1 u2 u3 pos))) h1 fun o n ap h2 => ?_
  refine on1_el (P := fun u2 => P ((.Call (.Attribute o n ap) u2 u3 pos))) h2 fun x h3 => ?_
  refine on0_el (P := fun u3 => P ((.Call (.Attribute o n ap) [x] u3 pos))) h3 fun h4 => ?_
  exact k _ _ _ _ _ h4
theorem iX_ends {cs : Scope} {ns : List PySem.Str} {a : ME} {b : ME} {tb : Bool} {P : Expr → Prop} {e : Expr} (hz : mX cs ns (.ends a b) tb e = true) (k : ∀ pos o n ap x, (n == ("endswith" : PySem.Str) && mX cs ns a false o && (isName o || isConst o) && (ap.endLine == pos.line) && mX cs ns b false x && noStar x) = true → P (.Call (.Attribute o n ap) [x] [] pos)) : P e := by
  refine onCall_el (P := fun e => P (e)) hz fun u1 u2 u3 pos h1 => ?_
  refine onAttribute_el (P := fun u1 => P ((.Call u1 u2 u3 pos))) h1 fun o n ap h2 => ?_
  refine on1_el (P := fun u2 => P ((.Call (.Attribute o n ap) u2 u3 pos))) h2 fun x h3 => ?_
  refine on0_el (P := fun u3 => P ((.Call (.Attribute o n ap) [x] u3 pos))) h3 fun h4 => ?_
  exact k _ _ _ _ _ h4
theorem iX_index {cs : Scope} {ns : List PySem.Str} {a : ME} {b : ME} {tb : Bool} {P : Expr → Prop} {e : Expr} (hz : mX cs ns (.index a b) tb e = true) (k : ∀ pos o n ap x, (n == ("index" : PySem.Str) && mX cs ns a false o && (isName o || isConst o) && (ap.endLine == pos.line) && mX cs ns b false x && noStar x) = true → P (.Call (.Attribute o n ap) [x] [] pos)) : P e := by
  refine onCall_el (P := fun e => P (e)) hz fun u1 u2 u3 pos h1 => ?_
  refine onAttribute_el (P := fun u1 => P ((.Call u1 u2 u3 pos))) h1 fun o n ap h2 => ?_
  refine on1_el (P := fun u2 => P ((.Call (.Attribute o n ap) u2 u3 pos))) h2 fun x h3 => ?_
  refine on0_el (P := fun u3 => P ((.Call (.Attribute o n ap) [x] u3 pos))) h3 fun h4 => ?_
  exact k _ _ _ _ _ h4
end Lr
end
section
open PySem PySem.W PyProof.Rows PySem.SeqAt PySem.Calls
set_option maxRecDepth 100000
namespace Lr
noncomputable def BdOk (ap : Option Addr) (led : Led) (h : Heap) (sz : Nat) (val : Value) : Bd → Prop
  | .val v => Rep ap led val v
  | .own l => ∃ a vs, val = .ref a ∧ OwnIs h a vs ∧ sz ≤ a ∧ (∀ q ∈ led, q.1 ≠ a) ∧ RepL ap led vs l
noncomputable def CallOk (S : Site) (n : Nat) (f : Nat) (args : List V) (p : Int) (o : Res Bd × Int) : Prop :=
  ∀ (envs : List Env) (A : Around) (s : Shared) (led : Led) (vs : List Value) (Q : Value → Shared → Prop) (E : Value → Shared → Prop),
    A.frames = some envs → A.handled = none → A.guards = some [] → A.depth + 10 * n + 100 < recursionLimit → A.units + 10 * n + 300 < cLine → S.base.objs.size ≤ s.heap.objs.size →
    Hp S envs p s.heap → (∀ q ∈ led, SatE s.heap q) → (∀ q ∈ led, q.1 ≠ S.ap) → RepL S.rp led vs args →
    (∀ b q, o = (.ok b, q) → ∀ h' tk led' val, Kp [S.ap] s.heap h' → Hp S envs q h' → (∀ q ∈ led', SatE h' q) → (∀ q ∈ led, q ∈ led') → (∀ q ∈ led', q ∈ led ∨ s.heap.objs.size ≤ q.1) →
      BdOk S.rp led' h' s.heap.objs.size val b → Q val { s with heap := h', toks := tk }) →
    (∀ x q, o = (.exn x, q) → ∀ e d h' tk led', Kp [S.ap] s.heap h' → FlD S envs s.heap.objs.size e d (some .none) h' → (PenAt S q h') → ExcD S.rp led' h' d x → (∀ q ∈ led', SatE h' q) →
      (∀ q ∈ led', q ∈ led ∨ s.heap.objs.size ≤ q.1) → E (.ref e) { s with heap := h', toks := tk }) →
    wpAny (model pw S.w) A (call (.ref (fnAddr f)) vs) Q E s
section
variable {S : Site} {c : Act} {n : Nat} {ns : List PySem.Str} {ρ : Fm} {p : Int} {m : Names} {own : Own} {led : Led} {s : Shared} {E : Value → Shared → Prop}
theorem OkK.up {v : V} {Q : Value → Shared → Prop} (hk : OkK S c ns ρ p m own led s v Q) {led' : Led} (sub : ∀ q ∈ led, q ∈ led') {h' : Heap} {tk : Nat} : OkK S c ns ρ p m own led' { s with heap := h', toks := tk } v Q :=
  fun h t l val R s' r => hk h t l val R (fun q hq => s' q (sub q hq)) r
theorem kindL {x : PySem.Str} (h : c.cs.names.lookup x = some .local) : c.env.kindOf x = some .local := h
theorem nameOk (X : Cx S c (n + 1)) {i : Nat} {x : PySem.Str} {pos : Pos} (hx : isLoc c.cs ns i x = true) (R : Sd S c ns ρ p m own led s.heap) {v : V} (e : get ρ i = some (.val v)) {Q : Value → Shared → Prop}
    (hk : ∀ val, Rep S.rp led val v → Q val s) : wpAny (model pw S.w) c.A (eval (.Name x pos) c.env) Q E s := by
  unfold isLoc okName at hx
  simp only [Bool.and_eq_true, beq_iff_eq, Bool.not_eq_true'] at hx
  obtain ⟨⟨h1, h2⟩, h3, h4⟩ := hx
  obtain ⟨nm, val, g1, g2, g3⟩ := R.vals i v e
  rw [h1] at g1; cases g1
  exact wpAny_Name (wpAny_loadName_local X.k.fn h2 R.nsL g2 (hk val g3)) h3
theorem ownOk (X : Cx S c (n + 1)) {i : Nat} {x : PySem.Str} {pos : Pos} (hx : isLoc c.cs ns i x = true) (R : Sd S c ns ρ p m own led s.heap) {l : List V} (e : get ρ i = some (.own l)) {Q : Value → Shared → Prop}
    (hk : ∀ a vs, (i, a, vs) ∈ own → RepL S.rp led vs l → Q (.ref a) s) : wpAny (model pw S.w) c.A (eval (.Name x pos) c.env) Q E s := by
  unfold isLoc okName at hx
  simp only [Bool.and_eq_true, beq_iff_eq, Bool.not_eq_true'] at hx
  obtain ⟨⟨h1, h2⟩, h3, h4⟩ := hx
  obtain ⟨nm, a, vs, g1, g2, g3, g4⟩ := R.owns i l e
  rw [h1] at g1; cases g1
  exact wpAny_Name (wpAny_loadName_local X.k.fn h2 R.nsL g2 (hk a vs g3 g4)) h3
theorem constOk {k : V} {q : Const} (hx : mC k q = true) {kd : Nat} {pos : Pos} (R : Sd S c ns ρ p m own led s.heap) {Q : Value → Shared → Prop} (hk : ∀ val tk, Rep S.rp led val k → Q val { s with toks := tk }) :
    wpAny (model pw S.w) c.A (eval (.Constant q kd pos) c.env) Q E s := by
  cases k <;> cases q <;> first | exact absurd hx Bool.false_ne_true | skip
  · exact wpAny_Constant_none (hk _ s.toks .none)
  · have hx := eq_of_beq (α := Bool) hx
    subst hx; exact wpAny_Constant_bool (hk _ s.toks (.bool _))
  · have hx := eq_of_beq (α := Int) hx
    subst hx; exact wpAny_Constant_int (hk _ _ (.int _ _))
  · have hx := eq_of_beq (α := List Nat) hx
    exact wpAny_Constant_str (hk _ _ (.strOf hx.symm))
theorem gnameOk (X : Cx S c (n + 1)) {x : PySem.Str} {pos : Pos} (hx : isGlo c.cs x = true) (R : Sd S c ns ρ p m own led s.heap) {v : Value} (e : S.mg x = some v) {Q : Value → Shared → Prop} (hk : Q v s) :
    wpAny (model pw S.w) c.A (eval (.Name x pos) c.env) Q E s := by
  unfold isGlo okName at hx
  simp only [Bool.and_eq_true, beq_iff_eq, Bool.not_eq_true'] at hx
  obtain ⟨h2, h3, h4⟩ := hx
  exact Name_function_global X.k.fn h2 (loadGlobal_global (X.so.gd.top.g.keeps R.hp.stays) e hk) h3
theorem bnameOk (X : Cx S c (n + 1)) {x : PySem.Str} {pos : Pos} (hx : isGlo c.cs x = true) (hb : x ∈ bltNames) (R : Sd S c ns ρ p m own led s.heap) {v : Value} (e : bootBuiltins x = some v) {Q : Value → Shared → Prop} (hk : Q v s) :
    wpAny (model pw S.w) c.A (eval (.Name x pos) c.env) Q E s := by
  unfold isGlo okName at hx
  simp only [Bool.and_eq_true, beq_iff_eq, Bool.not_eq_true'] at hx
  obtain ⟨h2, h3, h4⟩ := hx
  refine Name_function_global X.k.fn h2 (loadGlobal_builtin (X.so.gd.top.g.keeps R.hp.stays) (X.so.gd.blt hb) (X.so.gd.top.b.keeps R.hp.stays) ?_ hk) h3
  rw [X.so.gd.top.builtins x (by intro q; rw [q] at h4; revert h4; decide)]
  exact e
theorem constsOk : ∀ {ks : List V} {xs : List Expr} {s : Shared} {led : Led} {pos : Pos}, mKs ks xs = true → Sd S c ns ρ p m own led s.heap → ∀ {Q : List Value → Shared → Prop}, (∀ vs tk, RepL S.rp led vs ks → Q vs { s with toks := tk }) →
    wpAny (model pw S.w) c.A (spliced (backTo pos (starEach xs c.env))) Q E s
  | [], [], s, led, pos, _, R, Q, hk => wpAny_items_nil (hk [] s.toks .nil)
  | [], _ :: _, _, _, _, h, _, _, _ => absurd h Bool.false_ne_true
  | _ :: _, [], _, _, _, h, _, _, _ => absurd h Bool.false_ne_true
  | k :: ks, x :: xs, s, led, pos, h, R, Q, hk => by
    cases x <;> first | exact absurd h Bool.false_ne_true | skip
    rename_i q kd ps
    have h' : (mC k q && mKs ks xs) = true := h
    rw [Bool.and_eq_true] at h'
    exact wpAny_items_cons (constOk h'.1 R fun val tk r => constsOk (s := { s with toks := tk }) h'.2 R fun vs tk' rs => hk (val :: vs) tk' (.cons r rs)) (star_cons (x := .Constant q kd ps) rfl _ _)
theorem mKs_len : ∀ {ks : List V} {xs : List Expr}, mKs ks xs = true → xs.length = ks.length
  | [], [], _ => rfl
  | [], _ :: _, h => absurd h Bool.false_ne_true
  | _ :: _, [], h => absurd h Bool.false_ne_true
  | k :: ks, x :: xs, h => by
    cases x <;> first | exact absurd h Bool.false_ne_true | skip
    rename_i q kd ps
    have h' : (mC k q && mKs ks xs) = true := h
    rw [Bool.and_eq_true] at h'
    rw [List.length_cons, List.length_cons, mKs_len h'.2]
theorem tupleOk (X : Cx S c n) (R : Sd S c ns ρ p m own led s.heap) {vs : List Value} {l : List V} (h : RepL S.rp led vs l) (hl : l.length ≤ lid) {Q : Value → Shared → Prop} (hk : OkK S c ns ρ p m own led s (.tup l) Q) : wpAny (model pw S.w) c.A (newTuple vs) Q E s :=
  wpAny_newObj_type (hk _ s.toks _ _ (R.pushNew X (t := true) rfl rfl) (fun _ h => .tail _ h) (.tup (.head _) (h.mono fun _ h => .tail _ h))) (by show vs.toArray.size ≤ sizeLine; rw [List.size_toArray, h.length]; exact lid_ok hl)
theorem listOk (X : Cx S c n) (R : Sd S c ns ρ p m own led s.heap) {vs : List Value} {l : List V} (h : RepL S.rp led vs l) (hl : l.length ≤ lid) {Q : Value → Shared → Prop} (hk : OkK S c ns ρ p m own led s (.list l) Q) : wpAny (model pw S.w) c.A (newList vs) Q E s :=
  wpAny_newObj_type (hk _ s.toks _ _ (R.pushNew X (t := false) rfl rfl) (fun _ h => .tail _ h) (.list (.head _) (h.mono fun _ h => .tail _ h))) (by show vs.toArray.size ≤ sizeLine; rw [List.size_toArray, h.length]; exact lid_ok hl)
theorem filterMap_eq {α β : Type} {f g : α → Option β} : ∀ {l : List α}, (∀ a ∈ l, f a = g a) → l.filterMap f = l.filterMap g
  | [], _ => rfl
  | a :: l, h => by rw [List.filterMap_cons, List.filterMap_cons, h a (.head _), filterMap_eq fun b hb => h b (.tail _ hb)]
theorem rev_pick {α : Type} (l : List α) : (sliceRange ((l.length : Int) - 1) (-1) (-1)).filterMap (fun k => l[k]?) = l.reverse := by
  unfold sliceRange
  simp only [gt_iff_lt, show ¬ (0 : Int) < -1 by omega, if_false]
  rw [List.filterMap_map]
  have h1 : ((if -1 < (l.length : Int) - 1 then ((l.length : Int) - 1 - -1 - -1 - 1) / (- -1) else 0 : Int)).toNat = l.length := by
    rw [show (- -1 : Int) = 1 from rfl, Int.ediv_one]
    split <;> omega
  rw [h1]
  have h2 : (List.range l.length).filterMap ((fun k => l[k]?) ∘ fun (k : Nat) => ((l.length : Int) - 1 + -1 * (k : Int)).toNat) = (List.range l.length).filterMap fun k => l.reverse[k]? := by
    apply filterMap_eq
    intro k hk
    rw [List.mem_range] at hk
    simp only [Function.comp_apply]
    rw [List.getElem?_reverse hk]
    congr 1
    omega
  rw [h2]
  have h3 := pick_aux l.reverse 0 l.length (by simp)
  simp only [Nat.zero_add, List.drop_zero] at h3
  rw [h3]
  exact List.take_of_length_le (by simp)
theorem revOk (X : Cx S c n) (R : Sd S c ns ρ p m own led s.heap) {value st : Expr} {pp : Pos} {o : Value} {l : List Nat} {t : Tok} (h1 : Rep S.rp led o (.str l)) (hl : l.length ≤ lid) {Q : Value → Shared → Prop} (hk : OkK S c ns ρ p m own led s (.str l.reverse) Q) :
    wpAny (model pw S.w) c.A (subscriptTail value (.Slice none none (some st) pp) o (.ref s.heap.objs.size)) Q E { s with heap := s.heap.push { cls := .type "slice", data := .fields #[.none, .none, .int (-1) t] } } := by
  cases h1 with | str z tz =>
  refine subscriptTail_builtin (typeIs_str _ z tz) F.slot_str_getitem.lookup (wpAny_getItem_str_slice (l := none) (u := none) (st := some (-1, t)) ⟨_, Heap.get?_push_size _ rfl, rfl, rfl⟩ rfl ?_) rfl (letgo_str _ _ _)
  unfold sliceMade
  simp only [Option.map_some, Option.getD_some]
  rw [if_neg (by simp)]
  have e1 : ((slicePicked z none none (some (-1, t))).filterMap (z.cps[·]?)) = z.cps.toList.reverse := by
    unfold slicePicked Builtin.Str.strSliceIndices
    simp only [Option.map_none, Option.map_some, Option.getD_some, gt_iff_lt, show ¬ (0 : Int) < -1 by omega, if_false]
    have := rev_pick z.cps.toList
    rw [← str_len] at this
    rw [← this]
    simp
  rw [e1]
  exact ⟨by show z.cps.toList.reverse.toArray.size ≤ _; simp only [List.size_toArray, List.length_reverse]; exact lid_ok hl, hk _ _ _ _ (R.push X _) (fun _ h => h) (.strOf (by simp))⟩
end
end Lr
end
section
open PySem PySem.W PyProof.Rows PySem.SeqAt PySem.Calls
set_option maxRecDepth 100000
set_option maxHeartbeats 8000000
namespace Lr
theorem get_val {ρ : Fm} {i : Nat} {v : V} (h : (match get ρ i with | some (.val v) => some v | _ => none) = some v) : get ρ i = some (.val v) := by
  split at h
  · rename_i e; cases h; exact e
  · cases h
theorem get_ownL {ρ : Fm} {i : Nat} {r : V} {f : List V → Option V} (h : (match get ρ i with | some (.own l) => f l | _ => none) = some r) : ∃ l, get ρ i = some (.own l) ∧ f l = some r := by
  split at h
  · rename_i e; exact ⟨_, e, h⟩
  · cases h
theorem bnd_assoc {α β γ : Type} (m : M α) (f : α → M β) (g : β → M γ) : bnd (bnd m f) g = bnd m fun x => bnd (f x) g := by
  funext p
  unfold bnd
  cases m p with
  | none => rfl
  | some z => obtain ⟨r, q⟩ := z; cases r <;> rfl
theorem bnd_ret {α β : Type} (a : α) (f : α → M β) : bnd (ret a) f = f a := rfl
theorem bnd_liftB (o : Option Bool) : bnd (lift (o.map V.bool)) (fun x => lift (asBool x)) = lift o := by
  funext p
  cases o <;> rfl
theorem cond_of {C : Nat → List V → M Bd} {ρ : Fm} {e : ME} {p : Int} {o : Res Bool × Int} (h : cond C ρ e p = some o) : bnd (ev C ρ e) (fun x => lift (asBool x)) p = some o := h
noncomputable def vNone : V → Bool
  | .none => true
  | _ => false
theorem rep_isNone {ap : Option Addr} {led : Led} {val : Value} {v : V} (r : Rep ap led val v) : (val == Value.none) = vNone v := by
  cases r <;> rfl
theorem get_isNone {ρ : Fm} {i : Nat} {r : V} (h : (match get ρ i with | some (.val .none) => some (V.bool true) | some (.val _) => some (V.bool false) | _ => none) = some r) : ∃ v, get ρ i = some (.val v) ∧ r = .bool (vNone v != false) := by
  cases g : get ρ i with
  | none => rw [g] at h; cases h
  | some b =>
    rw [g] at h
    cases b with
    | own l => cases h
    | val v => cases v <;> cases h <;> exact ⟨_, rfl, rfl⟩
theorem get_notNone {ρ : Fm} {i : Nat} {r : V} (h : (match get ρ i with | some (.val .none) => some (V.bool false) | some (.val _) => some (V.bool true) | _ => none) = some r) : ∃ v, get ρ i = some (.val v) ∧ r = .bool (vNone v != true) := by
  cases g : get ρ i with
  | none => rw [g] at h; cases h
  | some b =>
    rw [g] at h
    cases b with
    | own l => cases h
    | val v => cases v <;> cases h <;> exact ⟨_, rfl, rfl⟩
theorem nb_false {o : CmpOp} {r : Expr} (h : noSet r = true) : behindInMarks o r = false := by
  cases r <;> first | exact absurd h Bool.false_ne_true | rfl
theorem bnd_lift {α β : Type} {a : Option α} {f : α → M β} {p : Int} {o : Res β × Int} (h : bnd (lift a) f p = some o) : ∃ v, a = some v ∧ f v p = some o := by
  rcases bnd_some h with ⟨v, q, e1, e2⟩ | ⟨x, q, e1, e2⟩
  · obtain ⟨r, e3, e4⟩ := lift_some e1
    cases e4
    exact ⟨_, e3, e2⟩
  · obtain ⟨r, e3, e4⟩ := lift_some e1
    cases e4
theorem str_of {ap : Option Addr} {led : Led} {va : Value} {u : V} {β : Type} {f : List Nat → M β} {p : Int} {o : Res β × Int} (ra : Rep ap led va u) (h : bnd (lift (asStr u)) f p = some o) :
    ∃ z t l, va = .str z t ∧ u = .str l ∧ Rep ap led (.str z t) (.str l) ∧ f l p = some o := by
  obtain ⟨l, e1, e2⟩ := bnd_lift h
  cases u <;> simp only [asStr, reduceCtorEq, Option.some.injEq] at e1
  subst e1
  cases ra
  exact ⟨_, _, _, rfl, rfl, .str _ _, e2⟩
theorem isTrue_cmp {M : Model} {A : Around} {E : Value → Shared → Prop} {s : Shared} {env : Env} {l r : Expr} {op : CmpOp} {pos : Pos} {Q : Bool → Shared → Prop} (hb : behindInMarks op r = false)
    (h : wpAny M A (eval (.Compare l [op] [r] pos) env) (fun v s₁ => wpAny M A (truthy v) Q E s₁) E s) : wpAny M A (isTrue (.Compare l [op] [r] pos) env (eval (.Compare l [op] [r] pos) env)) Q E s := by
  intro Γ p hΓ
  have h := h Γ p hΓ
  rw [eval_Compare1, markedBehindIn_of_false hb] at h
  rw [isTrue_Compare1, markedBehindIn_of_false hb]
  simp only [Sem.wp_bind', Sem.wp_pure', Sem.wp_holding, Sem.wp_operate] at h ⊢
  exact Sem.wp_mono _ _ _ (fun a p1 s1 h1 => Sem.wp_mono _ _ _ (fun b p2 s2 h2 => Sem.wp_mono _ _ _ (fun _ p3 s3 h3 => Sem.wp_mono _ _ _ (fun v p4 s4 h4 => h4 Γ p4 hΓ) (fun _ _ _ h => h) _ _ h3) (fun _ _ _ h => h) _ _ h2) (fun _ _ _ h => h) _ _ h1) (fun _ _ _ h => h) _ _ h
theorem testChain2 {M : Model} {A : Around} {E : Value → Shared → Prop} {s : Shared} {a : Value} {op₁ op₂ : CmpOp} {pos : Pos} {x y : Sem Value} {Q : Bool → Shared → Prop}
    (h : wpAny M A x (fun b s₁ => wpAny M A (compareOp op₁ a b) (fun v s₂ => wpAny M A (truthy v) (fun t s₃ => if t = true then wpAny M A (testChain pos b [op₂] [y]) Q E s₃ else Q false s₃) E s₂) E s₁) E s) : wpAny M A (testChain pos a [op₁, op₂] [x, y]) Q E s := by
  refine wpAny_bind (wpAny_holding (wpAny_mono h (fun b s₁ h₁ => wpAny_bind (wpAny_standAt (wpAny_bind (wpAny_holding (wpAny_mono h₁ (fun v s₂ h₂ => ?_) fun _ _ x => x))))) fun _ _ x => x))
  refine wpAny_bind (wpAny_release (wpAny_bind (wpAny_holding (wpAny_mono h₂ (fun t s₃ h₃ => ?_) fun _ _ x => x))))
  cases t with
  | true => exact h₃
  | false => exact wpAny_pure h₃
theorem testChain1 {M : Model} {A : Around} {E : Value → Shared → Prop} {s : Shared} {a : Value} {op : CmpOp} {pos : Pos} {x : Sem Value} {Q : Bool → Shared → Prop}
    (h : wpAny M A x (fun b s₁ => wpAny M A (compareOp op a b) (fun v s₂ => wpAny M A (truthy v) Q E s₂) E s₁) E s) : wpAny M A (testChain pos a [op] [x]) Q E s := by
  refine wpAny_bind (wpAny_holding (wpAny_mono h (fun b s₁ h₁ => wpAny_bind (wpAny_standAt (wpAny_bind (wpAny_operating (wpAny_mono h₁ (fun v s₂ h₂ => wpAny_holding h₂) fun _ _ x => x))))) fun _ _ x => x))
theorem fn_objs (P : Params) : ((List.range 71).map fun f => objAt P lawName 71 (fnAddr f)) = (List.range 71).map fun f => rowObj (row f) 6 := by kernel_rfl
theorem fn_addrs : ((List.range 71).all fun f => Nat.blt (fnAddr f) 537) = true := by decide +kernel
theorem fn_lt {f : Nat} (h : f < 71) : fnAddr f < 537 := by
  have := List.all_eq_true.mp fn_addrs f (List.mem_range.mpr h)
  simpa [Nat.blt_eq] using this
noncomputable def fnData (f : Nat) : FuncData :=
  let r := row f
  fnOf (nameOfDef (stm r.1)) (nameOfDef (stm r.1)) (argsOfDef (stm r.1)) (bodyOfDef (stm r.1)) (scopeOfDef (stm r.1)) (dfltOf r.2.1) .none .none (.str (strConst (stm r.2.2.2.1)) r.2.2.2.2) none (.ref (r.2.1 + 5)) .none
theorem Gd.fnAt {w : World} {mg mb : Names} {h : Heap} (x : Gd w mg mb h) {f : Nat} (hf : f < 71) : h.get? (fnAddr f) = some (rowObj (row f) 6) := by
  rw [x.at (fn_lt hf)]
  exact congrArg some (List.map_inj_left.mp (fn_objs w.params) f (List.mem_range.mpr hf))
theorem fn_data (f : Nat) : (rowObj (row f) 6).data = .func (fnData f) := rfl
section
variable {S : Site} {c : Act} {n : Nat} {ns : List PySem.Str} {ρ : Fm} {p : Int} {m : Names} {own : Own} {led : Led}
theorem fnAt (X : Cx S c n) {h : Heap} {f : Nat} (hf : f < 71) (R : Sd S c ns ρ p m own led h) : h.get? (fnAddr f) = some (rowObj (row f) 6) ∧ (rowObj (row f) 6).data = .func (fnData f) :=
  ⟨R.hp.stays _ _ (X.so.gd.fnAt hf), rfl⟩
theorem useCall {C : Nat → List V → M Bd} (X : Cx S c (n + 1)) (HC : ∀ f l p o, C f l p = some o → CallOk S n f l p o) {s : Shared} (R : Sd S c ns ρ p m own led s.heap) {f : Nat} {l : List V} {vs : List Value} (rs : RepL S.rp led vs l) {β : Type} {k : Bd → M β} {o : Res β × Int}
    (h : bnd (C f l) k p = some o) {Q : Value → Shared → Prop} {E : Value → Shared → Prop}
    (hok : ∀ b q, k b q = some o → ∀ g tk led2 val, Sd S c ns ρ q m own led2 g → (∀ z ∈ led, z ∈ led2) → BdOk S.rp led2 g s.heap.objs.size val b → Q val { s with heap := g, toks := tk })
    (hex : ∀ x q, o = (.exn x, q) → ExK S c s E x q) : wpAny (model pw S.w) c.A (call (.ref (fnAddr f)) vs) Q E s := by
  have hd := X.k.depth
  have hu := X.k.units
  have hsz : S.base.objs.size ≤ s.heap.objs.size := Nat.le_trans X.k.lb (Nat.le_trans X.k.l0 (Nat.le_of_lt R.nsL.lt))
  have hL : c.L ∉ [S.ap] := by simpa using (Ne.symm R.pen_ne)
  have go : ∀ oC, C f l p = some oC → (∀ b q, oC = (.ok b, q) → k b q = some o) → (∀ x q, oC = (.exn x, q) → o = (.exn x, q)) → wpAny (model pw S.w) c.A (call (.ref (fnAddr f)) vs) Q E s := fun oC e1 e2 e3 => by
    refine HC f l p oC e1 (c.env :: c.outer) c.A s led vs Q E X.k.framesA X.k.handledA X.k.gu (by show c.A₀.depth + 1 + _ + _ < _; omega) (by show c.A₀.units + 3 + _ + _ < _; omega) hsz R.hp R.sat R.ne rs ?_ ?_
    · intro b q e h' tk led' val kp hp sat sub fr bd
      refine hok b q (e2 b q e) h' tk led' val ?_ sub bd
      exact (R.step' (kp.more fun z hz => .tail _ hz) (kp.ns R.nsL hL) hp.stays X.k.l0 hp.pen).grow sub fun z hz => (fr z hz).elim .inl fun g => .inr ⟨sat z hz, R.new_ap g, R.new X.k.l0 g, R.new_own g⟩
    · intro x q e er d h' tk led' kp fl pn xd sat fr
      refine hex x q (e3 x q e) er h' tk ⟨⟨d, some .none, m, led', fl.lower (Nat.le_trans X.k.l0 (Nat.le_of_lt R.nsL.lt)) X.k.lb, .inr (.inl rfl), kp.ns R.nsL hL, xd, sat, fun z hz => (fr z hz).elim (R.ne z) R.new_ap, fun z hz => (fr z hz).elim (R.fresh z) fun g => .inr (R.new X.k.l0 g)⟩, R.kept.trans kp, pn⟩
  rcases bnd_some h with ⟨b, q, e1, e2⟩ | ⟨x, q, e1, e2⟩
  · exact go _ e1 (fun b' q' e => by cases e; exact e2) (fun x q e => by cases e)
  · exact go _ e1 (fun b' q' e => by cases e) (fun x' q' e => by cases e; exact e2)
end
section
variable {S : Site} {c : Act} {n : Nat} {ns : List PySem.Str} {C : Nat → List V → M Bd}
theorem cond_val {ρ : Fm} {p : Int} {t : Sem Value} {mA : M V} {o : Res Bool × Int} (h : bnd mA (fun x => lift (asBool x)) p = some o) (H : ∀ oA, mA p = some oA → EvOk S c ns ρ p t oA)
    {s : Shared} {m : Names} {own : Own} {led : Led} {Q : Bool → Shared → Prop} {E : Value → Shared → Prop} (R : Sd S c ns ρ p m own led s.heap)
    (hok : ∀ b q, o = (.ok b, q) → ∀ h' tk led', Sd S c ns ρ q m own led' h' → (∀ q ∈ led, q ∈ led') → Q b { s with heap := h', toks := tk })
    (hex : ∀ x q, o = (.exn x, q) → ExK S c s E x q) : wpAny (model pw S.w) c.A t (fun v s₁ => wpAny (model pw S.w) c.A (truthy v) Q E s₁) E s :=
  EvOk.seq h H R hex fun v q h2 h' tk led' val R' sub r => by
    obtain ⟨b, e1, e2⟩ := lift_some h2
    have := asBool_some e1
    subst this
    cases r
    exact wpAny_truthy_bool (hok b q e2 h' tk led' R' sub)
noncomputable def PE (S : Site) (c : Act) (ns : List PySem.Str) (C : Nat → List V → M Bd) (e : ME) : Prop := ∀ (x : Expr), mX c.cs ns e false x = true → ∀ (ρ : Fm) (p : Int) (o : Res V × Int), ev C ρ e p = some o → EvOk S c ns ρ p (eval x c.env) o
noncomputable def PC (S : Site) (c : Act) (ns : List PySem.Str) (C : Nat → List V → M Bd) (e : ME) : Prop := ∀ (x : Expr), mX c.cs ns e true x = true → ∀ (ρ : Fm) (p : Int) (o : Res Bool × Int), cond C ρ e p = some o → CondOk S c ns ρ p (isTrue x c.env (eval x c.env)) o
noncomputable def PEs (S : Site) (c : Act) (ns : List PySem.Str) (C : Nat → List V → M Bd) (es : MEs) : Prop := ∀ (xs : List Expr), mXs c.cs ns es false xs = true → xs.all noStar = true → ∀ (ρ : Fm) (p : Int) (o : Res (List V) × Int) (pos : Pos), evs C ρ es p = some o → EvsOk S c ns ρ p (spliced (backTo pos (starEach xs c.env))) o
noncomputable def PBo (S : Site) (c : Act) (ns : List PySem.Str) (C : Nat → List V → M Bd) (es : MEs) : Prop := ∀ (isAnd : Bool) (xs : List Expr) (pos : Pos), mXs c.cs ns es false xs = true → xs.isEmpty = false → ∀ (ρ : Fm) (p : Int) (o : Res V × Int), evB C ρ isAnd es p = some o →
    EvOk S c ns ρ p (boolOp pos (if isAnd then .And else .Or) (evalEach xs c.env)) o
noncomputable def PBt (S : Site) (c : Act) (ns : List PySem.Str) (C : Nat → List V → M Bd) (es : MEs) : Prop := ∀ (isAnd : Bool) (xs : List Expr), mXs c.cs ns es true xs = true → ∀ (ρ : Fm) (p : Int) (o : Res Bool × Int), bnd (evB C ρ isAnd es) (fun x => lift (asBool x)) p = some o →
    CondOk S c ns ρ p (allTrue (if isAnd then .And else .Or) xs c.env) o
mutual
theorem bothX (X : Cx S c (n + 1)) (HC : ∀ f l p o, C f l p = some o → CallOk S n f l p o) : ∀ (e : ME), PE S c ns C e ∧ PC S c ns C e
  | .v i => by
    have pv : PE S c ns C (.v i) := fun x h ρ p o he => by
      refine iX_v (P := fun x => EvOk S c ns ρ p (eval x c.env) o) h fun _ _ hh => ?_; clear h; have h := hh
      dsimp only [u_v] at he
      intro s m own led Q E R hok hex
      obtain ⟨v, e1, rfl⟩ := lift_some he
      exact nameOk X h R (get_val e1) fun val r => hok v p rfl s.heap s.toks led val R (fun _ h => h) r
    refine ⟨pv, fun x h ρ p o he => ?_⟩
    refine iX_v (P := fun x => mX c.cs ns (.v i) false x = true → CondOk S c ns ρ p (PySem.isTrue x c.env (eval x c.env)) o) h (fun _ _ hh h0 => ?_) h; have h := hh
    intro s m own led Q E R hok hex
    exact wpAny_isTrue_value (cond_val he (fun oA ha => pv _ h0 _ _ _ ha) R hok hex) rfl
  | .c k => by
    have pv : PE S c ns C (.c k) := fun x h ρ p o he => by
      refine iX_c (P := fun x => EvOk S c ns ρ p (eval x c.env) o) h fun _ _ _ hh => ?_; clear h; have h := hh
      dsimp only [u_c] at he
      intro s m own led Q E R hok hex
      simp only [Bool.and_eq_true, beq_iff_eq, Bool.not_eq_true', Bool.not_false, Bool.true_and, decide_eq_true_eq] at h
      have := ret_some he
      subst this
      exact constOk h R fun val tk r => hok k p rfl s.heap tk led val R (fun _ h => h) r
    refine ⟨pv, fun x h ρ p o he => ?_⟩
    refine iX_c (P := fun x => CondOk S c ns ρ p (PySem.isTrue x c.env (eval x c.env)) o) h fun _ _ _ hh => ?_; clear h; have h := hh
    all_goals simp at h
  | .tup es => by
    have pv : PE S c ns C (.tup es) := fun x h ρ p o he => by
      refine iX_tup (P := fun x => EvOk S c ns ρ p (eval x c.env) o) h fun _ _ _ hh => ?_; clear h; have h := hh
      dsimp only [u_tup] at he
      intro s m own led Q E R hok hex
      simp only [Bool.and_eq_true, beq_iff_eq, Bool.not_eq_true', Bool.not_false, Bool.true_and, decide_eq_true_eq] at h
      refine Tuple_ (EvsOk.seq he (fun oA ha => (allX X HC es).1 _ h.1 h.2 _ _ _ _ ha) R hex fun l q h2 h' tk led' vs R' sub r => ?_)
      split at h2
      · rename_i hl
        have := ret_some h2
        subst this
        exact tupleOk X R' r hl ((show OkK S c ns ρ q m own led s _ Q from hok _ q rfl).up sub)
      · cases h2
    refine ⟨pv, fun x h ρ p o he => ?_⟩
    refine iX_tup (P := fun x => CondOk S c ns ρ p (PySem.isTrue x c.env (eval x c.env)) o) h fun _ _ _ hh => ?_; clear h; have h := hh
    all_goals simp at h
  | .lst es => by
    have pv : PE S c ns C (.lst es) := fun x h ρ p o he => by
      refine iX_lst (P := fun x => EvOk S c ns ρ p (eval x c.env) o) h fun _ _ hh => ?_; clear h; have h := hh
      dsimp only [u_lst] at he
      intro s m own led Q E R hok hex
      simp only [Bool.and_eq_true, beq_iff_eq, Bool.not_eq_true', Bool.not_false, Bool.true_and, decide_eq_true_eq] at h
      refine List_ (EvsOk.seq he (fun oA ha => (allX X HC es).1 _ h.1 h.2 _ _ _ _ ha) R hex fun l q h2 h' tk led' vs R' sub r => ?_)
      split at h2
      · rename_i hl
        have := ret_some h2
        subst this
        exact listOk X R' r hl ((show OkK S c ns ρ q m own led s _ Q from hok _ q rfl).up sub)
      · cases h2
    refine ⟨pv, fun x h ρ p o he => ?_⟩
    refine iX_lst (P := fun x => CondOk S c ns ρ p (PySem.isTrue x c.env (eval x c.env)) o) h fun _ _ hh => ?_; clear h; have h := hh
    all_goals simp at h
  | .bin op a b => by
    have pv : PE S c ns C (.bin op a b) := fun x h ρ p o he => by
      refine iX_bin (P := fun x => EvOk S c ns ρ p (eval x c.env) o) h fun _ _ _ _ hh => ?_; clear h; have h := hh
      dsimp only [u_bin] at he
      intro s m own led Q E R hok hex
      simp only [Bool.and_eq_true, beq_iff_eq, Bool.not_eq_true', Bool.not_false, Bool.true_and, decide_eq_true_eq] at h
      refine wpAny_BinOp (EvOk.seq he (fun oA ha => (bothX X HC a).1 _ h.1.2 _ _ _ ha) R hex fun u q h2 h' tk led' va R' sub ra => EvOk.seq h2 (fun oA ha => (bothX X HC b).1 _ h.2 _ _ _ ha) R' (fun x q e => hex x q e) fun v q' h3 h'' tk' led'' vb R'' sub' rb => ?_)
      obtain ⟨r, e1, rfl⟩ := lift_some h3
      exact binOk X h.1.1 e1 (ra.mono sub') rb R'' ((show OkK S c ns ρ q' m own led s _ Q from hok _ q' rfl).up fun z hz => sub' z (sub z hz))
    refine ⟨pv, fun x h ρ p o he => ?_⟩
    refine iX_bin (P := fun x => CondOk S c ns ρ p (PySem.isTrue x c.env (eval x c.env)) o) h fun _ _ _ _ hh => ?_; clear h; have h := hh
    all_goals simp at h
  | .neg a => by
    have pv : PE S c ns C (.neg a) := fun x h ρ p o he => by
      refine iX_neg (P := fun x => EvOk S c ns ρ p (eval x c.env) o) h fun _ _ _ hh => ?_; clear h; have h := hh
      dsimp only [u_neg] at he
      intro s m own led Q E R hok hex
      simp only [Bool.and_eq_true, beq_iff_eq, Bool.not_eq_true', Bool.not_false, Bool.true_and, decide_eq_true_eq] at h
      obtain ⟨rfl, h⟩ := h
      refine wpAny_UnaryOp (EvOk.seq he (fun oA ha => (bothX X HC a).1 _ h _ _ _ ha) R hex fun u q h2 h' tk led' va R' sub ra => ?_)
      obtain ⟨r, e1, rfl⟩ := lift_some h2
      cases e2 : asInt u with
      | none => rw [e2] at e1; cases e1
      | some i =>
        rw [e2] at e1; cases e1
        have := asInt_some e2
        subst this
        cases ra
        exact neg_int (((show OkK S c ns ρ q m own led s _ Q from hok _ q rfl).up sub).int R' _ _)
    refine ⟨pv, fun x h ρ p o he => ?_⟩
    refine iX_neg (P := fun x => CondOk S c ns ρ p (PySem.isTrue x c.env (eval x c.env)) o) h fun _ _ _ hh => ?_; clear h; have h := hh
    all_goals simp at h
  | .bo isAnd es => by
    have pv : PE S c ns C (.bo isAnd es) := fun x h ρ p o he => by
      refine iX_bo (P := fun x => EvOk S c ns ρ p (eval x c.env) o) h fun _ _ _ hh => ?_; clear h; have h := hh
      dsimp only [u_bo] at he
      intro s m own led Q E R hok hex
      simp only [Bool.and_eq_true, beq_iff_eq, Bool.not_eq_true', Bool.not_false, Bool.true_and, decide_eq_true_eq] at h
      obtain ⟨⟨rfl, h⟩, h2⟩ := h
      rename_i xs pos
      exact (allX X HC es).2.1 isAnd xs pos h h2 _ _ _ he s m own led Q E R hok hex
    refine ⟨pv, fun x h ρ p o he => ?_⟩
    refine iX_bo (P := fun x => CondOk S c ns ρ p (PySem.isTrue x c.env (eval x c.env)) o) h fun _ _ _ hh => ?_; clear h; have h := hh
    simp only [Bool.and_eq_true, beq_iff_eq, Bool.not_eq_true'] at h
    obtain ⟨⟨rfl, h⟩, h2⟩ := h
    intro s m own led Q E R hok hex
    exact wpAny_isTrue_BoolOp ((allX X HC es).2.2 isAnd _ h _ _ _ (by rw [← he]; unfold cond; rw [u_bo]) s m own led Q E R hok hex)
  | .not a => by
    have pv : PE S c ns C (.not a) := fun x h ρ p o he => by
      refine iX_not (P := fun x => EvOk S c ns ρ p (eval x c.env) o) h fun _ _ _ hh => ?_; clear h; have h := hh
      dsimp only [u_not] at he
      intro s m own led Q E R hok hex
      simp only [Bool.and_eq_true, beq_iff_eq, Bool.not_eq_true', Bool.not_false, Bool.true_and, decide_eq_true_eq] at h
      obtain ⟨rfl, h⟩ := h
      refine wpAny_UnaryOp (EvOk.seq he (fun oA ha => (bothX X HC a).1 _ h _ _ _ ha) R hex fun u q h2 h' tk led' va R' sub ra => ?_)
      refine not_value ?_
      rcases bnd_some h2 with ⟨b, q2, e1, e2⟩ | ⟨x, q2, e1, e2⟩
      · obtain ⟨b', e3, e4⟩ := lift_some e1
        cases e4
        have := asBool_some e3
        subst this
        have := ret_some e2
        subst this
        cases ra
        exact wpAny_truthy_bool (((show OkK S c ns ρ q m own led s _ Q from hok _ q rfl).up sub).bool R')
      · obtain ⟨b', e3, e4⟩ := lift_some e1
        cases e4
    refine ⟨pv, fun x h ρ p o he => ?_⟩
    refine iX_not (P := fun x => CondOk S c ns ρ p (PySem.isTrue x c.env (eval x c.env)) o) h fun _ _ _ hh => ?_; clear h; have h := hh
    simp only [Bool.and_eq_true, beq_iff_eq] at h
    obtain ⟨rfl, h⟩ := h
    intro s m own led Q E R hok hex
    have he' : bnd (cond C ρ a) (fun b => ret (!b)) p = some o := by
      rw [← he]
      unfold cond
      rw [u_not]
      unfold bnd
      cases ev C ρ a p with
      | none => rfl
      | some z =>
        obtain ⟨r, q'⟩ := z
        cases r with
        | exn _ => rfl
        | ok v => cases v <;> rfl
    refine wpAny_isTrue_Not (CondOk.seq he' (fun oA ha => (bothX X HC a).2 _ h _ _ _ ha) R hex fun b q h2 h3 tk led' R' sub => ?_)
    exact hok _ _ (ret_some h2) h3 tk led' R' sub
  | .cmp op a b => by
    have pv : PE S c ns C (.cmp op a b) := fun x h ρ p o he => by
      refine iX_cmp (P := fun x => EvOk S c ns ρ p (eval x c.env) o) h fun _ _ _ _ hh => ?_; clear h; have h := hh
      dsimp only [u_cmp] at he
      intro s m own led Q E R hok hex
      simp only [Bool.and_eq_true, beq_iff_eq, Bool.not_eq_true', Bool.not_false, Bool.true_and, decide_eq_true_eq] at h
      refine wpAny_Compare1 (EvOk.seq he (fun oA ha => (bothX X HC a).1 _ h.1.1.2 _ _ _ ha) R hex fun u q h2 h' tk led' va R' sub ra => EvOk.seq h2 (fun oA ha => (bothX X HC b).1 _ h.1.2 _ _ _ ha) R' (fun x q e => hex x q e) fun v q' h3 h'' tk' led'' vb R'' sub' rb => ?_) (nb_false h.2)
      obtain ⟨r, e1, rfl⟩ := lift_some h3
      cases e2 : cmpop op u v with
      | none => rw [e2] at e1; cases e1
      | some b' =>
        rw [e2] at e1; cases e1
        exact cmpOk X R'' h.1.1.1 (ra.mono sub') rb e2 ((show OkK S c ns ρ q' m own led s _ Q from hok _ q' rfl).up fun z hz => sub' z (sub z hz))
    refine ⟨pv, fun x h ρ p o he => ?_⟩
    refine iX_cmp (P := fun x => mX c.cs ns (.cmp op a b) false x = true → CondOk S c ns ρ p (PySem.isTrue x c.env (eval x c.env)) o) h (fun _ _ _ _ hh h0 => ?_) h; have h := hh
    intro s m own led Q E R hok hex
    simp only [Bool.and_eq_true, beq_iff_eq] at h
    refine isTrue_cmp ?_ (cond_val he (fun oA ha => pv _ h0 _ _ _ ha) R hok hex)
    first | exact nb_false h.2 | rfl
  | .chain a b d => by
    have pv : PE S c ns C (.chain a b d) := fun x h ρ p o he => by
      refine iX_chain (P := fun x => EvOk S c ns ρ p (eval x c.env) o) h fun _ _ _ _ _ _ hh => ?_; clear h; have h := hh
      all_goals simp at h
    refine ⟨pv, fun x h ρ p o he => ?_⟩
    refine iX_chain (P := fun x => CondOk S c ns ρ p (PySem.isTrue x c.env (eval x c.env)) o) h fun _ _ _ _ _ _ hh => ?_; clear h; have h := hh
    simp only [Bool.and_eq_true, beq_iff_eq] at h
    obtain ⟨⟨⟨⟨⟨⟨-, rfl⟩, rfl⟩, h1⟩, h2⟩, h3⟩, h4⟩ := h
    intro s m own led Q E R hok hex
    unfold cond at he
    rw [u_chain] at he
    have he' : bnd (ev C ρ a) (fun x => bnd (ev C ρ b) fun y => bnd (lift (cmpop .le x y)) fun t => if t then bnd (ev C ρ d) fun z => lift (cmpop .le y z) else ret false) p = some o := by
      rw [← he, bnd_assoc]
      congr 1
      congr 1
      funext u
      rw [bnd_assoc]
      congr 1
      funext v
      rw [bnd_assoc]
      congr 1
      funext t
      cases t with
      | false => rfl
      | true =>
        simp only [if_true]
        rw [bnd_assoc]
        congr 1
        funext w
        exact (bnd_liftB _).symm
    refine isTrue_chain (EvOk.seq he' (fun oA ha => (bothX X HC a).1 _ h1 _ _ _ ha) R hex fun u q h5 g1 k1 led1 va R1 s1 ra => ?_) (nb_false (o := .LtE) h4)
    refine testChain2 (EvOk.seq h5 (fun oA ha => (bothX X HC b).1 _ h2 _ _ _ ha) R1 (fun x q e => hex x q e) fun v q2 h6 g2 k2 led2 vb R2 s2 rb => ?_)
    obtain ⟨t, e1, e2⟩ := bnd_lift h6
    refine cmpOk X R2 (co := .le) rfl (ra.mono s2) rb e1 fun g3 k3 led3 vc R3 s3 rc => ?_
    cases rc
    refine wpAny_truthy_bool ?_
    cases t with
    | false => exact hok _ _ (ret_some e2) g3 k3 led3 R3 fun z hz => s3 z (s2 z (s1 z hz))
    | true =>
      refine testChain1 (EvOk.seq (show bnd _ _ _ = some o from e2) (fun oA ha => (bothX X HC d).1 _ h3 _ _ _ ha) R3 (fun x q e => hex x q e) fun w q4 h7 g4 k4 led4 vd R4 s4 rd => ?_)
      obtain ⟨t', e3, e4⟩ := lift_some h7
      refine cmpOk X R4 (co := .le) rfl ((rb.mono s3).mono s4) rd e3 fun g5 k5 led5 ve R5 s5 re => ?_
      cases re
      exact wpAny_truthy_bool (hok _ _ e4 g5 k5 led5 R5 fun z hz => s5 z (s4 z (s3 z (s2 z (s1 z hz)))))
  | .isNone i => by
    have pv : PE S c ns C (.isNone i) := fun x h ρ p o he => by
      refine iX_isNone (P := fun x => EvOk S c ns ρ p (eval x c.env) o) h fun _ _ _ _ _ _ hh => ?_; clear h; have h := hh
      dsimp only [u_isNone] at he
      intro s m own led Q E R hok hex
      simp only [Bool.and_eq_true, beq_iff_eq, Bool.not_eq_true', Bool.not_false, Bool.true_and, decide_eq_true_eq] at h
      obtain ⟨rfl, h⟩ := h
      obtain ⟨r, e1, rfl⟩ := lift_some he
      obtain ⟨v, g, rfl⟩ := get_isNone e1
      refine wpAny_Compare1 (nameOk X h R g fun val rv => wpAny_Constant_none (is_none ?_)) rfl
      have := (show OkK S c ns ρ p m own led s _ Q from hok _ p rfl).bool R
      rw [rep_isNone rv]
      simpa using this
    refine ⟨pv, fun x h ρ p o he => ?_⟩
    refine iX_isNone (P := fun x => mX c.cs ns (.isNone i) false x = true → CondOk S c ns ρ p (PySem.isTrue x c.env (eval x c.env)) o) h (fun _ _ _ _ _ _ hh h0 => ?_) h; have h := hh
    intro s m own led Q E R hok hex
    simp only [Bool.and_eq_true, beq_iff_eq] at h
    refine isTrue_cmp ?_ (cond_val he (fun oA ha => pv _ h0 _ _ _ ha) R hok hex)
    first | exact nb_false h.2 | rfl
  | .notNone i => by
    have pv : PE S c ns C (.notNone i) := fun x h ρ p o he => by
      refine iX_notNone (P := fun x => EvOk S c ns ρ p (eval x c.env) o) h fun _ _ _ _ _ _ hh => ?_; clear h; have h := hh
      dsimp only [u_notNone] at he
      intro s m own led Q E R hok hex
      simp only [Bool.and_eq_true, beq_iff_eq, Bool.not_eq_true', Bool.not_false, Bool.true_and, decide_eq_true_eq] at h
      obtain ⟨rfl, h⟩ := h
      obtain ⟨r, e1, rfl⟩ := lift_some he
      obtain ⟨v, g, rfl⟩ := get_notNone e1
      refine wpAny_Compare1 (nameOk X h R g fun val rv => wpAny_Constant_none (isNot_none ?_)) rfl
      have := (show OkK S c ns ρ p m own led s _ Q from hok _ p rfl).bool R
      rw [rep_isNone rv]
      simpa using this
    refine ⟨pv, fun x h ρ p o he => ?_⟩
    refine iX_notNone (P := fun x => mX c.cs ns (.notNone i) false x = true → CondOk S c ns ρ p (PySem.isTrue x c.env (eval x c.env)) o) h (fun _ _ _ _ _ _ hh h0 => ?_) h; have h := hh
    intro s m own led Q E R hok hex
    simp only [Bool.and_eq_true, beq_iff_eq] at h
    refine isTrue_cmp ?_ (cond_val he (fun oA ha => pv _ h0 _ _ _ ha) R hok hex)
    first | exact nb_false h.2 | rfl
  | .inT neg a ks => by
    have pv : PE S c ns C (.inT neg a ks) := fun x h ρ p o he => by
      refine iX_inT (P := fun x => EvOk S c ns ρ p (eval x c.env) o) h fun _ _ _ _ _ _ hh => ?_; clear h; have h := hh
      dsimp only [u_inT] at he
      intro s m own led Q E R hok hex
      simp only [Bool.and_eq_true, beq_iff_eq, Bool.not_eq_true', Bool.not_false, Bool.true_and, decide_eq_true_eq] at h
      obtain ⟨⟨⟨rfl, h1⟩, h2⟩, h3⟩ := h
      refine wpAny_Compare1 (EvOk.seq he (fun oA ha => (bothX X HC a).1 _ h1 _ _ _ ha) R hex fun u q h4 h' tk led' va R' sub ra => ?_) rfl
      obtain ⟨r, e1, rfl⟩ := lift_some h4
      cases e2 : inConsts u ks with
      | none => rw [e2] at e1; cases e1
      | some b =>
        rw [e2] at e1; cases e1
        refine Tuple_ (constsOk h2 R' fun vs tk' rs => ?_)
        have hlen : vs.length ≤ sizeLine := by
          rw [rs.length, ← mKs_len h2]; exact Nat.le_trans h3 (by decide)
        refine wpAny_newObj_type ?_ (by show vs.toArray.size ≤ sizeLine; rw [List.size_toArray]; exact hlen)
        have R2 := R'.pushNew X (o := { cls := .type "tuple", data := .seq vs.toArray }) (t := true) (vs := vs) rfl rfl
        exact inTOk X R2 (ra.mono fun _ h => .tail _ h) (.head _) (rs.mono fun _ h => .tail _ h) e2 ((show OkK S c ns ρ q m own led s _ Q from hok _ q rfl).up fun z hz => .tail _ (sub z hz))
    refine ⟨pv, fun x h ρ p o he => ?_⟩
    refine iX_inT (P := fun x => mX c.cs ns (.inT neg a ks) false x = true → CondOk S c ns ρ p (PySem.isTrue x c.env (eval x c.env)) o) h (fun _ _ _ _ _ _ hh h0 => ?_) h; have h := hh
    intro s m own led Q E R hok hex
    simp only [Bool.and_eq_true, beq_iff_eq] at h
    refine isTrue_cmp ?_ (cond_val he (fun oA ha => pv _ h0 _ _ _ ha) R hok hex)
    first | exact nb_false h.2 | rfl
  | .inS neg a b => by
    have pv : PE S c ns C (.inS neg a b) := fun x h ρ p o he => by
      refine iX_inS (P := fun x => EvOk S c ns ρ p (eval x c.env) o) h fun _ _ _ _ hh => ?_; clear h; have h := hh
      dsimp only [u_inS] at he
      intro s m own led Q E R hok hex
      simp only [Bool.and_eq_true, beq_iff_eq, Bool.not_eq_true', Bool.not_false, Bool.true_and, decide_eq_true_eq] at h
      obtain ⟨⟨⟨rfl, w1⟩, w2⟩, w3⟩ := h
      refine wpAny_Compare1 (EvOk.seq he (fun oA ha => (bothX X HC a).1 _ w1 _ _ _ ha) R hex fun u q h2 h' tk led' va R' sub ra => EvOk.seq h2 (fun oA ha => (bothX X HC b).1 _ w2 _ _ _ ha) R' (fun x q e => hex x q e) fun v q' h3 h'' tk' led'' vb R'' sub' rb => ?_) (nb_false w3)
      obtain ⟨r, e1, rfl⟩ := lift_some h3
      split at e1
      · cases e1
        exact inSOk R'' (ra.mono sub') rb ((show OkK S c ns ρ q' m own led s _ Q from hok _ q' rfl).up fun z hz => sub' z (sub z hz))
      · cases e1
    refine ⟨pv, fun x h ρ p o he => ?_⟩
    refine iX_inS (P := fun x => mX c.cs ns (.inS neg a b) false x = true → CondOk S c ns ρ p (PySem.isTrue x c.env (eval x c.env)) o) h (fun _ _ _ _ hh h0 => ?_) h; have h := hh
    intro s m own led Q E R hok hex
    simp only [Bool.and_eq_true, beq_iff_eq] at h
    refine isTrue_cmp ?_ (cond_val he (fun oA ha => pv _ h0 _ _ _ ha) R hok hex)
    first | exact nb_false h.2 | rfl
  | .ifx q a b => by
    have pv : PE S c ns C (.ifx q a b) := fun x h ρ p o he => by
      refine iX_ifx (P := fun x => EvOk S c ns ρ p (eval x c.env) o) h fun _ _ _ _ hh => ?_; clear h; have h := hh
      dsimp only [u_ifx] at he
      intro s m own led Q E R hok hex
      simp only [Bool.and_eq_true, beq_iff_eq, Bool.not_eq_true', Bool.not_false, Bool.true_and, decide_eq_true_eq] at h
      obtain ⟨⟨h1, h2⟩, h3⟩ := h
      rw [show (bnd (ev C ρ q) fun x => bnd (lift (asBool x)) fun b' => if b' = true then ev C ρ a else ev C ρ b) = bnd (cond C ρ q) (fun b' => if b' = true then ev C ρ a else ev C ρ b) from by
        funext p'
        unfold cond bnd
        cases ev C ρ q p' with
        | none => rfl
        | some z =>
          obtain ⟨r, q'⟩ := z
          cases r <;> rfl] at he
      refine wpAny_IfExp (CondOk.seq he (fun oA ha => (bothX X HC q).2 _ h1 _ _ _ ha) R hex fun b' q' h4 h' tk led' R' sub => ?_)
      cases b' with
      | true => exact (bothX X HC a).1 _ h2 _ _ _ h4 { s with heap := h', toks := tk } m own led' Q E R' (fun v q'' e => (show OkK S c ns ρ q'' m own led s v Q from hok v q'' e).up sub) (fun x q'' e => hex x q'' e)
      | false => exact (bothX X HC b).1 _ h3 _ _ _ h4 { s with heap := h', toks := tk } m own led' Q E R' (fun v q'' e => (show OkK S c ns ρ q'' m own led s v Q from hok v q'' e).up sub) (fun x q'' e => hex x q'' e)
    refine ⟨pv, fun x h ρ p o he => ?_⟩
    refine iX_ifx (P := fun x => CondOk S c ns ρ p (PySem.isTrue x c.env (eval x c.env)) o) h fun _ _ _ _ hh => ?_; clear h; have h := hh
    all_goals simp at h
  | .idx a i => by
    have pv : PE S c ns C (.idx a i) := fun x h ρ p o he => by
      refine iX_idx (P := fun x => EvOk S c ns ρ p (eval x c.env) o) h fun _ _ _ hh => ?_; clear h; have h := hh
      dsimp only [u_idx] at he
      intro s m own led Q E R hok hex
      simp only [Bool.and_eq_true, beq_iff_eq, Bool.not_eq_true', Bool.not_false, Bool.true_and, decide_eq_true_eq] at h
      have hv : ∀ y, mX c.cs ns a false y = true → isV a = true → isName y = true := fun y hy hz => by
        cases a <;> first | exact absurd hz Bool.false_ne_true | skip
        cases y <;> first | exact absurd hy Bool.false_ne_true | rfl
      refine Subscript_ (EvOk.seq he (fun oA ha => (bothX X HC a).1 _ h.1.1 _ _ _ ha) R hex fun u q h2 h' tk led' va R' sub ra => EvOk.seq h2 (fun oA ha => (bothX X HC i).1 _ h.1.2 _ _ _ ha) R' (fun x q e => hex x q e) fun v q' h3 h'' tk' led'' vb R'' sub' rb => ?_)
      obtain ⟨r, e1, rfl⟩ := lift_some h3
      split at e1
      · rename_i hb
        exact idxOk X R'' h.2 (hv _ h.1.1) (ra.mono sub') rb hb e1 ((show OkK S c ns ρ q' m own led s _ Q from hok _ q' rfl).up fun z hz => sub' z (sub z hz))
      · cases e1
    refine ⟨pv, fun x h ρ p o he => ?_⟩
    refine iX_idx (P := fun x => mX c.cs ns (.idx a i) false x = true → CondOk S c ns ρ p (PySem.isTrue x c.env (eval x c.env)) o) h (fun _ _ _ hh h0 => ?_) h; have h := hh
    intro s m own led Q E R hok hex
    exact wpAny_isTrue_value (cond_val he (fun oA ha => pv _ h0 _ _ _ ha) R hok hex) rfl
  | .sl a l u => by
    have pv : PE S c ns C (.sl a l u) := fun x h ρ p o he => by
      refine iX_sl (P := fun x => EvOk S c ns ρ p (eval x c.env) o) h fun _ _ _ _ _ hh => ?_; clear h; have h := hh
      dsimp only [u_sl] at he
      intro s m own led Q E R hok hex
      simp only [Bool.and_eq_true, beq_iff_eq, Bool.not_eq_true', Bool.not_false, Bool.true_and, decide_eq_true_eq] at h
      have hv : ∀ y, mX c.cs ns a false y = true → isV a = true → isName y = true := fun y hy hz => by
        cases a <;> first | exact absurd hz Bool.false_ne_true | skip
        cases y <;> first | exact absurd hy Bool.false_ne_true | rfl
      obtain ⟨⟨h1, h2⟩, h3⟩ := h
      refine Subscript_ (EvOk.seq he (fun oA ha => (bothX X HC a).1 _ h1 _ _ _ ha) R hex fun x0 q h4 h' tk led' va R' sub ra => wpAny_Slice (EvOk.seq h4 (fun oA ha => (bothX X HC l).1 _ h2 _ _ _ ha) R' (fun x q e => hex x q e) fun y q1 h5 g1 k1 led1 vl R1 sub1 rl =>
        EvOk.seq h5 (fun oA ha => (bothX X HC u).1 _ h3 _ _ _ ha) R1 (fun x q e => hex x q e) fun z q2 h6 g2 k2 led2 vu R2 sub2 ru => wpAny_pure ?_))
      obtain ⟨r, e1, rfl⟩ := lift_some h6
      split at e1
      · split at e1
        · rename_i hb
          cases rl; cases ru
          exact slssOk X R2 (hv _ h1) ((ra.mono sub1).mono sub2) hb e1 ((show OkK S c ns ρ q2 m own led s _ Q from hok _ q2 rfl).up fun z hz => sub2 z (sub1 z (sub z hz)))
        · cases e1
      · cases e1
    refine ⟨pv, fun x h ρ p o he => ?_⟩
    refine iX_sl (P := fun x => mX c.cs ns (.sl a l u) false x = true → CondOk S c ns ρ p (PySem.isTrue x c.env (eval x c.env)) o) h (fun _ _ _ _ _ hh h0 => ?_) h; have h := hh
    intro s m own led Q E R hok hex
    exact wpAny_isTrue_value (cond_val he (fun oA ha => pv _ h0 _ _ _ ha) R hok hex) rfl
  | .slF a l => by
    have pv : PE S c ns C (.slF a l) := fun x h ρ p o he => by
      refine iX_slF (P := fun x => EvOk S c ns ρ p (eval x c.env) o) h fun _ _ _ _ hh => ?_; clear h; have h := hh
      dsimp only [u_slF] at he
      intro s m own led Q E R hok hex
      simp only [Bool.and_eq_true, beq_iff_eq, Bool.not_eq_true', Bool.not_false, Bool.true_and, decide_eq_true_eq] at h
      have hv : ∀ y, mX c.cs ns a false y = true → isV a = true → isName y = true := fun y hy hz => by
        cases a <;> first | exact absurd hz Bool.false_ne_true | skip
        cases y <;> first | exact absurd hy Bool.false_ne_true | rfl
      obtain ⟨h1, h2⟩ := h
      refine Subscript_ (EvOk.seq he (fun oA ha => (bothX X HC a).1 _ h1 _ _ _ ha) R hex fun x0 q h4 h' tk led' va R' sub ra => wpAny_Slice (EvOk.seq h4 (fun oA ha => (bothX X HC l).1 _ h2 _ _ _ ha) R' (fun x q e => hex x q e) fun y q1 h5 g1 k1 led1 vl R1 sub1 rl =>
        wpAny_pure (wpAny_pure ?_)))
      obtain ⟨r, e1, rfl⟩ := lift_some h5
      split at e1
      · split at e1
        · rename_i hb
          cases rl
          exact slsnOk X R1 (hv _ h1) (ra.mono sub1) hb e1 ((show OkK S c ns ρ q1 m own led s _ Q from hok _ q1 rfl).up fun z hz => sub1 z (sub z hz))
        · cases e1
      · cases e1
    refine ⟨pv, fun x h ρ p o he => ?_⟩
    refine iX_slF (P := fun x => mX c.cs ns (.slF a l) false x = true → CondOk S c ns ρ p (PySem.isTrue x c.env (eval x c.env)) o) h (fun _ _ _ _ hh h0 => ?_) h; have h := hh
    intro s m own led Q E R hok hex
    exact wpAny_isTrue_value (cond_val he (fun oA ha => pv _ h0 _ _ _ ha) R hok hex) rfl
  | .slT a u => by
    have pv : PE S c ns C (.slT a u) := fun x h ρ p o he => by
      refine iX_slT (P := fun x => EvOk S c ns ρ p (eval x c.env) o) h fun _ _ _ _ hh => ?_; clear h; have h := hh
      dsimp only [u_slT] at he
      intro s m own led Q E R hok hex
      simp only [Bool.and_eq_true, beq_iff_eq, Bool.not_eq_true', Bool.not_false, Bool.true_and, decide_eq_true_eq] at h
      have hv : ∀ y, mX c.cs ns a false y = true → isV a = true → isName y = true := fun y hy hz => by
        cases a <;> first | exact absurd hz Bool.false_ne_true | skip
        cases y <;> first | exact absurd hy Bool.false_ne_true | rfl
      obtain ⟨h1, h2⟩ := h
      refine Subscript_ (EvOk.seq he (fun oA ha => (bothX X HC a).1 _ h1 _ _ _ ha) R hex fun x0 q h4 h' tk led' va R' sub ra => wpAny_Slice (wpAny_pure (EvOk.seq h4 (fun oA ha => (bothX X HC u).1 _ h2 _ _ _ ha) R' (fun x q e => hex x q e) fun y q1 h5 g1 k1 led1 vl R1 sub1 rl =>
        wpAny_pure ?_)))
      obtain ⟨r, e1, rfl⟩ := lift_some h5
      split at e1
      · split at e1
        · rename_i hb
          cases rl
          exact slnsOk X R1 (hv _ h1) (ra.mono sub1) hb e1 ((show OkK S c ns ρ q1 m own led s _ Q from hok _ q1 rfl).up fun z hz => sub1 z (sub z hz))
        · cases e1
      · cases e1
    refine ⟨pv, fun x h ρ p o he => ?_⟩
    refine iX_slT (P := fun x => mX c.cs ns (.slT a u) false x = true → CondOk S c ns ρ p (PySem.isTrue x c.env (eval x c.env)) o) h (fun _ _ _ _ hh h0 => ?_) h; have h := hh
    intro s m own led Q E R hok hex
    exact wpAny_isTrue_value (cond_val he (fun oA ha => pv _ h0 _ _ _ ha) R hok hex) rfl
  | .rev a => by
    have pv : PE S c ns C (.rev a) := fun x h ρ p o he => by
      refine iX_rev (P := fun x => EvOk S c ns ρ p (eval x c.env) o) h fun _ _ _ _ _ _ _ _ hh => ?_; clear h; have h := hh
      dsimp only [u_rev] at he
      intro s m own led Q E R hok hex
      simp only [Bool.and_eq_true, beq_iff_eq, Bool.not_eq_true', Bool.not_false, Bool.true_and, decide_eq_true_eq] at h
      obtain ⟨⟨⟨rfl, rfl⟩, h1⟩, h2⟩ := h
      refine Subscript_ (EvOk.seq he (fun oA ha => (bothX X HC a).1 _ h1 _ _ _ ha) R hex fun x0 q h4 h' tk led' va R' sub ra => wpAny_Slice (wpAny_pure (wpAny_pure (wpAny_UnaryOp (wpAny_Constant_int (neg_int ?_))))))
      obtain ⟨r, e1, rfl⟩ := lift_some h4
      split at e1
      · split at e1
        · rename_i hl
          cases e1
          exact revOk X (s := { s with heap := h', toks := tk + 1 + 1 }) R' ra hl ((show OkK S c ns ρ q m own led s _ Q from hok _ q rfl).up sub)
        · cases e1
      · cases e1
    refine ⟨pv, fun x h ρ p o he => ?_⟩
    refine iX_rev (P := fun x => mX c.cs ns (.rev a) false x = true → CondOk S c ns ρ p (PySem.isTrue x c.env (eval x c.env)) o) h (fun _ _ _ _ _ _ _ _ hh h0 => ?_) h; have h := hh
    intro s m own led Q E R hok hex
    exact wpAny_isTrue_value (cond_val he (fun oA ha => pv _ h0 _ _ _ ha) R hok hex) rfl
  | .call f es => by
    have pv : PE S c ns C (.call f es) := fun x h ρ p o he => by
      refine iX_call (P := fun x => EvOk S c ns ρ p (eval x c.env) o) h fun _ _ _ _ hh => ?_; clear h; have h := hh
      dsimp only [u_call] at he
      intro s m own led Q E R hok hex
      simp only [Bool.and_eq_true, beq_iff_eq, Bool.not_eq_true', Bool.not_false, Bool.true_and, decide_eq_true_eq] at h
      obtain ⟨⟨⟨⟨h1, h2⟩, h3⟩, h4⟩, h5⟩ := h
      refine callName (gnameOk X h1 R (h3 ▸ X.so.gd.fn h2) ?_)
      refine callFn h5 (EvsOk.seq he (fun oA ha => (allX X HC es).1 _ h4 h5 _ _ _ _ ha) R hex fun l q h6 h' tk led' vs R' sub rs => ⟨fnAt X h2 R', ?_⟩)
      have hd := X.k.depth
      have hu := X.k.units
      refine useCall X HC R' rs h6 (fun b q' hb => ?_) (fun x q' e => hex x q' e)
      intro g k led2 val R2 sub2 hB
      have fin : ∀ v, o = (.ok v, q') → Rep S.rp led2 val v → Q val { s with heap := g, toks := k } := fun v e r => hok v q' e g k led2 val R2 (fun z hz => sub2 z (sub z hz)) r
      cases b with
      | val v => exact fin v (ret_some hb) hB
      | own l =>
        obtain ⟨a, us, rfl, hO, hsz, hoff, hr⟩ := hB
        have := ret_some hb
        refine hok _ q' this g k ((a, false, us) :: led2) _ ?_ (fun z hz => .tail _ (sub2 z (sub z hz))) (.list (.head _) (hr.mono fun _ h => .tail _ h))
        exact R2.grow (fun _ h => .tail _ h) fun z hz => by
          rcases List.mem_cons.mp hz with rfl | hz
          · exact .inr ⟨let ⟨o, n, e, c, _, d⟩ := hO; ⟨o, n, e, c, d⟩, R'.new_ap hsz, R'.new X.k.l0 hsz, R'.new_own hsz⟩
          · exact .inl hz
    refine ⟨pv, fun x h ρ p o he => ?_⟩
    refine iX_call (P := fun x => mX c.cs ns (.call f es) false x = true → CondOk S c ns ρ p (PySem.isTrue x c.env (eval x c.env)) o) h (fun _ _ _ _ hh h0 => ?_) h; have h := hh
    intro s m own led Q E R hok hex
    exact wpAny_isTrue_value (cond_val he (fun oA ha => pv _ h0 _ _ _ ha) R hok hex) rfl
  | .len a => by
    have pv : PE S c ns C (.len a) := fun x h ρ p o he => by
      refine iX_len (P := fun x => EvOk S c ns ρ p (eval x c.env) o) h fun _ _ _ _ hh => ?_; clear h; have h := hh
      dsimp only [u_len] at he
      intro s m own led Q E R hok hex
      simp only [Bool.and_eq_true, beq_iff_eq, Bool.not_eq_true', Bool.not_false, Bool.true_and, decide_eq_true_eq] at h
      obtain ⟨⟨⟨h1, rfl⟩, h2⟩, h3⟩ := h
      refine callName (bnameOk X h1 (by decide) R boot_len (callBlt (by simpa using h3) ?_))
      refine wpAny_items_cons (EvOk.seq he (fun oA ha => (bothX X HC a).1 _ h2 _ _ _ ha) R hex fun u q h4 h' tk led' va R' sub ra => wpAny_items_nil ?_) (star_cons h3 _ _)
      obtain ⟨r, e1, rfl⟩ := lift_some h4
      exact lenOk X R' ra e1 ((show OkK S c ns ρ q m own led s _ Q from hok _ q rfl).up sub)
    refine ⟨pv, fun x h ρ p o he => ?_⟩
    refine iX_len (P := fun x => mX c.cs ns (.len a) false x = true → CondOk S c ns ρ p (PySem.isTrue x c.env (eval x c.env)) o) h (fun _ _ _ _ hh h0 => ?_) h; have h := hh
    intro s m own led Q E R hok hex
    exact wpAny_isTrue_value (cond_val he (fun oA ha => pv _ h0 _ _ _ ha) R hok hex) rfl
  | .max a b => by
    have pv : PE S c ns C (.max a b) := fun x h ρ p o he => by
      refine iX_max (P := fun x => EvOk S c ns ρ p (eval x c.env) o) h fun _ _ _ _ _ hh => ?_; clear h; have h := hh
      dsimp only [u_max] at he
      intro s m own led Q E R hok hex
      simp only [Bool.and_eq_true, beq_iff_eq, Bool.not_eq_true', Bool.not_false, Bool.true_and, decide_eq_true_eq] at h
      obtain ⟨⟨⟨⟨⟨h1, rfl⟩, h2⟩, h3⟩, h4⟩, h5⟩ := h
      refine callName (bnameOk X h1 (by decide) R boot_max (callBlt (by simp [*]) ?_))
      refine wpAny_items_cons (EvOk.seq he (fun oA ha => (bothX X HC a).1 _ h2 _ _ _ ha) R hex fun u q h6 h' tk led' va R' sub ra => wpAny_items_cons (EvOk.seq h6 (fun oA ha => (bothX X HC b).1 _ h4 _ _ _ ha) R' (fun x q e => hex x q e) fun v q' h7 h'' tk' led'' vb R'' sub' rb => wpAny_items_nil ?_) (star_cons h5 _ _)) (star_cons h3 _ _)
      obtain ⟨r, e1, rfl⟩ := lift_some h7
      split at e1
      · cases e1; exact maxOk X R'' (ra.mono sub') rb ((show OkK S c ns ρ q' m own led s _ Q from hok _ q' rfl).up fun z hz => sub' z (sub z hz))
      · cases e1
    refine ⟨pv, fun x h ρ p o he => ?_⟩
    refine iX_max (P := fun x => mX c.cs ns (.max a b) false x = true → CondOk S c ns ρ p (PySem.isTrue x c.env (eval x c.env)) o) h (fun _ _ _ _ _ hh h0 => ?_) h; have h := hh
    intro s m own led Q E R hok hex
    exact wpAny_isTrue_value (cond_val he (fun oA ha => pv _ h0 _ _ _ ha) R hok hex) rfl
  | .min a b => by
    have pv : PE S c ns C (.min a b) := fun x h ρ p o he => by
      refine iX_min (P := fun x => EvOk S c ns ρ p (eval x c.env) o) h fun _ _ _ _ _ hh => ?_; clear h; have h := hh
      dsimp only [u_min] at he
      intro s m own led Q E R hok hex
      simp only [Bool.and_eq_true, beq_iff_eq, Bool.not_eq_true', Bool.not_false, Bool.true_and, decide_eq_true_eq] at h
      obtain ⟨⟨⟨⟨⟨h1, rfl⟩, h2⟩, h3⟩, h4⟩, h5⟩ := h
      refine callName (bnameOk X h1 (by decide) R boot_min (callBlt (by simp [*]) ?_))
      refine wpAny_items_cons (EvOk.seq he (fun oA ha => (bothX X HC a).1 _ h2 _ _ _ ha) R hex fun u q h6 h' tk led' va R' sub ra => wpAny_items_cons (EvOk.seq h6 (fun oA ha => (bothX X HC b).1 _ h4 _ _ _ ha) R' (fun x q e => hex x q e) fun v q' h7 h'' tk' led'' vb R'' sub' rb => wpAny_items_nil ?_) (star_cons h5 _ _)) (star_cons h3 _ _)
      obtain ⟨r, e1, rfl⟩ := lift_some h7
      split at e1
      · cases e1; exact minOk X R'' (ra.mono sub') rb ((show OkK S c ns ρ q' m own led s _ Q from hok _ q' rfl).up fun z hz => sub' z (sub z hz))
      · cases e1
    refine ⟨pv, fun x h ρ p o he => ?_⟩
    refine iX_min (P := fun x => mX c.cs ns (.min a b) false x = true → CondOk S c ns ρ p (PySem.isTrue x c.env (eval x c.env)) o) h (fun _ _ _ _ _ hh h0 => ?_) h; have h := hh
    intro s m own led Q E R hok hex
    exact wpAny_isTrue_value (cond_val he (fun oA ha => pv _ h0 _ _ _ ha) R hok hex) rfl
  | .str a => by
    have pv : PE S c ns C (.str a) := fun x h ρ p o he => by
      refine iX_str (P := fun x => EvOk S c ns ρ p (eval x c.env) o) h fun _ _ _ _ hh => ?_; clear h; have h := hh
      dsimp only [u_str] at he
      intro s m own led Q E R hok hex
      simp only [Bool.and_eq_true, beq_iff_eq, Bool.not_eq_true', Bool.not_false, Bool.true_and, decide_eq_true_eq] at h
      obtain ⟨⟨⟨h1, rfl⟩, h2⟩, h3⟩ := h
      refine callName (bnameOk X h1 (by decide) R boot_str (callTyp (by simpa using h3) ?_))
      refine wpAny_items_cons (EvOk.seq he (fun oA ha => (bothX X HC a).1 _ h2 _ _ _ ha) R hex fun u q h4 h' tk led' va R' sub ra => wpAny_items_nil ?_) (star_cons h3 _ _)
      obtain ⟨r, e1, rfl⟩ := lift_some h4
      split at e1
      · split at e1
        · rename_i hi; cases e1; exact strIntOk R' ra hi ((show OkK S c ns ρ q m own led s _ Q from hok _ q rfl).up sub)
        · cases e1
      · cases e1
    refine ⟨pv, fun x h ρ p o he => ?_⟩
    refine iX_str (P := fun x => mX c.cs ns (.str a) false x = true → CondOk S c ns ρ p (PySem.isTrue x c.env (eval x c.env)) o) h (fun _ _ _ _ hh h0 => ?_) h; have h := hh
    intro s m own led Q E R hok hex
    exact wpAny_isTrue_value (cond_val he (fun oA ha => pv _ h0 _ _ _ ha) R hok hex) rfl
  | .signs a => by
    have pv : PE S c ns C (.signs a) := fun x h ρ p o he => by
      refine iX_signs (P := fun x => EvOk S c ns ρ p (eval x c.env) o) h fun _ _ _ _ hh => ?_; clear h; have h := hh
      dsimp only [u_signs] at he
      intro s m own led Q E R hok hex
      simp only [Bool.and_eq_true, beq_iff_eq, Bool.not_eq_true', Bool.not_false, Bool.true_and, decide_eq_true_eq] at h
      obtain ⟨⟨⟨h1, rfl⟩, h2⟩, h3⟩ := h
      refine callName (bnameOk X h1 (by decide) R boot_list (callTyp (by simpa using h3) ?_))
      refine wpAny_items_cons (EvOk.seq he (fun oA ha => (bothX X HC a).1 _ h2 _ _ _ ha) R hex fun u q h4 h' tk led' va R' sub ra => wpAny_items_nil ?_) (star_cons h3 _ _)
      obtain ⟨r, e1, rfl⟩ := lift_some h4
      split at e1
      · split at e1
        · rename_i hi; cases e1; exact signsOk X R' ra hi ((show OkK S c ns ρ q m own led s _ Q from hok _ q rfl).up sub)
        · cases e1
      · cases e1
    refine ⟨pv, fun x h ρ p o he => ?_⟩
    refine iX_signs (P := fun x => mX c.cs ns (.signs a) false x = true → CondOk S c ns ρ p (PySem.isTrue x c.env (eval x c.env)) o) h (fun _ _ _ _ hh h0 => ?_) h; have h := hh
    intro s m own led Q E R hok hex
    exact wpAny_isTrue_value (cond_val he (fun oA ha => pv _ h0 _ _ _ ha) R hok hex) rfl
  | .ord a => by
    have pv : PE S c ns C (.ord a) := fun x h ρ p o he => by
      refine iX_ord (P := fun x => EvOk S c ns ρ p (eval x c.env) o) h fun _ _ _ _ hh => ?_; clear h; have h := hh
      dsimp only [u_ord] at he
      intro s m own led Q E R hok hex
      simp only [Bool.and_eq_true, beq_iff_eq, Bool.not_eq_true', Bool.not_false, Bool.true_and, decide_eq_true_eq] at h
      obtain ⟨⟨⟨h1, rfl⟩, h2⟩, h3⟩ := h
      refine callName (bnameOk X h1 (by decide) R boot_ord (callBlt (by simpa using h3) ?_))
      refine wpAny_items_cons (EvOk.seq he (fun oA ha => (bothX X HC a).1 _ h2 _ _ _ ha) R hex fun u q h4 h' tk led' va R' sub ra => wpAny_items_nil ?_) (star_cons h3 _ _)
      obtain ⟨r, e1, rfl⟩ := lift_some h4
      split at e1
      · cases e1; exact ordOk R' ra ((show OkK S c ns ρ q m own led s _ Q from hok _ q rfl).up sub)
      · cases e1
    refine ⟨pv, fun x h ρ p o he => ?_⟩
    refine iX_ord (P := fun x => mX c.cs ns (.ord a) false x = true → CondOk S c ns ρ p (PySem.isTrue x c.env (eval x c.env)) o) h (fun _ _ _ _ hh h0 => ?_) h; have h := hh
    intro s m own led Q E R hok hex
    exact wpAny_isTrue_value (cond_val he (fun oA ha => pv _ h0 _ _ _ ha) R hok hex) rfl
  | .find a b => by
    have pv : PE S c ns C (.find a b) := fun x h ρ p o he => by
      refine iX_find (P := fun x => EvOk S c ns ρ p (eval x c.env) o) h fun _ _ _ _ _ hh => ?_; clear h; have h := hh
      dsimp only [u_find] at he
      intro s m own led Q E R hok hex
      simp only [Bool.and_eq_true, beq_iff_eq, Bool.not_eq_true', Bool.not_false, Bool.true_and, decide_eq_true_eq] at h
      obtain ⟨⟨⟨⟨⟨rfl, h1⟩, h2⟩, h3⟩, h4⟩, h5⟩ := h
      refine methCall (by simpa using h2) (by simpa using h5) (by show 1 < 30; decide) (by simpa using h3) fun pl => EvOk.seq he (fun oA ha => (bothX X HC a).1 _ h1 _ _ _ ha) R hex fun u q h6 h' tk led' va R' sub ra => ?_
      obtain ⟨z, t, l, rfl, rfl, hz, h6⟩ := str_of ra h6
      refine GM.find (callBlt (by simpa using h5) ?_)
      refine wpAny_items_cons (EvOk.seq h6 (fun oA ha => (bothX X HC b).1 _ h4 _ _ _ ha) R' (fun x q e => hex x q e) fun v q' h7 h'' tk' led'' vb R'' sub' rb => wpAny_items_nil ?_) (star_cons h5 _ _)
      obtain ⟨r, e1, rfl⟩ := lift_some h7
      split at e1
      · cases e1; exact findOk R'' (hz.mono sub') rb ((show OkK S c ns ρ q' m own led s _ Q from hok _ q' rfl).up fun z hz => sub' z (sub z hz))
      · cases e1
    refine ⟨pv, fun x h ρ p o he => ?_⟩
    refine iX_find (P := fun x => mX c.cs ns (.find a b) false x = true → CondOk S c ns ρ p (PySem.isTrue x c.env (eval x c.env)) o) h (fun _ _ _ _ _ hh h0 => ?_) h; have h := hh
    intro s m own led Q E R hok hex
    exact wpAny_isTrue_value (cond_val he (fun oA ha => pv _ h0 _ _ _ ha) R hok hex) rfl
  | .rfind a b => by
    have pv : PE S c ns C (.rfind a b) := fun x h ρ p o he => by
      refine iX_rfind (P := fun x => EvOk S c ns ρ p (eval x c.env) o) h fun _ _ _ _ _ hh => ?_; clear h; have h := hh
      dsimp only [u_rfind] at he
      intro s m own led Q E R hok hex
      simp only [Bool.and_eq_true, beq_iff_eq, Bool.not_eq_true', Bool.not_false, Bool.true_and, decide_eq_true_eq] at h
      obtain ⟨⟨⟨⟨⟨rfl, h1⟩, h2⟩, h3⟩, h4⟩, h5⟩ := h
      refine methCall (by simpa using h2) (by simpa using h5) (by show 1 < 30; decide) (by simpa using h3) fun pl => EvOk.seq he (fun oA ha => (bothX X HC a).1 _ h1 _ _ _ ha) R hex fun u q h6 h' tk led' va R' sub ra => ?_
      obtain ⟨z, t, l, rfl, rfl, hz, h6⟩ := str_of ra h6
      refine GM.rfind (callBlt (by simpa using h5) ?_)
      refine wpAny_items_cons (EvOk.seq h6 (fun oA ha => (bothX X HC b).1 _ h4 _ _ _ ha) R' (fun x q e => hex x q e) fun v q' h7 h'' tk' led'' vb R'' sub' rb => wpAny_items_nil ?_) (star_cons h5 _ _)
      obtain ⟨r, e1, rfl⟩ := lift_some h7
      split at e1
      · cases e1; exact rfindOk R'' (hz.mono sub') rb ((show OkK S c ns ρ q' m own led s _ Q from hok _ q' rfl).up fun z hz => sub' z (sub z hz))
      · cases e1
    refine ⟨pv, fun x h ρ p o he => ?_⟩
    refine iX_rfind (P := fun x => mX c.cs ns (.rfind a b) false x = true → CondOk S c ns ρ p (PySem.isTrue x c.env (eval x c.env)) o) h (fun _ _ _ _ _ hh h0 => ?_) h; have h := hh
    intro s m own led Q E R hok hex
    exact wpAny_isTrue_value (cond_val he (fun oA ha => pv _ h0 _ _ _ ha) R hok hex) rfl
  | .starts a b => by
    have pv : PE S c ns C (.starts a b) := fun x h ρ p o he => by
      refine iX_starts (P := fun x => EvOk S c ns ρ p (eval x c.env) o) h fun _ _ _ _ _ hh => ?_; clear h; have h := hh
      dsimp only [u_starts] at he
      intro s m own led Q E R hok hex
      simp only [Bool.and_eq_true, beq_iff_eq, Bool.not_eq_true', Bool.not_false, Bool.true_and, decide_eq_true_eq] at h
      obtain ⟨⟨⟨⟨⟨rfl, h1⟩, h2⟩, h3⟩, h4⟩, h5⟩ := h
      refine methCall (by simpa using h2) (by simpa using h5) (by show 1 < 30; decide) (by simpa using h3) fun pl => EvOk.seq he (fun oA ha => (bothX X HC a).1 _ h1 _ _ _ ha) R hex fun u q h6 h' tk led' va R' sub ra => ?_
      obtain ⟨z, t, l, rfl, rfl, hz, h6⟩ := str_of ra h6
      refine GM.startswith (callBlt (by simpa using h5) ?_)
      refine wpAny_items_cons (EvOk.seq h6 (fun oA ha => (bothX X HC b).1 _ h4 _ _ _ ha) R' (fun x q e => hex x q e) fun v q' h7 h'' tk' led'' vb R'' sub' rb => wpAny_items_nil ?_) (star_cons h5 _ _)
      obtain ⟨r, e1, rfl⟩ := lift_some h7
      split at e1
      · cases e1; exact startsOk R'' (hz.mono sub') rb ((show OkK S c ns ρ q' m own led s _ Q from hok _ q' rfl).up fun z hz => sub' z (sub z hz))
      · cases e1
    refine ⟨pv, fun x h ρ p o he => ?_⟩
    refine iX_starts (P := fun x => mX c.cs ns (.starts a b) false x = true → CondOk S c ns ρ p (PySem.isTrue x c.env (eval x c.env)) o) h (fun _ _ _ _ _ hh h0 => ?_) h; have h := hh
    intro s m own led Q E R hok hex
    exact wpAny_isTrue_value (cond_val he (fun oA ha => pv _ h0 _ _ _ ha) R hok hex) rfl
  | .ends a b => by
    have pv : PE S c ns C (.ends a b) := fun x h ρ p o he => by
      refine iX_ends (P := fun x => EvOk S c ns ρ p (eval x c.env) o) h fun _ _ _ _ _ hh => ?_; clear h; have h := hh
      dsimp only [u_ends] at he
      intro s m own led Q E R hok hex
      simp only [Bool.and_eq_true, beq_iff_eq, Bool.not_eq_true', Bool.not_false, Bool.true_and, decide_eq_true_eq] at h
      obtain ⟨⟨⟨⟨⟨rfl, h1⟩, h2⟩, h3⟩, h4⟩, h5⟩ := h
      refine methCall (by simpa using h2) (by simpa using h5) (by show 1 < 30; decide) (by simpa using h3) fun pl => EvOk.seq he (fun oA ha => (bothX X HC a).1 _ h1 _ _ _ ha) R hex fun u q h6 h' tk led' va R' sub ra => ?_
      obtain ⟨z, t, l, rfl, rfl, hz, h6⟩ := str_of ra h6
      refine GM.endswith (callBlt (by simpa using h5) ?_)
      refine wpAny_items_cons (EvOk.seq h6 (fun oA ha => (bothX X HC b).1 _ h4 _ _ _ ha) R' (fun x q e => hex x q e) fun v q' h7 h'' tk' led'' vb R'' sub' rb => wpAny_items_nil ?_) (star_cons h5 _ _)
      obtain ⟨r, e1, rfl⟩ := lift_some h7
      split at e1
      · cases e1; exact endsOk R'' (hz.mono sub') rb ((show OkK S c ns ρ q' m own led s _ Q from hok _ q' rfl).up fun z hz => sub' z (sub z hz))
      · cases e1
    refine ⟨pv, fun x h ρ p o he => ?_⟩
    refine iX_ends (P := fun x => mX c.cs ns (.ends a b) false x = true → CondOk S c ns ρ p (PySem.isTrue x c.env (eval x c.env)) o) h (fun _ _ _ _ _ hh h0 => ?_) h; have h := hh
    intro s m own led Q E R hok hex
    exact wpAny_isTrue_value (cond_val he (fun oA ha => pv _ h0 _ _ _ ha) R hok hex) rfl
  | .index a b => by
    have pv : PE S c ns C (.index a b) := fun x h ρ p o he => by
      refine iX_index (P := fun x => EvOk S c ns ρ p (eval x c.env) o) h fun _ _ _ _ _ hh => ?_; clear h; have h := hh
      dsimp only [u_index] at he
      intro s m own led Q E R hok hex
      simp only [Bool.and_eq_true, beq_iff_eq, Bool.not_eq_true', Bool.not_false, Bool.true_and, decide_eq_true_eq] at h
      obtain ⟨⟨⟨⟨⟨rfl, h1⟩, h2⟩, h3⟩, h4⟩, h5⟩ := h
      refine methCall (by simpa using h2) (by simpa using h5) (by show 1 < 30; decide) (by simpa using h3) fun pl => EvOk.seq he (fun oA ha => (bothX X HC a).1 _ h1 _ _ _ ha) R hex fun u q h6 h' tk led' va R' sub ra => ?_
      obtain ⟨z, t, l, rfl, rfl, hz, h6⟩ := str_of ra h6
      refine GM.index (callBlt (by simpa using h5) ?_)
      refine wpAny_items_cons (EvOk.seq h6 (fun oA ha => (bothX X HC b).1 _ h4 _ _ _ ha) R' (fun x q e => hex x q e) fun v q' h7 h'' tk' led'' vb R'' sub' rb => wpAny_items_nil ?_) (star_cons h5 _ _)
      obtain ⟨r, e1, rfl⟩ := lift_some h7
      split at e1
      · split at e1
        · rename_i hi; cases e1; exact indexOk X R'' (hz.mono sub') rb hi ((show OkK S c ns ρ q' m own led s _ Q from hok _ q' rfl).up fun z hz => sub' z (sub z hz))
        · cases e1
      · cases e1
    refine ⟨pv, fun x h ρ p o he => ?_⟩
    refine iX_index (P := fun x => mX c.cs ns (.index a b) false x = true → CondOk S c ns ρ p (PySem.isTrue x c.env (eval x c.env)) o) h (fun _ _ _ _ _ hh h0 => ?_) h; have h := hh
    intro s m own led Q E R hok hex
    exact wpAny_isTrue_value (cond_val he (fun oA ha => pv _ h0 _ _ _ ha) R hok hex) rfl
  | .join a b => by
    have pv : PE S c ns C (.join a b) := fun x h ρ p o he => by
      refine iX_join (P := fun x => EvOk S c ns ρ p (eval x c.env) o) h fun _ _ _ _ _ hh => ?_; clear h; have h := hh
      dsimp only [u_join] at he
      intro s m own led Q E R hok hex
      simp only [Bool.and_eq_true, beq_iff_eq, Bool.not_eq_true', Bool.not_false, Bool.true_and, decide_eq_true_eq] at h
      obtain ⟨⟨⟨⟨⟨rfl, h1⟩, h2⟩, h3⟩, h4⟩, h5⟩ := h
      refine methCall (by simpa using h2) (by simpa using h5) (by show 1 < 30; decide) (by simpa using h3) fun pl => EvOk.seq he (fun oA ha => (bothX X HC a).1 _ h1 _ _ _ ha) R hex fun u q h6 h' tk led' va R' sub ra => ?_
      obtain ⟨z, t, l, rfl, rfl, hz, h6⟩ := str_of ra h6
      refine GM.join (callBlt (by simpa using h5) ?_)
      refine wpAny_items_cons (EvOk.seq h6 (fun oA ha => (bothX X HC b).1 _ h4 _ _ _ ha) R' (fun x q e => hex x q e) fun v q' h7 h'' tk' led'' vb R'' sub' rb => wpAny_items_nil ?_) (star_cons h5 _ _)
      obtain ⟨r, e1, rfl⟩ := lift_some h7
      split at e1
      · cases rb with | list hm hr => exact joinVOk R'' (hz.mono sub') (R''.sat _ hm).list hr e1 ((show OkK S c ns ρ q' m own led s _ Q from hok _ q' rfl).up fun z hz => sub' z (sub z hz))
      · cases e1
    refine ⟨pv, fun x h ρ p o he => ?_⟩
    refine iX_join (P := fun x => mX c.cs ns (.join a b) false x = true → CondOk S c ns ρ p (PySem.isTrue x c.env (eval x c.env)) o) h (fun _ _ _ _ _ hh h0 => ?_) h; have h := hh
    intro s m own led Q E R hok hex
    exact wpAny_isTrue_value (cond_val he (fun oA ha => pv _ h0 _ _ _ ha) R hok hex) rfl
  | .joinV a i => by
    have pv : PE S c ns C (.joinV a i) := fun x h ρ p o he => by
      refine iX_joinV (P := fun x => EvOk S c ns ρ p (eval x c.env) o) h fun _ _ _ _ _ _ hh => ?_; clear h; have h := hh
      dsimp only [u_joinV] at he
      intro s m own led Q E R hok hex
      simp only [Bool.and_eq_true, beq_iff_eq, Bool.not_eq_true', Bool.not_false, Bool.true_and, decide_eq_true_eq] at h
      obtain ⟨⟨⟨⟨rfl, h1⟩, h2⟩, h3⟩, h4⟩ := h
      refine methCall (by simpa using h2) rfl (by show 1 < 30; decide) (by simpa using h3) fun pl => EvOk.seq he (fun oA ha => (bothX X HC a).1 _ h1 _ _ _ ha) R hex fun u q h6 h' tk led' va R' sub ra => ?_
      obtain ⟨z, t, l, rfl, rfl, hz, h6⟩ := str_of ra h6
      refine GM.join (callBlt rfl ?_)
      obtain ⟨r, e1, rfl⟩ := lift_some h6
      obtain ⟨us, g, e2⟩ := get_ownL e1
      exact wpAny_items_cons (ownOk X h4 R' g fun b vs hm hr => wpAny_items_nil (joinVOk R' hz (R'.ownAt _ hm).1.list hr e2 ((show OkK S c ns ρ q m own led s _ Q from hok _ q rfl).up sub))) rfl
    refine ⟨pv, fun x h ρ p o he => ?_⟩
    refine iX_joinV (P := fun x => mX c.cs ns (.joinV a i) false x = true → CondOk S c ns ρ p (PySem.isTrue x c.env (eval x c.env)) o) h (fun _ _ _ _ _ _ hh h0 => ?_) h; have h := hh
    intro s m own led Q E R hok hex
    exact wpAny_isTrue_value (cond_val he (fun oA ha => pv _ h0 _ _ _ ha) R hok hex) rfl
  | .lenV i => by
    have pv : PE S c ns C (.lenV i) := fun x h ρ p o he => by
      refine iX_lenV (P := fun x => EvOk S c ns ρ p (eval x c.env) o) h fun _ _ _ _ _ hh => ?_; clear h; have h := hh
      dsimp only [u_lenV] at he
      intro s m own led Q E R hok hex
      simp only [Bool.and_eq_true, beq_iff_eq, Bool.not_eq_true', Bool.not_false, Bool.true_and, decide_eq_true_eq] at h
      obtain ⟨⟨h1, rfl⟩, h2⟩ := h
      refine callName (bnameOk X h1 (by decide) R boot_len (callBlt rfl ?_))
      obtain ⟨r, e1, rfl⟩ := lift_some he
      obtain ⟨us, g, e2⟩ := get_ownL e1
      split at e2
      · rename_i hl
        cases e2
        refine wpAny_items_cons (ownOk X h2 R g fun b vs hm hr => wpAny_items_nil ?_) rfl
        have hz : vs.length ≤ lid := by rw [hr.length]; exact hl
        refine call_len_list (R.ownAt _ hm).1.list (by simp only [List.size_toArray]; unfold lid at hz; omega) ?_
        have := (show OkK S c ns ρ p m own led s _ Q from hok _ p rfl).int R (s.toks + 1) (s.toks + 1 + 1)
        rw [← hr.length] at this
        simp only [List.size_toArray]; exact this
      · cases e2
    refine ⟨pv, fun x h ρ p o he => ?_⟩
    refine iX_lenV (P := fun x => mX c.cs ns (.lenV i) false x = true → CondOk S c ns ρ p (PySem.isTrue x c.env (eval x c.env)) o) h (fun _ _ _ _ _ hh h0 => ?_) h; have h := hh
    intro s m own led Q E R hok hex
    exact wpAny_isTrue_value (cond_val he (fun oA ha => pv _ h0 _ _ _ ha) R hok hex) rfl
  | .penGet i => by
    have pv : PE S c ns C (.penGet i) := fun x h ρ p o he => by
      refine iX_penGet (P := fun x => EvOk S c ns ρ p (eval x c.env) o) h fun _ _ _ _ _ _ hh => ?_; clear h; have h := hh
      dsimp only [u_penGet] at he
      intro s m own led Q E R hok hex
      simp only [Bool.and_eq_true, beq_iff_eq, Bool.not_eq_true', Bool.not_false, Bool.true_and, decide_eq_true_eq] at h
      obtain ⟨rfl, h1⟩ := h
      split at he
      · rename_i g
        cases he
        refine Subscript_ (nameOk X h1 R g fun val rv => wpAny_Constant_int ?_)
        cases rv with | pen hpa =>
        obtain ⟨rfl, hlive⟩ := Site.rp_some hpa
        obtain ⟨tk, hp⟩ := R.hp.pen.live hlive
        exact subscriptTail_builtin (T := "list") (let ⟨o, a, b, _⟩ := hp; ⟨o, a, b⟩) slot_list_getitem.lookup (getItem_listL (l := [.int p tk]) hp (by decide) (by decide) rfl (hok _ p rfl s.heap (s.toks + 1) led _ R (fun _ h => h) (.int _ _))) rfl (letgo_name rfl _)
      · cases he
    refine ⟨pv, fun x h ρ p o he => ?_⟩
    refine iX_penGet (P := fun x => mX c.cs ns (.penGet i) false x = true → CondOk S c ns ρ p (PySem.isTrue x c.env (eval x c.env)) o) h (fun _ _ _ _ _ _ hh h0 => ?_) h; have h := hh
    intro s m own led Q E R hok hex
    exact wpAny_isTrue_value (cond_val he (fun oA ha => pv _ h0 _ _ _ ha) R hok hex) rfl
  | .stuck => by
    refine ⟨fun x h ρ p o he => ?_, fun x h ρ p o he => ?_⟩
    · dsimp only [u_stuck] at he
      cases he
    · unfold cond at he
      rw [u_stuck] at he
      cases he
theorem allX (X : Cx S c (n + 1)) (HC : ∀ f l p o, C f l p = some o → CallOk S n f l p o) : ∀ (es : MEs), PEs S c ns C es ∧ PBo S c ns C es ∧ PBt S c ns C es
  | .nil => by
    refine ⟨fun xs h hs ρ p o pos he => ?_, fun isAnd xs pos h hs ρ p o he => ?_, fun isAnd xs h ρ p o he => ?_⟩
    · cases xs with
      | cons x xs => exact absurd h Bool.false_ne_true
      | nil =>
        intro s m own led Q E R hok hex
        dsimp only [us_nil] at he
        exact wpAny_items_nil (hok _ _ (ret_some he) s.heap s.toks led _ R (fun _ h => h) .nil)
    · cases xs with
      | cons x xs => exact absurd h Bool.false_ne_true
      | nil => cases hs
    · cases xs with
      | cons x xs => exact absurd h Bool.false_ne_true
      | nil =>
        intro s m own led Q E R hok hex
        have : o = (.ok isAnd, p) := by
          rw [ub_nil] at he
          exact (Option.some.inj he).symm
        cases isAnd with
        | true => exact wpAny_allTrue_And_nil (hok _ _ this s.heap s.toks led R fun _ h => h)
        | false => exact wpAny_allTrue_Or_nil (hok _ _ this s.heap s.toks led R fun _ h => h)
  | .cons e r => by
    refine ⟨fun xs h hs ρ p o pos he => ?_, fun isAnd xs pos h hs ρ p o he => ?_, fun isAnd xs h ρ p o he => ?_⟩
    · cases xs with
      | nil => exact absurd h Bool.false_ne_true
      | cons x xs =>
        have h' : (mX c.cs ns e false x && mXs c.cs ns r false xs) = true := h
        rw [Bool.and_eq_true] at h'
        rw [List.all_cons, Bool.and_eq_true] at hs
        intro s m own led Q E R hok hex
        dsimp only [us_cons] at he
        refine wpAny_items_cons (EvOk.seq he (fun oA ha => (bothX X HC e).1 _ h'.1 _ _ _ ha) R hex fun u q h2 h3 tk led' va R' sub ra => ?_) (star_cons hs.1 _ _)
        refine EvsOk.seq h2 (fun oA ha => (allX X HC r).1 _ h'.2 hs.2 _ _ _ _ ha) R' (fun x q e => hex x q e) fun l q' h4 h5 tk' led'' vs R'' sub' rs => ?_
        exact hok _ _ (ret_some h4) h5 tk' led'' _ R'' (fun z hz => sub' z (sub z hz)) (.cons (ra.mono sub') rs)
    · cases xs with
      | nil => exact absurd h Bool.false_ne_true
      | cons x xs =>
        have h' : (mX c.cs ns e false x && mXs c.cs ns r false xs) = true := h
        rw [Bool.and_eq_true] at h'
        intro s m own led Q E R hok hex
        dsimp only [ub_cons] at he
        cases xs with
        | nil =>
          refine EvOk.seq he (fun oA ha => (bothX X HC e).1 _ h'.1 _ _ _ ha) R hex fun u q h2 h3 tk led' va R' sub ra => ?_
          obtain ⟨b, e1, e2⟩ := bnd_lift h2
          have := asBool_some e1
          subst this
          cases r with
          | cons a b => exact absurd h'.2 Bool.false_ne_true
          | nil =>
            have : o = (.ok (.bool b), q) := by
              split at e2
              · rename_i hb; subst hb; dsimp only [ub_nil] at e2; exact ret_some e2
              · exact ret_some e2
            exact hok _ _ this h3 tk led' _ R' sub ra
        | cons y ys =>
          show wpAny (model pw S.w) c.A (do let v ← eval x c.env; standAt pos; let t ← holding [v] (truthy v); match (if isAnd then BoolOp.And else .Or), t with | .And, false | .Or, true => pure v | _, _ => boolOp pos (if isAnd then .And else .Or) (evalEach (y :: ys) c.env)) Q E s
          refine wpAny_bind (EvOk.seq he (fun oA ha => (bothX X HC e).1 _ h'.1 _ _ _ ha) R hex fun u q h2 h3 tk led' va R' sub ra => wpAny_bind (wpAny_standAt (wpAny_bind (wpAny_holding ?_))))
          obtain ⟨b, e1, e2⟩ := bnd_lift h2
          have := asBool_some e1
          subst this
          cases ra
          refine wpAny_truthy_bool ?_
          by_cases hb : b = isAnd
          · subst hb
            rw [if_pos rfl] at e2
            have := (allX X HC r).2.1 b (y :: ys) pos h'.2 rfl _ _ _ e2 { s with heap := h3, toks := tk } m own led' Q E R' (fun v q'' e => (show OkK S c ns ρ q'' m own led s v Q from hok v q'' e).up sub) (fun x q'' e => hex x q'' e)
            cases b <;> exact this
          · rw [if_neg hb] at e2
            have := hok _ _ (ret_some e2) h3 tk led' _ R' sub (.bool b)
            cases b <;> cases isAnd <;> first | exact absurd rfl hb | exact wpAny_pure this
    · cases xs with
      | nil => exact absurd h Bool.false_ne_true
      | cons x xs =>
        have h' : (mX c.cs ns e true x && mXs c.cs ns r true xs) = true := h
        rw [Bool.and_eq_true] at h'
        intro s m own led Q E R hok hex
        have he' : bnd (cond C ρ e) (fun b => if b = isAnd then bnd (evB C ρ isAnd r) (fun x => lift (asBool x)) else ret b) p = some o := by
          rw [← he, ub_cons]
          unfold cond
          rw [bnd_assoc, bnd_assoc]
          congr 1
          congr 1
          funext u
          rw [bnd_assoc]
          congr 1
          funext b
          by_cases hb : b = isAnd
          · rw [if_pos hb, if_pos hb]
          · rw [if_neg hb, if_neg hb]; rfl
        cases isAnd with
        | true =>
          refine wpAny_allTrue_And_cons (CondOk.seq he' (fun oA ha => (bothX X HC e).2 _ h'.1 _ _ _ ha) R hex fun b q h2 h3 tk led' R' sub => ?_)
          cases b with
          | true => exact (allX X HC r).2.2 true _ h'.2 _ _ _ h2 { s with heap := h3, toks := tk } m own led' Q E R' (fun v q'' e g k led3 R3 s3 => hok v q'' e g k led3 R3 fun z hz => s3 z (sub z hz)) (fun x q'' e => hex x q'' e)
          | false => exact hok _ _ (ret_some h2) h3 tk led' R' sub
        | false =>
          refine wpAny_allTrue_Or_cons (CondOk.seq he' (fun oA ha => (bothX X HC e).2 _ h'.1 _ _ _ ha) R hex fun b q h2 h3 tk led' R' sub => ?_)
          cases b with
          | false => exact (allX X HC r).2.2 false _ h'.2 _ _ _ h2 { s with heap := h3, toks := tk } m own led' Q E R' (fun v q'' e g k led3 R3 s3 => hok v q'' e g k led3 R3 fun z hz => s3 z (sub z hz)) (fun x q'' e => hex x q'' e)
          | true => exact hok _ _ (ret_some h2) h3 tk led' R' sub
end
end
end Lr
end
section
open PySem PySem.W PyProof.Rows PySem.SeqAt PySem.Calls
set_option maxRecDepth 100000
namespace Lr
theorem get_put {ρ : Fm} {x y : Nat} {b b' : Bd} (h : get (put ρ x b) y = some b') : (y = x ∧ b' = b) ∨ (y ≠ x ∧ get ρ y = some b') := by
  unfold get put at h
  rw [List.getD_eq_getElem?_getD, List.getElem?_set] at h
  by_cases e : x = y
  · subst e
    rw [if_pos rfl] at h
    split at h
    · simp only [Option.getD_some, Option.some.injEq] at h
      exact .inl ⟨rfl, h.symm⟩
    · simp at h
  · rw [if_neg e] at h
    exact .inr ⟨fun q => e q.symm, by unfold get; rw [List.getD_eq_getElem?_getD]; exact h⟩
abbrev upd (m : Names) (nm : PySem.Str) (v : Value) : Names := fun y => if y = nm then some v else m y
theorem ns_inj {ns : List PySem.Str} (hn : ns.Nodup) {x y : Nat} {nm : PySem.Str} (h1 : ns[x]? = some nm) (h2 : ns[y]? = some nm) : y = x := by
  obtain ⟨l1, e1⟩ := List.getElem?_eq_some_iff.mp h1
  obtain ⟨l2, e2⟩ := List.getElem?_eq_some_iff.mp h2
  exact (List.getElem_inj hn).mp (e2.trans e1.symm)
theorem own_uniq : ∀ {own : Own}, (own.map fun e => e.2.1).Nodup → ∀ {e f : Nat × Addr × List Value}, e ∈ own → f ∈ own → e.2.1 = f.2.1 → e = f
  | [], _, _, _, h, _, _ => nomatch h
  | g :: own, hn, e, f, he, hf, q => by
    rw [List.map_cons, List.nodup_cons] at hn
    rcases List.mem_cons.mp he with h1 | h1
    · rcases List.mem_cons.mp hf with h2 | h2
      · rw [h1, h2]
      · exact absurd (List.mem_map.mpr ⟨f, h2, by rw [← q, h1]⟩) hn.1
    · rcases List.mem_cons.mp hf with h2 | h2
      · exact absurd (List.mem_map.mpr ⟨e, h1, by rw [q, h2]⟩) hn.1
      · exact own_uniq hn.2 h1 h2 q
section
variable {S : Site} {c : Act} {n : Nat} {ns : List PySem.Str} {ρ : Fm} {p : Int} {m : Names} {own : Own} {led : Led} {s : Shared} {E : Value → Shared → Prop}
theorem Sd.setVal {h h' : Heap} (R : Sd S c ns ρ p m own led h) (X : Cx S c n) (hn : ns.Nodup) {x : Nat} {nm : PySem.Str} (hx : ns[x]? = some nm) {val : Value} {v : V} (r : Rep S.rp led val v)
    (hs : Heap.SameBut c.L h h') (n' : h'.Ns c.L (upd m nm val)) : Sd S c ns (put ρ x (.val v)) p (upd m nm val) own led h' := by
  have kp : Kp [c.L] h h' := Kp.of_keeps fun b o hb e => (hs.2 b (by simpa using hb)).trans e
  have st : S.base.StaysIn h' := fun b o e => by
    have : b ≠ c.L := fun q => by
      have := Heap.lt_size e
      rw [q] at this
      exact absurd this (Nat.not_lt.mpr (Nat.le_trans X.k.lb X.k.l0))
    exact (hs.2 b this).trans (R.hp.stays b o e)
  refine R.step0 (kp.more fun b hb => by simp at hb; simp [hb]) n' st X.k.l0 (R.hp.pen.kp kp (by simpa using R.pen_ne)) ?_ ?_
  · intro y u g
    rcases get_put g with ⟨rfl, q⟩ | ⟨ne, g⟩
    · cases q
      exact ⟨nm, val, hx, if_pos rfl, r⟩
    · obtain ⟨nm', val', a, b, d⟩ := R.vals y u g
      have : nm' ≠ nm := fun q => by subst q; exact ne (ns_inj hn hx a)
      exact ⟨nm', val', a, by show (if nm' = nm then _ else _) = _; rw [if_neg this]; exact b, d⟩
  · intro y u g
    rcases get_put g with ⟨rfl, q⟩ | ⟨ne, g⟩
    · cases q
    · obtain ⟨nm', a', vs, a, b, d⟩ := R.owns y u g
      have : nm' ≠ nm := fun q => by subst q; exact ne (ns_inj hn hx a)
      exact ⟨nm', a', vs, a, by show (if nm' = nm then _ else _) = _; rw [if_neg this]; exact b, d⟩
theorem Sd.setOwn {h h' : Heap} (R : Sd S c ns ρ p m own led h) (X : Cx S c n) (hn : ns.Nodup) {x : Nat} {nm : PySem.Str} (hx : ns[x]? = some nm) {a : Addr} {vs : List Value} {l : List V} (r : RepL S.rp led vs l) (hO : OwnIs h a vs) (h0 : c.h₀.objs.size ≤ a)
    (hap : a ≠ S.ap) (hoff : ∀ q ∈ led, q.1 ≠ a) (hown : ∀ e ∈ own, a ≠ e.2.1)
    (hs : Heap.SameBut c.L h h') (n' : h'.Ns c.L (upd m nm (.ref a))) : Sd S c ns (put ρ x (.own l)) p (upd m nm (.ref a)) ((x, a, vs) :: own) led h' := by
  have kp : Kp [c.L] h h' := Kp.of_keeps fun b o hb e => (hs.2 b (by simpa using hb)).trans e
  have st : S.base.StaysIn h' := fun b o e => by
    have : b ≠ c.L := fun q => by
      have := Heap.lt_size e
      rw [q] at this
      exact absurd this (Nat.not_lt.mpr (Nat.le_trans X.k.lb X.k.l0))
    exact (hs.2 b this).trans (R.hp.stays b o e)
  have R1 : Sd S c ns [] p m ((x, a, vs) :: own) led h := ⟨R.hp, R.kept, R.nsL, R.sat, R.ne, R.fresh, fun y v g => by simp [get] at g, fun y v g => by simp [get] at g,
    fun e he => by
      rcases List.mem_cons.mp he with rfl | he
      · exact ⟨hO, hap, h0, hoff⟩
      · exact R.ownAt e he, by
      rw [List.map_cons, List.nodup_cons]
      refine ⟨fun q => ?_, R.nodup⟩
      obtain ⟨e, he, q⟩ := List.mem_map.mp q
      exact hown e he q.symm, R.bys⟩
  refine R1.step0 (kp.more fun b hb => by simp at hb; simp [hb]) n' st X.k.l0 (R.hp.pen.kp kp (by simpa using R.pen_ne)) ?_ ?_
  · intro y u g
    rcases get_put g with ⟨rfl, q⟩ | ⟨ne, g⟩
    · cases q
    · obtain ⟨nm', val', a, b, d⟩ := R.vals y u g
      have : nm' ≠ nm := fun q => by subst q; exact ne (ns_inj hn hx a)
      exact ⟨nm', val', a, by show (if nm' = nm then _ else _) = _; rw [if_neg this]; exact b, d⟩
  · intro y u g
    rcases get_put g with ⟨rfl, q⟩ | ⟨ne, g⟩
    · cases q
      exact ⟨nm, a, vs, hx, if_pos rfl, .head _, r⟩
    · obtain ⟨nm', a', vs, a, b, d, f⟩ := R.owns y u g
      have : nm' ≠ nm := fun q => by subst q; exact ne (ns_inj hn hx a)
      exact ⟨nm', a', vs, a, by show (if nm' = nm then _ else _) = _; rw [if_neg this]; exact b, .tail _ d, f⟩
noncomputable def turnOwn (own : Own) (a : Addr) (ws : List Value) : Own := own.map fun e => if e.2.1 = a then (e.1, a, ws) else e
theorem turnOwn_addr (own : Own) (a : Addr) (ws : List Value) : (turnOwn own a ws).map (fun e => e.2.1) = own.map fun e => e.2.1 := by
  unfold turnOwn
  rw [List.map_map]
  apply List.map_congr_left
  intro e _
  show (if e.2.1 = a then (e.1, a, ws) else e).2.1 = _
  split
  · rename_i q; exact q.symm
  · rfl
theorem SatE.ne_own {h : Heap} {q : Cell} {a : Addr} {vs : List Value} (_x : SatE h q) (_y : OwnIs h a vs) : True := trivial
theorem Sd.turn {h h' : Heap} (R : Sd S c ns ρ p m own led h) (X : Cx S c n) {x : Nat} {nm : PySem.Str} (hx : ns[x]? = some nm) (hm : ∃ nm', ns[x]? = some nm' ∧ m nm' = some (.ref a)) {vs ws : List Value} {l : List V} (he : (x, a, vs) ∈ own) (r : RepL S.rp led ws l)
    (hO : OwnIs h' a ws) (hs : Heap.SameBut a h h') : Sd S c ns (put ρ x (.own l)) p m (turnOwn own a ws) led h' := by
  obtain ⟨hO0, hap, h0, hoff⟩ := R.ownAt _ he
  have kp : Kp [a] h h' := Kp.of_keeps fun b o hb e => (hs.2 b (by simpa using hb)).trans e
  have hL : c.L ≠ a := fun q => absurd q.symm (ns_ne_list R.nsL hO0.list)
  have st : S.base.StaysIn h' := fun b o e => by
    have : b ≠ a := fun q => by
      have := Heap.lt_size e
      rw [q] at this
      exact absurd this (Nat.not_lt.mpr (Nat.le_trans X.k.lb h0))
    exact (hs.2 b this).trans (R.hp.stays b o e)
  have nL := kp.ns R.nsL (by simpa using hL)
  refine ⟨⟨st, ff_step (fun b o e f => ?_) R.hp.ff, R.hp.pen.kp kp (by simpa using Ne.symm hap)⟩, R.kept.less kp fun b hb => .inr (by simp at hb; subst hb; exact none_of_ge h0), nL, fun q hq => kp.sat (R.sat q hq) (by simpa using hoff q hq), R.ne, R.fresh, ?_, ?_, ?_, ?_, ?_⟩
  · by_cases z : b = a
    · subst z; exact list_nf hO.list
    · exact ⟨o, (hs.2 b z).trans e, f⟩
  · intro y u g
    rcases get_put g with ⟨rfl, q⟩ | ⟨ne, g⟩
    · cases q
    · exact R.vals y u g
  · intro y u g
    rcases get_put g with ⟨rfl, q⟩ | ⟨ne, g⟩
    · cases q
      obtain ⟨nm', h1, h2⟩ := hm
      exact ⟨nm', a, ws, h1, h2, List.mem_map.mpr ⟨_, he, if_pos rfl⟩, r⟩
    · obtain ⟨nm', a', us, g1, g2, g3, g4⟩ := R.owns y u g
      refine ⟨nm', a', us, g1, g2, List.mem_map.mpr ⟨_, g3, if_neg fun q => ?_⟩, g4⟩
      have := own_uniq R.nodup g3 he q
      exact ne (congrArg (fun e => e.1) this)
  · intro e he'
    obtain ⟨f, hf, rfl⟩ := List.mem_map.mp he'
    obtain ⟨b1, b2, b3, b4⟩ := R.ownAt f hf
    by_cases q : f.2.1 = a
    · rw [if_pos q]
      exact ⟨hO, hap, h0, hoff⟩
    · rw [if_neg q]
      exact ⟨kp.own b1 (by simpa using q), b2, b3, b4⟩
  · rw [turnOwn_addr]; exact R.nodup
  · intro z hz
    obtain ⟨⟨vs', hd⟩, e⟩ := R.bys z hz
    refine ⟨⟨vs', hd⟩, (hs.2 z.1 fun q => ?_).trans e⟩
    obtain ⟨o, k, ho, hc', _, hd'⟩ := hO0
    rw [q, ho] at e; cases e
    rw [hd] at hd'; cases hd'
theorem storeOk (R : Sd S c ns ρ p m own led s.heap) (X : Cx S c n) (hn : ns.Nodup) {x : Nat} {nm : PySem.Str} (hx : isLoc c.cs ns x nm = true) {val : Value} {v : V} (r : Rep S.rp led val v) {Q : Unit → Shared → Prop}
    (hk : ∀ h', Sd S c ns (put ρ x (.val v)) p (upd m nm val) own led h' → Q () { s with heap := h', toks := s.toks + 1 }) : wpAny (model pw S.w) c.A (storeName c.env nm val) Q E s := by
  unfold isLoc at hx
  simp only [Bool.and_eq_true, beq_iff_eq] at hx
  exact wpAny_storeName_local hx.1.2 R.nsL (fun h' hn' hs => hk h' (R.setVal X hn hx.1.1 r hs hn')) (by show (c.cs.kind == .class || (c.cs.kind == .module && c.L != mainGlobals)) = false; rw [X.k.fn]; rfl)
theorem storeOwn (R : Sd S c ns ρ p m own led s.heap) (X : Cx S c n) (hn : ns.Nodup) {x : Nat} {nm : PySem.Str} (hx : isLoc c.cs ns x nm = true) {a : Addr} {vs : List Value} {l : List V} (r : RepL S.rp led vs l) (hO : OwnIs s.heap a vs) (h0 : c.h₀.objs.size ≤ a)
    (hap : a ≠ S.ap) (hoff : ∀ q ∈ led, q.1 ≠ a) (hown : ∀ e ∈ own, a ≠ e.2.1) {Q : Unit → Shared → Prop}
    (hk : ∀ h', Sd S c ns (put ρ x (.own l)) p (upd m nm (.ref a)) ((x, a, vs) :: own) led h' → Q () { s with heap := h', toks := s.toks + 1 }) : wpAny (model pw S.w) c.A (storeName c.env nm (.ref a)) Q E s := by
  unfold isLoc at hx
  simp only [Bool.and_eq_true, beq_iff_eq] at hx
  exact wpAny_storeName_local hx.1.2 R.nsL (fun h' hn' hs => hk h' (R.setOwn X hn hx.1.1 r hO h0 hap hoff hown hs hn')) (by show (c.cs.kind == .class || (c.cs.kind == .module && c.L != mainGlobals)) = false; rw [X.k.fn]; rfl)
theorem reverse_any (l : Addr) (items : Array Value) (n : Nat) (sl : Array (Option Value)) (hsz : items.size ≤ sizeLine) :
    Meets (Builtin.«list.reverse» ⟨[.ref l], []⟩) (fun _ R s => s.heap.get? l = some { cls := .type "list", dict := none, data := .seq items n, slots := sl } ∧ R (.ok (.ret Value.none)) { s with heap := s.heap.update l (Obj.mapSeq fun x => x.reverse), toks := s.toks }) :=
  .of_wp fun prog w A R s h => by
    obtain ⟨hp, g, d, tk, os⟩ := s; obtain ⟨hl, h⟩ := h
    have hz' : items.reverse.size ≤ sizeLine + 1 := by rw [Array.size_reverse]; exact Nat.le_trans ‹_› (by decide)
    wp_walk using (wpAny_updateSeq hl rfl (hz := hsz) (_hz' := hz')); exact ⟨_, rfl, h⟩
theorem appendOk {w : World} {A : Around} {a : Addr} {vs : List Value} {v : Value} (hO : OwnIs s.heap a vs) (hsz : vs.length ≤ sizeLine) {Q : Value → Shared → Prop}
    (hk : ∀ h', OwnIs h' a (vs ++ [v]) → Heap.SameBut a s.heap h' → Q .none { s with heap := h' }) : wpAny (model pw w) A (call (.builtin "list.append") [.ref a, v]) Q E s :=
  list_append_plainL (l := a) (its := vs.toArray) hO (fun h' h1 h2 => hk h' (by simpa [OwnIs, PlainL] using h1) h2) (by simpa using hsz)
theorem reverseOk {w : World} {A : Around} {a : Addr} {vs : List Value} (hO : OwnIs s.heap a vs) (hsz : vs.length ≤ sizeLine) {Q : Value → Shared → Prop}
    (hk : ∀ h', OwnIs h' a vs.reverse → Heap.SameBut a s.heap h' → Q .none { s with heap := h' }) : wpAny (model pw w) A (call (.builtin "list.reverse") [.ref a]) Q E s := by
  obtain ⟨⟨cls, dd, data, sl⟩, k, ho, hc, hdn, hd⟩ := hO
  simp only at hc hdn hd
  subst hc hdn hd
  obtain ⟨n', hd'⟩ := Obj.data_mapSeq (o := { cls := .type "list", dict := none, data := .seq vs.toArray k, slots := sl }) rfl (·.reverse)
  refine call_meets PySem.F.slot_list_reverse ⟨_, ho, rfl⟩ PySem.F.entry_list_reverse (PySem.F.args_list_reverse_1 _) (reverse_any a vs.toArray k sl (by simpa using hsz)) ⟨ho, hk _ ⟨_, n', Heap.get?_update_self _ ho (Obj.isFreed_of_seq hd'), Obj.cls_mapSeq .., ?_, by simpa using hd'⟩ (Heap.SameBut.update ..)⟩
  rfl
end
end Lr
end
section
open PySem PySem.W PyProof.Rows PySem.SeqAt PySem.Calls
set_option maxRecDepth 100000
namespace Lr
section
variable {S : Site} {M : Model} {A : Around} {E : Value → Shared → Prop} {s : Shared} {env : Env} {outer : List Env} {L e d : Addr} {lo : Nat} {st : Option Value}
structure Step (lo : Nat) (e d : Addr) (h h' : Heap) : Prop where
  low : ∀ b o, b < lo → h.get? b = some o → ∃ sl, h'.get? b = some { o with slots := sl } ∧ ((∃ vs, o.data = .fields vs) → sl = o.slots)
  nf : ∀ b o, h.get? b = some o → (∀ vs, o.data ≠ .fields vs) → ∃ sl, h'.get? b = some { o with slots := sl }
theorem Step.trans {h₁ h₂ h₃ : Heap} (x : Step lo e d h₁ h₂) (y : Step lo e d h₂ h₃) : Step lo e d h₁ h₃ where
  low := fun b o n g => by
    obtain ⟨_, e₁, f₁⟩ := x.low b o n g
    obtain ⟨sl, e₂, f₂⟩ := y.low b _ n e₁
    exact ⟨sl, e₂, fun v => (f₂ v).trans (f₁ v)⟩
  nf := fun b o g n => by
    obtain ⟨_, e₁⟩ := x.nf b o g n
    obtain ⟨sl, e₂⟩ := y.nf b _ e₁ n
    exact ⟨sl, e₂⟩
theorem Step.kp {h₀ h h' : Heap} {X : List Addr} (x : Step h₀.objs.size e d h h') (k : Kp X h₀ h) : Kp X h₀ h' := fun b o n g => by
  obtain ⟨sl, e₁, f₁⟩ := k b o n g
  obtain ⟨sl', e₂, f₂⟩ := x.low b _ (Heap.lt_size g) e₁
  exact ⟨sl', e₂, fun v => (f₂ v).trans (f₁ v)⟩
theorem Step.ns {h h' : Heap} (x : Step lo e d h h') {a : Addr} {m : Names} (n : h.Ns a m) : h'.Ns a m := by
  obtain ⟨o, es, ep, ho, hd, r⟩ := n
  obtain ⟨sl, hs⟩ := x.nf a o ho fun vs q => by rw [hd] at q; cases q
  exact ⟨_, es, ep, hs, hd, r⟩
theorem Step.sat {h h' : Heap} (x : Step lo e d h h') {q : Cell} (n : SatE h q) : SatE h' q := by
  obtain ⟨o, m, ho, hc, hd⟩ := n
  obtain ⟨sl, hs⟩ := x.nf q.1 o ho fun vs q => by rw [hd] at q; cases q
  exact ⟨_, m, hs, hc, hd⟩
theorem Step.list {h h' : Heap} (x : Step lo e d h h') {a : Addr} {vs : Array Value} (n : h.IsList a vs) : h'.IsList a vs := by
  obtain ⟨o, ho, hc, m, hd⟩ := n
  obtain ⟨sl, hs⟩ := x.nf a o ho fun vs q => by rw [hd] at q; cases q
  exact ⟨_, hs, hc, m, hd⟩
theorem Step.pen {p : Int} {h h' : Heap} (x : Step lo e d h h') (n : PenAt S p h) : PenAt S p h' := by
  unfold PenAt at n ⊢
  split at n
  · exact ⟨n.choose, x.list n.choose_spec⟩
  · obtain ⟨o, k, a, b⟩ := n
    obtain ⟨sl, a'⟩ := x.nf _ o a fun vs q => by rw [b] at q; cases q
    exact ⟨_, k, a', b⟩
theorem Step.ff {h h' base : Heap} (x : Step lo e d h h') {l : List Env} (f : h.FunFrames base l) : h'.FunFrames base l :=
  ff_step (fun b o g n => let ⟨sl, e⟩ := x.nf b o g n; ⟨_, e, n⟩) f
theorem ref_none (T : Addr) : ¬ ((Value.ref T != Value.none) = true) ↔ False := by simp
theorem entryOk {oe : Obj} {vs : Array Value} {head : Value} {b : Bool} (hfr : A.frames = some (env :: outer)) (hf : env.frame = some L) (st0 : S.base.StaysIn s.heap) (ff : s.heap.FunFrames S.base (env :: outer)) (low : S.base.objs.size ≤ lo) (le : lo ≤ e) (hlo : lo ≤ s.heap.objs.size)
    (he : s.heap.get? e = some oe) (hc : oe.cls = .ref 33 ∧ oe.dict = some d) (hd : oe.data = .fields vs) (hsz : 1 < vs.size) {Q : Unit → Shared → Prop}
    (hQ : ∀ h', S.base.StaysIn h' → h'.FunFrames S.base (env :: outer) → TrD lo e d h' (some (rawInt L)) → Step lo e d s.heap h' → Q () { s with heap := h' }) :
    wpAny M A (do let a ← frameOf env; let pl ← entryPlaceOf L b; let x ← EntryCells.newEntry head a .none (rawInt L) .none pl; setField (.ref e) 1 x) Q E s := by
  have hnf : e ∉ (env :: outer).filterMap (·.frame) := fun hm => by
    obtain ⟨_, o, ho, hn⟩ := ff.mem hm
    rw [he] at ho; cases ho
    exact hn vs hd
  refine wpAny_bind (wpAny_frameOf_fun hfr ff hf fun h₁ so => ?_)
  obtain ⟨so1, so2, so3⟩ := so
  refine wpAny_bind (wpAny_entryPlaceOf fun pl hpl => ?_)
  unfold EntryCells.newEntry newFields
  refine wpAny_bind (wpAny_newObj_type ?_ (hpl.sizeOk5 _ _ _ _ _))
  have he1 : h₁.get? e = some oe := (so2 e hnf).trans he
  have lt : e < h₁.objs.size := Heap.lt_size he1
  generalize hN : ({ cls := .type "traceback", dict := none, data := .fields ([head, .ref L, .none, rawInt L, .none] ++ (if pl.isEmpty then List.replicate 6 Value.none else pl)).toArray } : Obj) = oT
  have he2 : (h₁.push oT).get? e = some oe := Heap.get?_push_of_some _ he1
  have hT : (h₁.push oT).get? h₁.objs.size = some oT := Heap.get?_push_size h₁ (by rw [← hN]; rfl)
  refine wpAny_setField he2 hd hsz ?_
  have hd3 := Obj.data_mapFields hd (·.setIfInBounds 1 (Value.ref h₁.objs.size))
  have he3 := Heap.get?_update_self (Obj.mapFields (·.setIfInBounds 1 (Value.ref h₁.objs.size))) he2 (Obj.isFreed_of_fields hd3)
  have oth : ∀ x o, x ≠ e → h₁.get? x = some o → ((h₁.push oT).update e (Obj.mapFields (·.setIfInBounds 1 (Value.ref h₁.objs.size)))).get? x = some o := fun x o hx g => by
    rw [Heap.get?_update_other _ _ (Ne.symm hx)]; exact Heap.get?_push_of_some _ g
  have nf : ∀ x o, s.heap.get? x = some o → (∀ vs, o.data ≠ .fields vs) → ∃ sl, ((h₁.push oT).update e (Obj.mapFields (·.setIfInBounds 1 (Value.ref h₁.objs.size)))).get? x = some { o with slots := sl } := fun x o g n => by
    obtain ⟨sl, g'⟩ := so3 x o g
    exact ⟨sl, oth x _ (fun q => by rw [q, he] at g; cases g; exact n vs hd) g'⟩
  have lowk : ∀ x o, x < lo → s.heap.get? x = some o → ∃ sl, ((h₁.push oT).update e (Obj.mapFields (·.setIfInBounds 1 (Value.ref h₁.objs.size)))).get? x = some { o with slots := sl } ∧ ((∃ vs, o.data = .fields vs) → sl = o.slots) := fun x o hx g => by
    have hxe : x ≠ e := fun q => by rw [q] at hx; omega
    by_cases hm : x ∈ (env :: outer).filterMap (·.frame)
    · obtain ⟨sl, g'⟩ := so3 x o g
      refine ⟨sl, oth x _ hxe g', fun ⟨vs', hv⟩ => ?_⟩
      obtain ⟨_, o', ho', hn⟩ := ff.mem hm
      rw [g] at ho'; cases ho'
      exact absurd hv (hn vs')
    · exact ⟨o.slots, oth x o hxe ((so2 x hm).trans g), fun _ => rfl⟩
  refine hQ _ (fun x o g => ?_) (ff_step (fun x o g n => let ⟨sl, q⟩ := nf x o g n; ⟨_, q, n⟩) ff) ?_ ⟨lowk, nf⟩
  · have hx : x < lo := Nat.lt_of_lt_of_le (Heap.lt_size g) low
    have hm : x ∉ (env :: outer).filterMap (·.frame) := fun hm => by rw [(ff.mem hm).1] at g; cases g
    exact oth x o (fun q => absurd le (Nat.not_le.mpr (q ▸ hx))) ((so2 x hm).trans (st0 x o g))
  · refine ⟨_, _, h₁.objs.size, oT, _, he3, ?_, hd3, by simp [hsz], by rw [so1]; exact hlo, Nat.ne_of_gt lt, ?_, by rw [← hN], ?_⟩
    · obtain ⟨c1, c2, c3, c4⟩ := oe
      simp only at hd hc
      subst hd
      exact hc
    · rw [Heap.get?_update_other _ _ (Nat.ne_of_lt lt)]; exact hT
    · first | (simp; done) | (rcases hpl with rfl | ⟨_, _, _, _, _, _, _, rfl⟩ <;> simp)
theorem flSize {h : Heap} (f : FlD S (env :: outer) lo e d st h) : lo ≤ h.objs.size := by
  have : ∃ oe, h.get? e = some oe := by
    have t := f.tr
    cases st with
    | none => obtain ⟨oe, _, g, _⟩ := t; exact ⟨oe, g⟩
    | some fl => obtain ⟨oe, _, _, _, _, g, _⟩ := t; exact ⟨oe, g⟩
  obtain ⟨oe, g⟩ := this
  exact Nat.le_trans f.le (Nat.le_of_lt (Heap.lt_size g))
theorem rawInt_ne (L : Addr) : (Value.none == rawInt L) = false := rfl
theorem noteOk (hfr : A.frames = some (env :: outer)) (hf : env.frame = some L) (f : FlD S (env :: outer) lo e d st s.heap) (hst : st = none ∨ st = some .none ∨ st = some (rawInt L)) {Q : Unit → Shared → Prop}
    (hQ : ∀ h', FlD S (env :: outer) lo e d (some (rawInt L)) h' → Step lo e d s.heap h' → Q () { s with heap := h' }) : wpAny M A (noteFrame (.ref e) env) Q E s := by
  have hlo := flSize f
  unfold noteFrame
  simp only [hf]
  rcases hst with rfl | rfl | rfl
  · obtain ⟨oe, vs, he, hc, hd, h1⟩ := f.tr
    refine wpAny_bind (wpAny_field he hd h1 ?_)
    rw [if_neg (by decide)]
    exact entryOk hfr hf f.stays f.ff f.low f.le hlo he hc hd (Array.getElem?_eq_some_iff.mp h1).1 fun h' a b c d => hQ h' ⟨a, b, f.low, f.le, c⟩ d
  · obtain ⟨oe, vs, T, oT, ts, he, hc, hd, h1, hT0, hTe, hT, hdT, h3⟩ := f.tr
    refine wpAny_bind (wpAny_field he hd h1 ?_)
    rw [if_pos (show (Value.ref T != Value.none) = true from by simp)]
    refine wpAny_bind (wpAny_field hT hdT h3 ?_)
    rw [if_neg (by rw [rawInt_ne]; decide)]
    refine wpAny_bind (wpAny_setField hT hdT (Array.getElem?_eq_some_iff.mp h3).1 ?_)
    have oth : ∀ x, x ≠ T → (s.heap.update T (Obj.mapFields (·.setIfInBounds 3 Value.none))).get? x = s.heap.get? x := fun x hx => Heap.get?_update_other _ _ (Ne.symm hx)
    have nT : ∀ x o, s.heap.get? x = some o → (∀ vs, o.data ≠ .fields vs) → x ≠ T := fun x o g n q => by rw [q, hT] at g; cases g; exact n ts hdT
    have s1 : Step lo e d s.heap (s.heap.update T (Obj.mapFields (·.setIfInBounds 3 Value.none))) :=
      ⟨fun x o hx g => ⟨o.slots, (oth x (by omega)).trans g, fun _ => rfl⟩, fun x o g n => ⟨o.slots, (oth x (nT x o g n)).trans g⟩⟩
    refine entryOk (e := e) (d := d) (lo := lo) hfr hf (fun x o g => (oth x fun q => absurd (Nat.le_trans f.low hT0) (Nat.not_le.mpr (q ▸ Heap.lt_size g))).trans (f.stays x o g)) (s1.ff f.ff) f.low f.le (by show lo ≤ (s.heap.update T _).objs.size; rw [Heap.size_after_update]; exact hlo) ((oth e (Ne.symm hTe)).trans he) hc hd (Array.getElem?_eq_some_iff.mp h1).1 fun h' a b c d => hQ h' ⟨a, b, f.low, f.le, c⟩ (s1.trans d)
  · obtain ⟨oe, vs, T, oT, ts, he, hc, hd, h1, hT0, hTe, hT, hdT, h3⟩ := f.tr
    refine wpAny_bind (wpAny_field he hd h1 ?_)
    rw [if_pos (show (Value.ref T != Value.none) = true from by simp)]
    refine wpAny_bind (wpAny_field hT hdT h3 ?_)
    rw [if_pos (show (rawInt L == rawInt L) = true from by simp)]
    exact wpAny_pure (hQ s.heap f ⟨fun x o _ g => ⟨o.slots, g, fun _ => rfl⟩, fun x o g _ => ⟨o.slots, g⟩⟩)
theorem flightOk {envs : List Env} {fl : Value} {to : Option Addr} (f : FlD S envs lo e d (some fl) s.heap) {Q : Unit → Shared → Prop}
    (hQ : ∀ h', FlD S envs lo e d (some (to.elim Value.none fun f => rawInt f)) h' → Step lo e d s.heap h' → Q () { s with heap := h' }) : wpAny M A (setFlight (.ref e) to) Q E s := by
  obtain ⟨oe, vs, T, oT, ts, he, hc, hd, h1, hT0, hTe, hT, hdT, h3⟩ := f.tr
  have hsz3 : 3 < ts.size := (Array.getElem?_eq_some_iff.mp h3).1
  unfold setFlight
  refine wpAny_bind (wpAny_field he hd h1 ?_)
  rw [if_pos (show (Value.ref T != Value.none) = true from by simp)]
  have oth : ∀ x, x ≠ T → (s.heap.update T (Obj.mapFields (·.setIfInBounds 3 (to.elim Value.none fun f => rawInt f)))).get? x = s.heap.get? x := fun x hx => Heap.get?_update_other _ _ (Ne.symm hx)
  have nT : ∀ x o, s.heap.get? x = some o → (∀ vs, o.data ≠ .fields vs) → x ≠ T := fun x o g n q => by rw [q, hT] at g; cases g; exact n ts hdT
  have s1 : Step lo e d s.heap (s.heap.update T (Obj.mapFields (·.setIfInBounds 3 (to.elim Value.none fun f => rawInt f)))) :=
    ⟨fun x o hx g => ⟨o.slots, (oth x (by omega)).trans g, fun _ => rfl⟩, fun x o g n => ⟨o.slots, (oth x (nT x o g n)).trans g⟩⟩
  refine wpAny_setField hT hdT hsz3 (hQ _ ⟨fun x o g => (oth x fun q => absurd (Nat.le_trans f.low hT0) (Nat.not_le.mpr (q ▸ Heap.lt_size g))).trans (f.stays x o g), s1.ff f.ff, f.low, f.le, ?_⟩ s1)
  exact ⟨oe, vs, T, _, _, (oth e (Ne.symm hTe)).trans he, hc, hd, h1, hT0, hTe, Heap.get?_update_self _ hT (Obj.isFreed_of_fields (Obj.data_mapFields hdT _)), Obj.data_mapFields hdT _, by simp [hsz3]⟩
theorem leaveOk (hfr : A.frames = some (env :: outer)) (hf : env.frame = some L) (f : FlD S (env :: outer) lo e d st s.heap) (hst : st = none ∨ st = some .none ∨ st = some (rawInt L)) {Q : Unit → Shared → Prop}
    (hQ : ∀ h', FlD S outer lo e d (some .none) h' → Step lo e d s.heap h' → Q () { s with heap := h' }) : wpAny M A (leaving env (.ref e)) Q E s := by
  unfold leaving
  refine wpAny_bind (noteOk hfr hf f hst fun h' f1 s1 => ?_)
  refine flightOk (to := none) f1 fun h'' f2 s2 => ?_
  obtain ⟨a, ⟨_, _, b⟩, c, d, r⟩ := f2
  exact hQ h'' ⟨a, b, c, d, r⟩ (s1.trans s2)
end
theorem Fly.step {S : Site} {c : Act} {x : Exc} {p : Int} {e : Addr} {h h' : Heap} {d : Addr} {st st' : Option Value} {m : Names} {led : Led} (f : FlD S (c.env :: c.outer) c.h₀.objs.size e d st h) (f' : FlD S (c.env :: c.outer) c.h₀.objs.size e d st' h')
    (hs : st' = none ∨ st' = some .none ∨ st' = some (rawInt c.L)) (hm : h.Ns c.L m) (xd : ExcD S.rp led h d x) (sat : ∀ q ∈ led, SatE h q) (ne : ∀ q ∈ led, q.1 ≠ S.ap) (fr : ∀ q ∈ led, q ∈ c.led₀ ∨ c.h₀.objs.size ≤ q.1) (kp : Kp [S.ap] c.h₀ h) (pn : PenAt S p h)
    (s : Step c.h₀.objs.size e d h h') : Fly S c x p e h' :=
  ⟨⟨d, st', m, led, f', hs, s.ns hm, by
    obtain ⟨md, v1, v2, v3, n, r⟩ := xd
    exact ⟨md, v1, v2, v3, s.ns n, r⟩, fun q hq => s.sat (sat q hq), ne, fr⟩, s.kp kp, s.pen pn⟩
theorem fly_back {S : Site} {c : Act} {n : Nat} (X : Cx S c n) {x : Exc} {p : Int} {s : Shared} {E : Value → Shared → Prop} (k : ExK S c s E x p) {M : Model} {e : Addr} {h : Heap} {tk : Nat} (f : Fly S c x p e h) :
    notedBy M c.A c.env (fun e s' => cameBackBy M c.A c.env E e s') (.ref e) { s with heap := h, toks := tk } := by
  obtain ⟨⟨d, st, m, led, fd, hst, hm, xd, sat, ne, fr⟩, kp, pn⟩ := f
  show wpAny M c.A (noteFrame (.ref e) c.env) _ _ _
  refine noteOk X.k.framesA (L := c.L) rfl fd hst fun h1 f1 s1 => ?_
  have F1 := Fly.step fd f1 (.inr (.inr rfl)) hm xd sat ne fr kp pn s1
  show wpAny M c.A _ _ _ _
  obtain ⟨oe, vs, T, oT, ts, he, hc, hd, g1, _⟩ := id f1.tr
  refine wpAny_bind (wpAny_field he hd g1 ?_)
  rw [if_neg (by simp)]
  refine flightOk (to := c.env.frame) f1 fun h2 f2 s2 => ?_
  exact k e h2 tk (Fly.step fd f2 (.inr (.inr rfl)) hm xd sat ne fr kp pn (s1.trans s2))
end Lr
end
section
open PySem PySem.W PyProof.Rows PySem.SeqAt PySem.Calls
set_option maxRecDepth 100000
namespace Lr
noncomputable def noComp : Expr → Bool
  | .ListComp .. => false
  | .SetComp .. => false
  | .DictComp .. => false
  | _ => true
noncomputable def noTup : Expr → Bool
  | .Tuple .. => false
  | e => noComp e
noncomputable def pairOk (x : PySem.Str) (p1 : Pos) (y : PySem.Str) (p2 : Pos) (a b : Expr) : Bool :=
  p1.line == p2.line && !(x == y) && noStar a && noStar b && ((foldedForSure 8 a && foldedForSure 8 b) || !(constantsAlone 8 a && constantsAlone 8 b))
noncomputable def isHandler (cs : Scope) (hs : List ExceptHandler) : Bool :=
  on1 hs fun u1 => onHExceptHandler u1 fun u2 u3 u4 _ => onSome u2 fun u5 => onName u5 fun rn _ => onSome u3 fun fn => on1 u4 fun u6 => onSReturn u6 fun u7 _ => onSome u7 fun u8 => onTuple u8 fun u9 _ _ => on4 u9 fun u10 u11 u12 u13 => onConstant u10 fun u14 _ _ => onCStr u14 fun r => onAttribute u11 fun u15 a1 _ => onName u15 fun f1 _ => onAttribute u12 fun u16 a2 _ => onName u16 fun f2 _ => onAttribute u13 fun u17 a3 _ => onName u17 fun f3 _ => (isGlo cs rn && rn == ("Raised" : PySem.Str) && fn == ("fault" : PySem.Str) && cs.names.lookup fn == some .local && okName fn && r == ("raised" : PySem.Str) && f1 == fn && f2 == fn && f3 == fn && a1 == ("code" : PySem.Str) && a2 == ("value" : PySem.Str) && a3 == ("errorcode" : PySem.Str))
mutual
noncomputable def mS (cs : Scope) (ns : List PySem.Str) : MS → Bool → Stmt → Bool
  | .set x e => fun _ s => onSAssign s fun u1 v _ => on1 u1 fun u2 => onName u2 fun y _ => (isLoc cs ns x y && mX cs ns e false v && noComp v)
  | .setOwn x f es => fun _ s => onSAssign s fun u1 u2 _ => on1 u1 fun u3 => onName u3 fun y _ => onCall u2 fun u4 xs u5 _ => onName u4 fun g _ => on0 u5 <| (isLoc cs ns x y && isGlo cs g && decide (f < 71) && fnName f == g && mXs cs ns es false xs && xs.all noStar)
  | .newL x => fun _ s => onSAssign s fun u1 u2 _ => on1 u1 fun u3 => onName u3 fun y _ => onList u2 fun u4 _ => on0 u4 <| (isLoc cs ns x y)
  | .set2 x y e => fun _ s => onSAssign s fun u1 v _ => on1 u1 fun u2 => onTuple u2 fun u3 _ _ => on2 u3 fun u4 u5 => onName u4 fun x' _ => onName u5 fun y' _ => (isLoc cs ns x x' && isLoc cs ns y y' && mX cs ns e false v && noTup v)
  | .pair x y a b => fun _ s => onSAssign s fun u1 u2 _ => on1 u1 fun u3 => onTuple u3 fun u4 _ _ => on2 u4 fun u5 u6 => onName u5 fun x' p1 => onName u6 fun y' p2 => onTuple u2 fun u7 _ _ => on2 u7 fun u v => (isLoc cs ns x x' && isLoc cs ns y y' && mX cs ns a false u && mX cs ns b false v && pairOk x' p1 y' p2 u v)
  | .aug x op e => fun _ s => onSAugAssign s fun u1 o v _ => onName u1 fun y _ => (isLoc cs ns x y && (o == .Add || o == .Sub) && mOp op o && mX cs ns e false v)
  | .app x e => fun _ s => onSExpr s fun u1 _ => onCall u1 fun u2 u3 u4 pos => onAttribute u2 fun u5 n ap => onName u5 fun y _ => on1 u3 fun v => on0 u4 <| (isLoc cs ns x y && n == ("append" : PySem.Str) && ap.endLine == pos.line && mX cs ns e false v && noStar v)
  | .revs x => fun _ s => onSExpr s fun u1 _ => onCall u1 fun u2 u3 u4 pos => onAttribute u2 fun u5 n ap => onName u5 fun y _ => on0 u3 <| on0 u4 <| (isLoc cs ns x y && n == ("reverse" : PySem.Str) && ap.endLine == pos.line)
  | .penSet x e => fun _ s => onSAssign s fun u1 v _ => on1 u1 fun u2 => onSubscript u2 fun u3 u4 _ => onName u3 fun y _ => onConstant u4 fun u5 _ _ => onCInt u5 fun j => (isLoc cs ns x y && j == 0 && mX cs ns e false v && noComp v)
  | .expr e => fun _ s => onSExpr s fun v _ => (mX cs ns e false v && noComp v)
  | .ite t a b => fun q s => onSIf s fun v xs ys _ => (mX cs ns t true v && mSs cs ns a q xs && mSs cs ns b q ys)
  | .while_ t b => fun _ s => onSWhile s fun v xs u1 _ => on0 u1 <| (mX cs ns t true v && mSs cs ns b false xs)
  | .forS x e b => fun _ s => onSFor s fun u1 v xs u2 _ => onName u1 fun y _ => on0 u2 <| (isLoc cs ns x y && mX cs ns e false v && noSet v && mSs cs ns b false xs)
  | .forL x e b => fun _ s => onSFor s fun u1 v xs u2 _ => onName u1 fun y _ => on0 u2 <| (isLoc cs ns x y && mX cs ns e false v && noSet v && mSs cs ns b false xs)
  | .forR x e b => fun _ s => onSFor s fun u1 u2 xs u3 _ => onName u1 fun y _ => onCall u2 fun u4 u5 u6 _ => onName u4 fun g _ => on1 u5 fun v => on0 u6 <| on0 u3 <| (isLoc cs ns x y && isGlo cs g && g == ("range" : PySem.Str) && mX cs ns e false v && noStar v && mSs cs ns b false xs)
  | .ret e => fun _ s => onSReturn s fun u1 _ => onSome u1 fun v => (mX cs ns e false v)
  | .ret0 => fun _ s => onSReturn s fun u1 _ => onNone u1 <| (true)
  | .retOwn x => fun _ s => onSReturn s fun u1 _ => onSome u1 fun u2 => onName u2 fun y _ => (isLoc cs ns x y)
  | .retCallOwn f x => fun _ s => onSReturn s fun u1 _ => onSome u1 fun u2 => onCall u2 fun u3 u4 u5 _ => onName u3 fun g _ => on1 u4 fun u6 => onName u6 fun y _ => on0 u5 <| (isGlo cs g && decide (f < 71) && fnName f == g && isLoc cs ns x y)
  | .raise a b => fun _ s => onSRaise s fun u1 u2 _ => onSome u1 fun u3 => onCall u3 fun u4 u5 u6 _ => onName u4 fun g _ => on2 u5 fun u v => on0 u6 <| onNone u2 <| (isGlo cs g && fnName 0 == g && mX cs ns a false u && mX cs ns b false v && noStar u && noStar v)
  | .brk => fun _ s => onSBreak s fun _ => (true)
  | .heard b => fun q s => onSTry s fun xs hs u1 u2 _ => on0 u1 <| on0 u2 <| (q && mSs cs ns b q xs && isHandler cs hs)
  | .tryOk b => fun q s => onSTry s fun xs u1 u2 u3 _ => onCons u1 fun _ _ => on0 u2 <| on0 u3 <| (mSs cs ns b q xs)
  | .stuck => fun _ _ => true
noncomputable def mSs (cs : Scope) (ns : List PySem.Str) : MSs → Bool → List Stmt → Bool
  | .nil => fun _ xs => xs.isEmpty
  | .cons s r => fun q xs => match xs with | x :: xs => mS cs ns s q x && mSs cs ns r q xs | [] => false
end
noncomputable def fnOkB (f : Nat) : Bool :=
  match fn f with
  | some F =>
    let st := stm (row f).1
    let cs := scopeOfDef st
    let ns := varsOf st
    mSs cs ns F.body true (bodyOfDef st) && ns.length == F.nloc && decide ((argsOfDef st).args.length = F.arity) && ((argsOfDef st).args.map (·.arg)).isPrefixOf ns && decide (F.arity ≤ F.nloc)
  | none => true
theorem iS_set {cs : Scope} {ns : List PySem.Str} {x : Nat} {e : ME} {tb : Bool} {P : Stmt → Prop} {s : Stmt} (hz : mS cs ns (.set x e) tb s = true) (k : ∀ v w1 y w2, (isLoc cs ns x y && mX cs ns e false v && noComp v) = true → P (.Assign [(.Name y w2)] v w1)) : P s := by
  refine onSAssign_el (P := fun s => P (s)) hz fun u1 v w1 h1 => ?_
  refine on1_el (P := fun u1 => P ((.Assign u1 v w1))) h1 fun u2 h2 => ?_
  refine onName_el (P := fun u2 => P ((.Assign [u2] v w1))) h2 fun y w2 h3 => ?_
  exact k _ _ _ _ h3
theorem iS_setOwn {cs : Scope} {ns : List PySem.Str} {x : Nat} {f : Nat} {es : MEs} {tb : Bool} {P : Stmt → Prop} {s : Stmt} (hz : mS cs ns (.setOwn x f es) tb s = true) (k : ∀ w1 y w2 xs w3 g w4, (isLoc cs ns x y && isGlo cs g && decide (f < 71) && fnName f == g && mXs cs ns es false xs && xs.all noStar) = true → P (.Assign [(.Name y w2)] (.Call (.Name g w4) xs [] w3) w1)) : P s := by
  refine onSAssign_el (P := fun s => P (s)) hz fun u1 u2 w1 h1 => ?_
  refine on1_el (P := fun u1 => P ((.Assign u1 u2 w1))) h1 fun u3 h2 => ?_
  refine onName_el (P := fun u3 => P ((.Assign [u3] u2 w1))) h2 fun y w2 h3 => ?_
  refine onCall_el (P := fun u2 => P ((.Assign [(.Name y w2)] u2 w1))) h3 fun u4 xs u5 w3 h4 => ?_
  refine onName_el (P := fun u4 => P ((.Assign [(.Name y w2)] (.Call u4 xs u5 w3) w1))) h4 fun g w4 h5 => ?_
  refine on0_el (P := fun u5 => P ((.Assign [(.Name y w2)] (.Call (.Name g w4) xs u5 w3) w1))) h5 fun h6 => ?_
  exact k _ _ _ _ _ _ _ h6
theorem iS_newL {cs : Scope} {ns : List PySem.Str} {x : Nat} {tb : Bool} {P : Stmt → Prop} {s : Stmt} (hz : mS cs ns (.newL x) tb s = true) (k : ∀ w1 y w2 w3, (isLoc cs ns x y) = true → P (.Assign [(.Name y w2)] (.List [] w3) w1)) : P s := by
  refine onSAssign_el (P := fun s => P (s)) hz fun u1 u2 w1 h1 => ?_
  refine on1_el (P := fun u1 => P ((.Assign u1 u2 w1))) h1 fun u3 h2 => ?_
  refine onName_el (P := fun u3 => P ((.Assign [u3] u2 w1))) h2 fun y w2 h3 => ?_
  refine onList_el (P := fun u2 => P ((.Assign [(.Name y w2)] u2 w1))) h3 fun u4 w3 h4 => ?_
  refine on0_el (P := fun u4 => P ((.Assign [(.Name y w2)] (.List u4 w3) w1))) h4 fun h5 => ?_
  exact k _ _ _ _ h5
theorem iS_set2 {cs : Scope} {ns : List PySem.Str} {x : Nat} {y : Nat} {e : ME} {tb : Bool} {P : Stmt → Prop} {s : Stmt} (hz : mS cs ns (.set2 x y e) tb s = true) (k : ∀ v w1 w2 w3 x' w4 y' w5, (isLoc cs ns x x' && isLoc cs ns y y' && mX cs ns e false v && noTup v) = true → P (.Assign [(.Tuple [(.Name x' w4), (.Name y' w5)] w2 w3)] v w1)) : P s := by
  refine onSAssign_el (P := fun s => P (s)) hz fun u1 v w1 h1 => ?_
  refine on1_el (P := fun u1 => P ((.Assign u1 v w1))) h1 fun u2 h2 => ?_
  refine onTuple_el (P := fun u2 => P ((.Assign [u2] v w1))) h2 fun u3 w2 w3 h3 => ?_
  refine on2_el (P := fun u3 => P ((.Assign [(.Tuple u3 w2 w3)] v w1))) h3 fun u4 u5 h4 => ?_
  refine onName_el (P := fun u4 => P ((.Assign [(.Tuple [u4, u5] w2 w3)] v w1))) h4 fun x' w4 h5 => ?_
  refine onName_el (P := fun u5 => P ((.Assign [(.Tuple [(.Name x' w4), u5] w2 w3)] v w1))) h5 fun y' w5 h6 => ?_
  exact k _ _ _ _ _ _ _ _ h6
theorem iS_pair {cs : Scope} {ns : List PySem.Str} {x : Nat} {y : Nat} {a : ME} {b : ME} {tb : Bool} {P : Stmt → Prop} {s : Stmt} (hz : mS cs ns (.pair x y a b) tb s = true) (k : ∀ w1 w2 w3 x' p1 y' p2 w4 w5 u v, (isLoc cs ns x x' && isLoc cs ns y y' && mX cs ns a false u && mX cs ns b false v && pairOk x' p1 y' p2 u v) = true → P (.Assign [(.Tuple [(.Name x' p1), (.Name y' p2)] w2 w3)] (.Tuple [u, v] w4 w5) w1)) : P s := by
  refine onSAssign_el (P := fun s => P (s)) hz fun u1 u2 w1 h1 => ?_
  refine on1_el (P := fun u1 => P ((.Assign u1 u2 w1))) h1 fun u3 h2 => ?_
  refine onTuple_el (P := fun u3 => P ((.Assign [u3] u2 w1))) h2 fun u4 w2 w3 h3 => ?_
  refine on2_el (P := fun u4 => P ((.Assign [(.Tuple u4 w2 w3)] u2 w1))) h3 fun u5 u6 h4 => ?_
  refine onName_el (P := fun u5 => P ((.Assign [(.Tuple [u5, u6] w2 w3)] u2 w1))) h4 fun x' p1 h5 => ?_
  refine onName_el (P := fun u6 => P ((.Assign [(.Tuple [(.Name x' p1), u6] w2 w3)] u2 w1))) h5 fun y' p2 h6 => ?_
  refine onTuple_el (P := fun u2 => P ((.Assign [(.Tuple [(.Name x' p1), (.Name y' p2)] w2 w3)] u2 w1))) h6 fun u7 w4 w5 h7 => ?_
  refine on2_el (P := fun u7 => P ((.Assign [(.Tuple [(.Name x' p1), (.Name y' p2)] w2 w3)] (.Tuple u7 w4 w5) w1))) h7 fun u v h8 => ?_
  exact k _ _ _ _ _ _ _ _ _ _ _ h8
theorem iS_aug {cs : Scope} {ns : List PySem.Str} {x : Nat} {op : MOp} {e : ME} {tb : Bool} {P : Stmt → Prop} {s : Stmt} (hz : mS cs ns (.aug x op e) tb s = true) (k : ∀ o v w1 y w2, (isLoc cs ns x y && (o == .Add || o == .Sub) && mOp op o && mX cs ns e false v) = true → P (.AugAssign (.Name y w2) o v w1)) : P s := by
  refine onSAugAssign_el (P := fun s => P (s)) hz fun u1 o v w1 h1 => ?_
  refine onName_el (P := fun u1 => P ((.AugAssign u1 o v w1))) h1 fun y w2 h2 => ?_
  exact k _ _ _ _ _ h2
theorem iS_app {cs : Scope} {ns : List PySem.Str} {x : Nat} {e : ME} {tb : Bool} {P : Stmt → Prop} {s : Stmt} (hz : mS cs ns (.app x e) tb s = true) (k : ∀ w1 pos n ap y w2 v, (isLoc cs ns x y && n == ("append" : PySem.Str) && ap.endLine == pos.line && mX cs ns e false v && noStar v) = true → P (.Expr (.Call (.Attribute (.Name y w2) n ap) [v] [] pos) w1)) : P s := by
  refine onSExpr_el (P := fun s => P (s)) hz fun u1 w1 h1 => ?_
  refine onCall_el (P := fun u1 => P ((.Expr u1 w1))) h1 fun u2 u3 u4 pos h2 => ?_
  refine onAttribute_el (P := fun u2 => P ((.Expr (.Call u2 u3 u4 pos) w1))) h2 fun u5 n ap h3 => ?_
  refine onName_el (P := fun u5 => P ((.Expr (.Call (.Attribute u5 n ap) u3 u4 pos) w1))) h3 fun y w2 h4 => ?_
  refine on1_el (P := fun u3 => P ((.Expr (.Call (.Attribute (.Name y w2) n ap) u3 u4 pos) w1))) h4 fun v h5 => ?_
  refine on0_el (P := fun u4 => P ((.Expr (.Call (.Attribute (.Name y w2) n ap) [v] u4 pos) w1))) h5 fun h6 => ?_
  exact k _ _ _ _ _ _ _ h6
theorem iS_revs {cs : Scope} {ns : List PySem.Str} {x : Nat} {tb : Bool} {P : Stmt → Prop} {s : Stmt} (hz : mS cs ns (.revs x) tb s = true) (k : ∀ w1 pos n ap y w2, (isLoc cs ns x y && n == ("reverse" : PySem.Str) && ap.endLine == pos.line) = true → P (.Expr (.Call (.Attribute (.Name y w2) n ap) [] [] pos) w1)) : P s := by
  refine onSExpr_el (P := fun s => P (s)) hz fun u1 w1 h1 => ?_
  refine onCall_el (P := fun u1 => P ((.Expr u1 w1))) h1 fun u2 u3 u4 pos h2 => ?_
  refine onAttribute_el (P := fun u2 => P ((.Expr (.Call u2 u3 u4 pos) w1))) h2 fun u5 n ap h3 => ?_
  refine onName_el (P := fun u5 => P ((.Expr (.Call (.Attribute u5 n ap) u3 u4 pos) w1))) h3 fun y w2 h4 => ?_
  refine on0_el (P := fun u3 => P ((.Expr (.Call (.Attribute (.Name y w2) n ap) u3 u4 pos) w1))) h4 fun h5 => ?_
  refine on0_el (P := fun u4 => P ((.Expr (.Call (.Attribute (.Name y w2) n ap) [] u4 pos) w1))) h5 fun h6 => ?_
  exact k _ _ _ _ _ _ h6
theorem iS_penSet {cs : Scope} {ns : List PySem.Str} {x : Nat} {e : ME} {tb : Bool} {P : Stmt → Prop} {s : Stmt} (hz : mS cs ns (.penSet x e) tb s = true) (k : ∀ v w1 w2 y w3 w4 w5 j, (isLoc cs ns x y && j == 0 && mX cs ns e false v && noComp v) = true → P (.Assign [(.Subscript (.Name y w3) (.Constant (.int j) w4 w5) w2)] v w1)) : P s := by
  refine onSAssign_el (P := fun s => P (s)) hz fun u1 v w1 h1 => ?_
  refine on1_el (P := fun u1 => P ((.Assign u1 v w1))) h1 fun u2 h2 => ?_
  refine onSubscript_el (P := fun u2 => P ((.Assign [u2] v w1))) h2 fun u3 u4 w2 h3 => ?_
  refine onName_el (P := fun u3 => P ((.Assign [(.Subscript u3 u4 w2)] v w1))) h3 fun y w3 h4 => ?_
  refine onConstant_el (P := fun u4 => P ((.Assign [(.Subscript (.Name y w3) u4 w2)] v w1))) h4 fun u5 w4 w5 h5 => ?_
  refine onCInt_el (P := fun u5 => P ((.Assign [(.Subscript (.Name y w3) (.Constant u5 w4 w5) w2)] v w1))) h5 fun j h6 => ?_
  exact k _ _ _ _ _ _ _ _ h6
theorem iS_expr {cs : Scope} {ns : List PySem.Str} {e : ME} {tb : Bool} {P : Stmt → Prop} {s : Stmt} (hz : mS cs ns (.expr e) tb s = true) (k : ∀ v w1, (mX cs ns e false v && noComp v) = true → P (.Expr v w1)) : P s := by
  refine onSExpr_el (P := fun s => P (s)) hz fun v w1 h1 => ?_
  exact k _ _ h1
theorem iS_ite {cs : Scope} {ns : List PySem.Str} {t : ME} {a : MSs} {b : MSs} {tb : Bool} {P : Stmt → Prop} {s : Stmt} (hz : mS cs ns (.ite t a b) tb s = true) (k : ∀ v xs ys w1, (mX cs ns t true v && mSs cs ns a tb xs && mSs cs ns b tb ys) = true → P (.If v xs ys w1)) : P s := by
  refine onSIf_el (P := fun s => P (s)) hz fun v xs ys w1 h1 => ?_
  exact k _ _ _ _ h1
theorem iS_while_ {cs : Scope} {ns : List PySem.Str} {t : ME} {b : MSs} {tb : Bool} {P : Stmt → Prop} {s : Stmt} (hz : mS cs ns (.while_ t b) tb s = true) (k : ∀ v xs w1, (mX cs ns t true v && mSs cs ns b false xs) = true → P (.While v xs [] w1)) : P s := by
  refine onSWhile_el (P := fun s => P (s)) hz fun v xs u1 w1 h1 => ?_
  refine on0_el (P := fun u1 => P ((.While v xs u1 w1))) h1 fun h2 => ?_
  exact k _ _ _ h2
theorem iS_forS {cs : Scope} {ns : List PySem.Str} {x : Nat} {e : ME} {b : MSs} {tb : Bool} {P : Stmt → Prop} {s : Stmt} (hz : mS cs ns (.forS x e b) tb s = true) (k : ∀ v xs w1 y w2, (isLoc cs ns x y && mX cs ns e false v && noSet v && mSs cs ns b false xs) = true → P (.For (.Name y w2) v xs [] w1)) : P s := by
  refine onSFor_el (P := fun s => P (s)) hz fun u1 v xs u2 w1 h1 => ?_
  refine onName_el (P := fun u1 => P ((.For u1 v xs u2 w1))) h1 fun y w2 h2 => ?_
  refine on0_el (P := fun u2 => P ((.For (.Name y w2) v xs u2 w1))) h2 fun h3 => ?_
  exact k _ _ _ _ _ h3
theorem iS_forL {cs : Scope} {ns : List PySem.Str} {x : Nat} {e : ME} {b : MSs} {tb : Bool} {P : Stmt → Prop} {s : Stmt} (hz : mS cs ns (.forL x e b) tb s = true) (k : ∀ v xs w1 y w2, (isLoc cs ns x y && mX cs ns e false v && noSet v && mSs cs ns b false xs) = true → P (.For (.Name y w2) v xs [] w1)) : P s := by
  refine onSFor_el (P := fun s => P (s)) hz fun u1 v xs u2 w1 h1 => ?_
  refine onName_el (P := fun u1 => P ((.For u1 v xs u2 w1))) h1 fun y w2 h2 => ?_
  refine on0_el (P := fun u2 => P ((.For (.Name y w2) v xs u2 w1))) h2 fun h3 => ?_
  exact k _ _ _ _ _ h3
theorem iS_forR {cs : Scope} {ns : List PySem.Str} {x : Nat} {e : ME} {b : MSs} {tb : Bool} {P : Stmt → Prop} {s : Stmt} (hz : mS cs ns (.forR x e b) tb s = true) (k : ∀ xs w1 y w2 w3 g w4 v, (isLoc cs ns x y && isGlo cs g && g == ("range" : PySem.Str) && mX cs ns e false v && noStar v && mSs cs ns b false xs) = true → P (.For (.Name y w2) (.Call (.Name g w4) [v] [] w3) xs [] w1)) : P s := by
  refine onSFor_el (P := fun s => P (s)) hz fun u1 u2 xs u3 w1 h1 => ?_
  refine onName_el (P := fun u1 => P ((.For u1 u2 xs u3 w1))) h1 fun y w2 h2 => ?_
  refine onCall_el (P := fun u2 => P ((.For (.Name y w2) u2 xs u3 w1))) h2 fun u4 u5 u6 w3 h3 => ?_
  refine onName_el (P := fun u4 => P ((.For (.Name y w2) (.Call u4 u5 u6 w3) xs u3 w1))) h3 fun g w4 h4 => ?_
  refine on1_el (P := fun u5 => P ((.For (.Name y w2) (.Call (.Name g w4) u5 u6 w3) xs u3 w1))) h4 fun v h5 => ?_
  refine on0_el (P := fun u6 => P ((.For (.Name y w2) (.Call (.Name g w4) [v] u6 w3) xs u3 w1))) h5 fun h6 => ?_
  refine on0_el (P := fun u3 => P ((.For (.Name y w2) (.Call (.Name g w4) [v] [] w3) xs u3 w1))) h6 fun h7 => ?_
  exact k _ _ _ _ _ _ _ _ h7
theorem iS_ret {cs : Scope} {ns : List PySem.Str} {e : ME} {tb : Bool} {P : Stmt → Prop} {s : Stmt} (hz : mS cs ns (.ret e) tb s = true) (k : ∀ w1 v, (mX cs ns e false v) = true → P (.Return (some v) w1)) : P s := by
  refine onSReturn_el (P := fun s => P (s)) hz fun u1 w1 h1 => ?_
  refine onSome_el (P := fun u1 => P ((.Return u1 w1))) h1 fun v h2 => ?_
  exact k _ _ h2
theorem iS_ret0 {cs : Scope} {ns : List PySem.Str} {tb : Bool} {P : Stmt → Prop} {s : Stmt} (hz : mS cs ns (.ret0) tb s = true) (k : ∀ w1, (true) = true → P (.Return none w1)) : P s := by
  refine onSReturn_el (P := fun s => P (s)) hz fun u1 w1 h1 => ?_
  refine onNone_el (P := fun u1 => P ((.Return u1 w1))) h1 fun h2 => ?_
  exact k _ h2
theorem iS_retOwn {cs : Scope} {ns : List PySem.Str} {x : Nat} {tb : Bool} {P : Stmt → Prop} {s : Stmt} (hz : mS cs ns (.retOwn x) tb s = true) (k : ∀ w1 y w2, (isLoc cs ns x y) = true → P (.Return (some (.Name y w2)) w1)) : P s := by
  refine onSReturn_el (P := fun s => P (s)) hz fun u1 w1 h1 => ?_
  refine onSome_el (P := fun u1 => P ((.Return u1 w1))) h1 fun u2 h2 => ?_
  refine onName_el (P := fun u2 => P ((.Return (some u2) w1))) h2 fun y w2 h3 => ?_
  exact k _ _ _ h3
theorem iS_retCallOwn {cs : Scope} {ns : List PySem.Str} {f : Nat} {x : Nat} {tb : Bool} {P : Stmt → Prop} {s : Stmt} (hz : mS cs ns (.retCallOwn f x) tb s = true) (k : ∀ w1 w2 g w3 y w4, (isGlo cs g && decide (f < 71) && fnName f == g && isLoc cs ns x y) = true → P (.Return (some (.Call (.Name g w3) [(.Name y w4)] [] w2)) w1)) : P s := by
  refine onSReturn_el (P := fun s => P (s)) hz fun u1 w1 h1 => ?_
  refine onSome_el (P := fun u1 => P ((.Return u1 w1))) h1 fun u2 h2 => ?_
  refine onCall_el (P := fun u2 => P ((.Return (some u2) w1))) h2 fun u3 u4 u5 w2 h3 => ?_
  refine onName_el (P := fun u3 => P ((.Return (some (.Call u3 u4 u5 w2)) w1))) h3 fun g w3 h4 => ?_
  refine on1_el (P := fun u4 => P ((.Return (some (.Call (.Name g w3) u4 u5 w2)) w1))) h4 fun u6 h5 => ?_
  refine onName_el (P := fun u6 => P ((.Return (some (.Call (.Name g w3) [u6] u5 w2)) w1))) h5 fun y w4 h6 => ?_
  refine on0_el (P := fun u5 => P ((.Return (some (.Call (.Name g w3) [(.Name y w4)] u5 w2)) w1))) h6 fun h7 => ?_
  exact k _ _ _ _ _ _ h7
theorem iS_raise {cs : Scope} {ns : List PySem.Str} {a : ME} {b : ME} {tb : Bool} {P : Stmt → Prop} {s : Stmt} (hz : mS cs ns (.raise a b) tb s = true) (k : ∀ w1 w2 g w3 u v, (isGlo cs g && fnName 0 == g && mX cs ns a false u && mX cs ns b false v && noStar u && noStar v) = true → P (.Raise (some (.Call (.Name g w3) [u, v] [] w2)) none w1)) : P s := by
  refine onSRaise_el (P := fun s => P (s)) hz fun u1 u2 w1 h1 => ?_
  refine onSome_el (P := fun u1 => P ((.Raise u1 u2 w1))) h1 fun u3 h2 => ?_
  refine onCall_el (P := fun u3 => P ((.Raise (some u3) u2 w1))) h2 fun u4 u5 u6 w2 h3 => ?_
  refine onName_el (P := fun u4 => P ((.Raise (some (.Call u4 u5 u6 w2)) u2 w1))) h3 fun g w3 h4 => ?_
  refine on2_el (P := fun u5 => P ((.Raise (some (.Call (.Name g w3) u5 u6 w2)) u2 w1))) h4 fun u v h5 => ?_
  refine on0_el (P := fun u6 => P ((.Raise (some (.Call (.Name g w3) [u, v] u6 w2)) u2 w1))) h5 fun h6 => ?_
  refine onNone_el (P := fun u2 => P ((.Raise (some (.Call (.Name g w3) [u, v] [] w2)) u2 w1))) h6 fun h7 => ?_
  exact k _ _ _ _ _ _ h7
theorem iS_brk {cs : Scope} {ns : List PySem.Str} {tb : Bool} {P : Stmt → Prop} {s : Stmt} (hz : mS cs ns (.brk) tb s = true) (k : ∀ w1, (true) = true → P (.Break w1)) : P s := by
  refine onSBreak_el (P := fun s => P (s)) hz fun w1 h1 => ?_
  exact k _ h1
theorem iS_heard {cs : Scope} {ns : List PySem.Str} {b : MSs} {tb : Bool} {P : Stmt → Prop} {s : Stmt} (hz : mS cs ns (.heard b) tb s = true) (k : ∀ xs hs w1, (tb && mSs cs ns b tb xs && isHandler cs hs) = true → P (.Try xs hs [] [] w1)) : P s := by
  refine onSTry_el (P := fun s => P (s)) hz fun xs hs u1 u2 w1 h1 => ?_
  refine on0_el (P := fun u1 => P ((.Try xs hs u1 u2 w1))) h1 fun h2 => ?_
  refine on0_el (P := fun u2 => P ((.Try xs hs [] u2 w1))) h2 fun h3 => ?_
  exact k _ _ _ h3
theorem iS_tryOk {cs : Scope} {ns : List PySem.Str} {b : MSs} {tb : Bool} {P : Stmt → Prop} {s : Stmt} (hz : mS cs ns (.tryOk b) tb s = true) (k : ∀ xs w1 w2 w3, (mSs cs ns b tb xs) = true → P (.Try xs (w2 :: w3) [] [] w1)) : P s := by
  refine onSTry_el (P := fun s => P (s)) hz fun xs u1 u2 u3 w1 h1 => ?_
  refine onCons_el (P := fun u1 => P ((.Try xs u1 u2 u3 w1))) h1 fun w2 w3 h2 => ?_
  refine on0_el (P := fun u2 => P ((.Try xs (w2 :: w3) u2 u3 w1))) h2 fun h3 => ?_
  refine on0_el (P := fun u3 => P ((.Try xs (w2 :: w3) [] u3 w1))) h3 fun h4 => ?_
  exact k _ _ _ _ h4
end Lr
end
section
open PySem PySem.W PyProof.Rows PySem.SeqAt PySem.Calls
set_option maxRecDepth 100000
set_option maxHeartbeats 8000000
namespace Lr
noncomputable def FlowOk (S : Site) (c : Act) (led : Led) (h : Heap) : Fl → Flow → Prop
  | .next, f => f = .next
  | .brk, f => f = .brk
  | .ret b, f => ∃ val, f = .ret val ∧ BdOk S.rp led h c.h₀.objs.size val b
noncomputable def Fl.isRet : Fl → Bool
  | .ret _ => true
  | _ => false
noncomputable def StOk (S : Site) (c : Act) (ns : List PySem.Str) (ρ : Fm) (p : Int) (t : Sem Flow) (o : Res St × Int) : Prop :=
  ∀ (s : Shared) (m : Names) (own : Own) (led : Led) (Q : Flow → Shared → Prop) (E : Value → Shared → Prop), Sd S c ns ρ p m own led s.heap →
    (∀ fl ρ' q, o = (.ok (fl, ρ'), q) → ∀ h' tk m' own' led' f, Sd S c ns ρ' q m' own' led' h' → (fl.isRet = false → ∀ z ∈ led, z ∈ led') → FlowOk S c led' h' fl f → Q f { s with heap := h', toks := tk }) →
    (∀ x q, o = (.exn x, q) → ExK S c s E x q) → wpAny (model pw S.w) c.A t Q E s
theorem StOk.seq {S : Site} {c : Act} {ns : List PySem.Str} {ρ : Fm} {p : Int} {t : Sem Flow} {k : Flow → Shared → Prop} {E : Value → Shared → Prop} {mA : M St} {β : Type} {f : St → M β} {o : Res β × Int} (h : bnd mA f p = some o) (H : ∀ oA, mA p = some oA → StOk S c ns ρ p t oA)
    {s : Shared} {m : Names} {own : Own} {led : Led} (R : Sd S c ns ρ p m own led s.heap)
    (hex : ∀ x q, o = (.exn x, q) → ExK S c s E x q)
    (hok : ∀ fl ρ' q, f (fl, ρ') q = some o → ∀ h' tk m' own' led' g, Sd S c ns ρ' q m' own' led' h' → (fl.isRet = false → ∀ z ∈ led, z ∈ led') → FlowOk S c led' h' fl g → k g { s with heap := h', toks := tk }) : wpAny (model pw S.w) c.A t k E s := by
  rcases bnd_some h with ⟨⟨fl, ρ'⟩, q, e1, e2⟩ | ⟨x, q, e1, e2⟩
  · exact H _ e1 s m own led k E R (fun fl' ρ'' q' e => by cases e; exact hok fl ρ' q e2) (fun x q e => by cases e)
  · exact H _ e1 s m own led k E R (fun fl' ρ'' q' e => by cases e) (fun x' q' e => by cases e; exact hex x q e2)
section
variable {S : Site} {c : Act} {n : Nat} {ns : List PySem.Str}
noncomputable def Act.with (c : Act) (I : Addr) (o : Obj) : Act := { c with by_ := (I, o) :: c.by_ }
theorem Cx.with (X : Cx S c n) (I : Addr) (o : Obj) : Cx S (c.with I o) n := ⟨X.so, ⟨X.k.fn, X.k.fr, X.k.hh, X.k.gu, X.k.depth, X.k.units, X.k.l0, X.k.pen0, X.k.lb⟩⟩
theorem Sd.with {ρ : Fm} {p : Int} {m : Names} {own : Own} {led : Led} {h : Heap} (R : Sd S c ns ρ p m own led h) {I : Addr} {o : Obj} {vs : Array Value} (e : h.get? I = some o) (hd : o.data = .fields vs) : Sd S (c.with I o) ns ρ p m own led h :=
  ⟨R.hp, R.kept, R.nsL, R.sat, R.ne, R.fresh, R.vals, R.owns, R.ownAt, R.nodup, fun q hq => by
    rcases List.mem_cons.mp hq with rfl | hq
    · exact ⟨⟨vs, hd⟩, e⟩
    · exact R.bys q hq⟩
theorem Sd.drop {ρ : Fm} {p : Int} {m : Names} {own : Own} {led : Led} {h : Heap} {I : Addr} {o : Obj} (R : Sd S (c.with I o) ns ρ p m own led h) : Sd S c ns ρ p m own led h ∧ h.get? I = some o :=
  ⟨⟨R.hp, R.kept, R.nsL, R.sat, R.ne, R.fresh, R.vals, R.owns, R.ownAt, R.nodup, fun q hq => R.bys q (.tail _ hq)⟩, (R.bys (I, o) (.head _)).2⟩
theorem Fly.drop {x : Exc} {p : Int} {e : Addr} {h : Heap} {I : Addr} {o : Obj} (f : Fly S (c.with I o) x p e h) : Fly S c x p e h := ⟨f.it, f.kept, f.pen⟩
theorem while_fuel {C : Nat → List V → M Bd} (X : Cx S c (n + 1)) {test : Expr} {body : List Stmt} {ct : Fm → M Bool} {cb : Fm → M St}
    (HT : ∀ ρ p o, ct ρ p = some o → CondOk S c ns ρ p (isTrue test c.env (eval test c.env)) o) (HB : ∀ ρ p o, cb ρ p = some o → StOk S c ns ρ p (execs body c.env) o)
    {pos : Pos} {k : Nat} {ρ : Fm} {p : Int} {o : Res St × Int} (he : iterW ct cb k ρ p = some o) : StOk S c ns ρ p (exec (.While test body [] pos) c.env) o := by
  intro s m own led Q E R hok hex
  refine wpAny_While ?_
  refine codeAny_whileLoop (fun k s' => ∃ h tk ρ' p' m' own' led', s' = { s with heap := h, toks := tk } ∧ iterW ct cb k ρ' p' = some o ∧ Sd S c ns ρ' p' m' own' led' h ∧ ∀ z ∈ led, z ∈ led') ?_ k ⟨s.heap, s.toks, ρ, p, m, own, led, rfl, he, R, fun _ h => h⟩
  rintro k s' ⟨h, tk, ρ', p', m', own', led', rfl, hi, R', sl⟩
  cases k with
  | zero => exact absurd hi (by unfold iterW; exact fun q => nomatch q)
  | succ k =>
    rw [iterW] at hi
    have ex : ∀ x q, o = (.exn x, q) → ExK S c { s with heap := h, toks := tk } (notedBy (model pw S.w) c.A c.env fun e s' => cameBackBy (model pw S.w) c.A c.env E e s') x q := fun x q e er h' tk' f => fly_back X (fun e' h2 tk2 f2 => hex x q e e' h2 tk2 f2) f
    refine CondOk.seq hi (fun oA ha => HT ρ' p' oA ha) R' ex fun b q h2 h1 tk1 led1 R1 s1 => ?_
    cases b with
    | false => exact wpAny_execs_nil (hok .next ρ' q (ret_some h2) h1 tk1 m' own' led1 .next R1 (fun _ z hz => s1 z (sl z hz)) rfl)
    | true =>
      refine StOk.seq (show bnd _ _ _ = some o from h2) (fun oA ha => HB ρ' q oA ha) R1 (fun x q e => ex x q e) fun fl ρ2 q2 h3 h4 tk2 m2 own2 led2 g R2 s2 hg => ?_
      cases fl with
      | next =>
        cases hg
        exact ⟨k, Nat.lt_succ_self _, h4, tk2, ρ2, q2, m2, own2, led2, rfl, h3, R2, fun z hz => s2 rfl z (s1 z (sl z hz))⟩
      | brk =>
        cases hg
        exact hok .next ρ2 q2 (ret_some h3) h4 tk2 m2 own2 led2 .next R2 (fun _ z hz => s2 rfl z (s1 z (sl z hz))) rfl
      | ret b =>
        obtain ⟨val, rfl, hb⟩ := hg
        exact hok (.ret b) ρ2 q2 (ret_some h3) h4 tk2 m2 own2 led2 _ R2 (fun h => nomatch h) ⟨val, rfl, hb⟩
theorem for_walk (X : Cx S c (n + 1)) (hn : ns.Nodup) {x : Nat} {y : PySem.Str} (hx : isLoc c.cs ns x y = true) {yp : Pos} {body : List Stmt} {cb : Fm → M St} {I : Addr} {fp : List Addr} {St' : Nat → Heap → Prop} {P : Nat → Value → Prop} {vals : List V} {led₁ : Led}
    (W : Walks pw S.w c.A I fp [I] vals.length P St') (hobj : ∀ i h, St' i h → ∃ o vs, h.get? I = some o ∧ o.data = .fields vs)
    (hst : ∀ i h h', St' i h → h'.get? I = h.get? I → (∀ q ∈ led₁, SatE h' q) → St' i h')
    (hP : ∀ i v, i < vals.length → P i v → ∃ d, vals[i]? = some d ∧ Rep S.rp led₁ v d)
    (HB : ∀ o ρ p r, cb ρ p = some r → StOk S (c.with I o) ns ρ p (execs body c.env) r)
    (hI : c.h₀.objs.size ≤ I) (hbI : ∀ q ∈ c.by_, q.1 ≠ I)
    {ρ : Fm} {p : Int} {o : Res St × Int} (he : iterL x cb vals ρ p = some o) {s : Shared} {m : Names} {own : Own} {led : Led} {Q : Flow → Shared → Prop} {E : Value → Shared → Prop} (R : Sd S c ns ρ p m own led s.heap) (hs : St' 0 s.heap) (hl : ∀ q ∈ led₁, q ∈ led)
    (hok : ∀ fl ρ' q, o = (.ok (fl, ρ'), q) → ∀ h' tk m' own' led' f, Sd S c ns ρ' q m' own' led' h' → (fl.isRet = false → ∀ z ∈ led, z ∈ led') → FlowOk S c led' h' fl f → Q f { s with heap := h', toks := tk })
    (hex : ∀ x q, o = (.exn x, q) → ExK S c s E x q) :
    codeAny (model pw S.w) c.A (.forLoop (.Name y yp) (.ref I) body [] c.env) (fun r s' => match r with | .ok f => Q f s' | .error e => cameBackBy (model pw S.w) c.A c.env E e s') s := by
  refine codeAny_forLoop (fun k s' => ∃ i h tk ρ' p' m' own' led', k = vals.length + 1 - i ∧ i ≤ vals.length ∧ s' = { s with heap := h, toks := tk } ∧ iterL x cb (vals.drop i) ρ' p' = some o ∧ Sd S c ns ρ' p' m' own' led' h ∧ St' i h ∧ (∀ q ∈ led₁, q ∈ led') ∧ (∀ z ∈ led, z ∈ led')) ?_ (vals.length + 1)
    ⟨0, s.heap, s.toks, ρ, p, m, own, led, rfl, Nat.zero_le _, rfl, he, R, hs, hl, fun _ h => h⟩ (by intro v; rfl)
  rintro k s' ⟨i, h, tk, ρ', p', m', own', led', rfl, hi, rfl, hit, R', st, hl', sl⟩
  have ex : ∀ h tk x q, o = (.exn x, q) → ExK S c { s with heap := h, toks := tk } (notedBy (model pw S.w) c.A c.env fun e s' => cameBackBy (model pw S.w) c.A c.env E e s') x q := fun h tk x q e er h' tk' f => fly_back X (fun e' h2 tk2 f2 => hex x q e e' h2 tk2 f2) f
  have keep : ∀ {h h' : Heap} {ρ' : Fm} {p' : Int} {m' : Names} {own' : Own} {led' : Led}, Sd S c ns ρ' p' m' own' led' h → (∃ o vs, h.get? I = some o ∧ o.data = .fields vs) → (∀ b o, b ∉ [I] → h.get? b = some o → h'.get? b = some o) → Sd S c ns ρ' p' m' own' led' h' := fun {h h'} {ρ'} {p'} {m'} {own'} {led'} R ⟨o, vs, ho, hd⟩ k => by
    have nL : c.L ≠ I := fun q => by
      obtain ⟨o', es, ep, ho', hd', _⟩ := R.nsL
      rw [q, ho] at ho'; cases ho'; rw [hd] at hd'; cases hd'
    have nAp : S.ap ≠ I := fun q => by
      obtain ⟨o', _, _, ho', hd'⟩ := R.hp.pen.seq
      rw [q, ho] at ho'; cases ho'; rw [hd] at hd'; cases hd'
    have kp : Kp [I] h h' := Kp.of_keeps k
    have nS : ∀ q, SatE h q → q.1 ≠ I := fun q ⟨o', _, ho', _, hd'⟩ w => by rw [w, ho] at ho'; cases ho'; rw [hd] at hd'; cases hd'
    refine ⟨⟨fun b o e => k b o (by
        simp only [List.mem_cons, List.not_mem_nil, or_false]
        intro w
        exact absurd (w ▸ Heap.lt_size e) (Nat.not_lt.mpr (Nat.le_trans X.k.lb hI))) (R.hp.stays b o e), ff_step (fun b o' e n => ⟨o', k b o' (by
        simp only [List.mem_cons, List.not_mem_nil, or_false]
        intro w
        rw [w, ho] at e; cases e
        exact n vs hd) e, n⟩) R.hp.ff, R.hp.pen.kp kp (by simpa using nAp)⟩, R.kept.less kp fun b hb => .inr (by simp at hb; subst hb; exact none_of_ge hI), kp.ns R.nsL (by simpa using nL),
      fun q hq => kp.sat (R.sat q hq) (by simpa using nS q (R.sat q hq)), R.ne, R.fresh, R.vals, R.owns, fun e he => let ⟨a, r⟩ := R.ownAt e he; ⟨kp.own a (by
        simp only [List.mem_cons, List.not_mem_nil, or_false]
        intro w
        obtain ⟨o', _, ho', _, _, hd'⟩ := a
        rw [w, ho] at ho'; cases ho'; rw [hd] at hd'; cases hd'), r⟩, R.nodup, fun q hq => ⟨(R.bys q hq).1, k _ _ (by simpa using hbI q hq) (R.bys q hq).2⟩⟩
  rcases Nat.lt_or_ge i vals.length with hlt | hge
  · refine W.item i _ _ _ hlt st fun v h1 tk1 hPv st1 k1 => ?_
    obtain ⟨d, hd, rd⟩ := hP i v hlt hPv
    have hdrop : vals.drop i = d :: vals.drop (i + 1) := by
      obtain ⟨hl, e⟩ := List.getElem?_eq_some_iff.mp hd
      rw [List.drop_eq_getElem_cons hl, e]
    rw [hdrop, iterL] at hit
    have R1 := keep R' (hobj i h st) k1
    obtain ⟨ob, vs, ho, hov⟩ := hobj (i + 1) h1 st1
    have R1' := R1.with ho hov
    have X' := X.with I ob
    refine wpAny_assign_Name (storeOk (c := c.with I ob) (s := { s with heap := h1, toks := tk1 }) R1' X' hn hx (rd.mono hl') fun h2 R2 => ?_)
    refine StOk.seq (c := c.with I ob) hit (fun oA ha => HB ob _ p' oA ha) R2 (fun x q e er h' tk' f => ex h2 _ x q e er h' tk' f.drop) fun fl ρ2 q2 h3 h4 tk2 m2 own2 led2 g R3 s3 hg => ?_
    obtain ⟨R4, hI4⟩ := R3.drop
    cases fl with
    | next =>
      cases hg
      refine ⟨vals.length + 1 - (i + 1), by omega, i + 1, h4, tk2, ρ2, q2, m2, own2, led2, rfl, hlt, rfl, h3, R4, hst _ h1 h4 st1 (hI4.trans ho.symm) (fun q hq => R4.sat q (s3 rfl q (hl' q hq))), fun q hq => s3 rfl q (hl' q hq), fun z hz => s3 rfl z (sl z hz)⟩
    | brk =>
      cases hg
      exact hok .next ρ2 q2 (ret_some h3) h4 tk2 m2 own2 led2 .next R4 (fun _ z hz => s3 rfl z (sl z hz)) rfl
    | ret b =>
      obtain ⟨val, rfl, hb⟩ := hg
      exact hok (.ret b) ρ2 q2 (ret_some h3) h4 tk2 m2 own2 led2 _ R4 (fun h => nomatch h) ⟨val, rfl, hb⟩
  · have : i = vals.length := Nat.le_antisymm hi hge
    subst this
    refine W.done _ _ _ st fun h1 tk1 k1 => ?_
    rw [List.drop_length, iterL] at hit
    exact wpAny_execs_nil (hok .next ρ' p' (ret_some hit) h1 tk1 m' own' led' .next (keep R' (hobj _ h st) k1) (fun _ => sl) rfl)
end
end Lr
end
section
open PySem PySem.W PyProof.Rows PySem.SeqAt PySem.Calls
set_option maxRecDepth 100000
set_option maxHeartbeats 8000000
namespace Lr
theorem swap_no {v : Expr} (h : noComp v = true) (t : Option Expr) (l : Nat) (env : Env) : swapsWith v t l env = pure false := by
  cases v <;> first | exact absurd h Bool.false_ne_true | rfl
theorem noTup_comp {v : Expr} (h : noTup v = true) : noComp v = true := by
  cases v <;> first | exact absurd h Bool.false_ne_true | exact h
theorem stores_no {v : Expr} (h : noTup v = true) (elts : List Expr) (k : Nat) (tp : Pos) (env : Env) : swappedStores [.Tuple elts k tp] v env = pure none := by
  cases v <;> first | exact absurd h Bool.false_ne_true | rfl
theorem set_no {v : Expr} (h : noSet v = true) (env : Env) (x : Value) : foldedSetIterable v env x = pure x := by
  cases v <;> first | exact absurd h Bool.false_ne_true | rfl
section
variable {S : Site} {c : Act} {n : Nat} {ns : List PySem.Str} {ρ : Fm} {p : Int} {m : Names} {own : Own} {led : Led} {s : Shared} {E : Value → Shared → Prop}
theorem ownOk2 (X : Cx S c (n + 1)) {i : Nat} {x : PySem.Str} {pos : Pos} (hx : isLoc c.cs ns i x = true) (R : Sd S c ns ρ p m own led s.heap) {l : List V} (e : get ρ i = some (.own l)) {Q : Value → Shared → Prop}
    (hk : ∀ a vs, (i, a, vs) ∈ own → m x = some (.ref a) → RepL S.rp led vs l → Q (.ref a) s) : wpAny (model pw S.w) c.A (eval (.Name x pos) c.env) Q E s := by
  unfold isLoc okName at hx
  simp only [Bool.and_eq_true, beq_iff_eq, Bool.not_eq_true'] at hx
  obtain ⟨⟨h1, h2⟩, h3, h4⟩ := hx
  obtain ⟨nm, a, vs, g1, g2, g3, g4⟩ := R.owns i l e
  rw [h1] at g1; cases g1
  exact wpAny_Name (wpAny_loadName_local X.k.fn h2 R.nsL g2 (hk a vs g3 g2 g4)) h3
theorem loadOk (X : Cx S c (n + 1)) {i : Nat} {x : PySem.Str} (hx : isLoc c.cs ns i x = true) (R : Sd S c ns ρ p m own led s.heap) {v : V} (e : get ρ i = some (.val v)) {Q : Value → Shared → Prop}
    (hk : ∀ val, Rep S.rp led val v → Q val s) : wpAny (model pw S.w) c.A (loadName c.env x) Q E s := by
  unfold isLoc okName at hx
  simp only [Bool.and_eq_true, beq_iff_eq, Bool.not_eq_true'] at hx
  obtain ⟨⟨h1, h2⟩, h3, h4⟩ := hx
  obtain ⟨nm, val, g1, g2, g3⟩ := R.vals i v e
  rw [h1] at g1; cases g1
  exact wpAny_loadName_local X.k.fn h2 R.nsL g2 (hk val g3)
theorem loc_ns {cs : Scope} {i : Nat} {x : PySem.Str} (hx : isLoc cs ns i x = true) : ns[i]? = some x := by
  unfold isLoc at hx
  simp only [Bool.and_eq_true, beq_iff_eq] at hx
  exact hx.1.1
theorem loc_kind {cs : Scope} {i : Nat} {x : PySem.Str} (hx : isLoc cs ns i x = true) : cs.names.lookup x = some .local := by
  unfold isLoc at hx
  simp only [Bool.and_eq_true, beq_iff_eq] at hx
  exact hx.1.2
theorem store2 (X : Cx S c n) (hn : ns.Nodup) {x y : Nat} {nx ny : PySem.Str} (hx : isLoc c.cs ns x nx = true) (hy : isLoc c.cs ns y ny = true) {u v : Value} {a b : V} (ru : Rep S.rp led u a) (rv : Rep S.rp led v b) (R : Sd S c ns ρ p m own led s.heap) {px py : Pos} {Q : Unit → Shared → Prop}
    (hk : ∀ h' tk m', Sd S c ns (put (put ρ x (.val a)) y (.val b)) p m' own led h' → Q () { s with heap := h', toks := tk }) :
    wpAny (model pw S.w) c.A (assignInOrder [assign (.Name nx px) c.env, assign (.Name ny py) c.env] [u, v]) Q E s := by
  refine wpAny_assignInOrder_more (wpAny_assign_Name (storeOk R X hn hx ru fun h1 R1 => wpAny_assignInOrder_more (wpAny_assign_Name (storeOk (s := { s with heap := h1, toks := s.toks + 1 }) R1 X hn hy rv fun h2 R2 => wpAny_assignInOrder_none (hk h2 _ _ R2)))))
theorem RepL.two {ap : Option Addr} {led : Led} {vs : List Value} {a b : V} (h : RepL ap led vs [a, b]) : ∃ u v, vs = [u, v] ∧ Rep ap led u a ∧ Rep ap led v b := by
  cases h with
  | cons ru h => cases h with
    | cons rv h => cases h; exact ⟨_, _, rfl, ru, rv⟩
theorem put_comm {x y : Nat} (h : x ≠ y) (a b : Bd) : put (put ρ x a) y b = put (put ρ y b) x a := by
  unfold put
  exact List.set_comm _ _ h
theorem swapped_eq {env : Env} (hk : env.scope.kind = .function) {x y : PySem.Str} (hx : env.scope.names.lookup x = some .local) (hy : env.scope.names.lookup y = some .local) {p1 p2 : Pos} {a b : Expr} (h : pairOk x p1 y p2 a b = true) (k k2 : Nat) (tp vp : Pos) :
    swappedStores [.Tuple [.Name x p1, .Name y p2] k tp] (.Tuple [a, b] k2 vp) env = pure (if foldedForSure 8 a && foldedForSure 8 b then none else some [x, y]) := by
  unfold pairOk at h
  simp only [Bool.and_eq_true, Bool.not_eq_true', beq_iff_eq, beq_eq_false_iff_ne, Bool.or_eq_true] at h
  obtain ⟨⟨⟨⟨h1, h2⟩, h3⟩, h4⟩, h5⟩ := h
  have sg : ∀ e : Expr, noStar e = true → (match e with | .Starred .. => true | _ => false) = false := fun e he => by cases e <;> first | exact absurd he Bool.false_ne_true | rfl
  have sa := sg a h3
  have sb := sg b h4
  have bk : env.blockKind = .function := by unfold Env.blockKind; rw [hk]; rfl
  have kx : env.kindOf x = some .local := hx
  have ky : env.kindOf y = some .local := hy
  have e1 : ¬ y = x := fun q => h2 q.symm
  have l1 : (Expr.Name x p1).pos = p1 := rfl
  unfold swappedStores
  rw [bk]
  by_cases f : (foldedForSure 8 a && foldedForSure 8 b) = true
  · have f' : [a, b].all (foldedForSure 8) = true := by simpa using f
    have f2 := f
    simp only [Bool.and_eq_true] at f2
    simp [kx, ky, l1, h1, e1, List.eraseDups_cons, f2]
  · have f' : [a, b].all (foldedForSure 8) = false := by simpa using f
    have g : [a, b].all (constantsAlone 8) = false := by
      rcases h5 with h5 | h5
      · exact absurd (by simpa using h5) f
      · simpa using h5
    have f2 := f
    have g2 := g
    simp only [Bool.and_eq_true] at f2
    simp only [List.all_cons, List.all_nil, Bool.and_true, Bool.and_eq_false_iff] at g2
    have g3 : ¬ (constantsAlone 8 a = true ∧ constantsAlone 8 b = true) := by
      rintro ⟨q1, q2⟩
      rcases g2 with q | q
      · rw [q1] at q; cases q
      · rw [q2] at q; cases q
    simp [kx, ky, l1, h1, e1, List.eraseDups_cons, f2, g3]
    intro w
    rcases w with w | w
    · exact absurd (sa.symm.trans w) Bool.false_ne_true
    · exact absurd (sb.symm.trans w) Bool.false_ne_true
theorem pair_exec {M : Model} {A : Around} {E : Value → Shared → Prop} {s : Shared} {env : Env} (hk : env.scope.kind = .function) {x y : PySem.Str} (hx : env.scope.names.lookup x = some .local) (hy : env.scope.names.lookup y = some .local) {p1 p2 : Pos} {a b : Expr} (h : pairOk x p1 y p2 a b = true) {k k2 : Nat} {tp vp pos : Pos} {Q : Flow → Shared → Prop}
    (hv : wpAny M A (eval (.Tuple [a, b] k2 vp) env) (fun v s₁ => wpAny M A (assign (.Tuple [.Name x p1, .Name y p2] k tp) env v) (fun _ s₂ => Q .next s₂) E s₁ ∧
      wpAny M A (unpackItems v 2 none) (fun items s₂ => wpAny M A (assignInOrder [bindName env y, bindName env x] items.reverse) (fun _ s₃ => Q .next s₃) E s₂) E s₁) E s) :
    wpAny M A (exec (.Assign [.Tuple [.Name x p1, .Name y p2] k tp] (.Tuple [a, b] k2 vp) pos) env) Q E s := by
  show wpAny M A (do
    standAt pos
    if ← swapsWithSole [.Tuple [.Name x p1, .Name y p2] k tp] (.Tuple [a, b] k2 vp) pos.line env then do
      evalThenUse (.Tuple [a, b] k2 vp) env fun v => assignAll v ((assignEach [.Tuple [.Name x p1, .Name y p2] k tp] env).map (·.2))
      pure .next
    else do
      let v ← eval (.Tuple [a, b] k2 vp) env
      assignStores env v (← swappedStores [.Tuple [.Name x p1, .Name y p2] k tp] (.Tuple [a, b] k2 vp) env) ((assignEach [.Tuple [.Name x p1, .Name y p2] k tp] env).map (·.2))) Q E s
  refine wpAny_bind (wpAny_standAt (wpAny_bind (wpAny_pure ?_)))
  simp only [Bool.false_eq_true, if_false]
  refine wpAny_bind (wpAny_mono hv (fun v s₁ h₁ => ?_) fun _ _ x => x)
  rw [swapped_eq hk hx hy h]
  refine wpAny_bind (wpAny_pure ?_)
  split
  · exact wpAny_bind (wpAny_mono h₁.1 (fun _ s₂ h₂ => wpAny_pure h₂) fun _ _ x => x)
  · refine wpAny_bind (wpAny_rule (wpAny_bind (wpAny_mono h₁.2 (fun items s₂ h₂ => ?_) fun _ _ x => x)))
    exact wpAny_bind (wpAny_mono h₂ (fun _ s₃ h₃ => wpAny_pure h₃) fun _ _ x => x)
noncomputable def RaiseOk (S : Site) (n : Nat) : Prop := ∀ (c : Act), Cx S c (n + 1) → ∀ {ns : List PySem.Str} {ρ : Fm} {p : Int} {s : Shared} {m : Names} {own : Own} {led : Led} {va vb : Value} {l : List Nat} {y : V} {Q : Flow → Shared → Prop} {E : Value → Shared → Prop},
  Sd S c ns ρ p m own led s.heap → Rep S.rp led va (.str l) → Rep S.rp led vb y → ExK S c s E ⟨1, l, y⟩ p →
    wpAny (model pw S.w) c.A (call (.ref (fnAddr 0)) [va, vb]) (fun xv s₁ => wpAny (model pw S.w) c.A (raiseStmt c.env (some (pure xv)) none) Q E s₁) E s
noncomputable def HeardOk (S : Site) (n : Nat) : Prop := ∀ (c : Act), Cx S c (n + 1) → c.by_ = [] → ∀ {ns : List PySem.Str} {p : Int} {s : Shared} {x : Exc} {e : Addr} {hs : List ExceptHandler} {Q : Flow → Shared → Prop} {E : Value → Shared → Prop},
  isHandler c.cs hs = true → Fly S c x p e s.heap →
    (∀ h' tk m' led' val, Sd S c ns [] p m' [] led' h' → Rep S.rp led' val (.tup [.str [114, 97, 105, 115, 101, 100], .int x.code, .str x.value, x.ec]) → Q (.ret val) { s with heap := h', toks := tk }) →
    wpAny (model pw S.w) c.A (noteFrame (.ref e) c.env) (fun _ s₂ => wpAny (model pw S.w) c.A (setFlight (.ref e) none) (fun _ s₃ => wpAny (model pw S.w) c.A (handleBy (.ref e) c.env hs) Q E s₃) E s₂) E s
theorem raise_exec {M : Model} {A : Around} {E : Value → Shared → Prop} {s : Shared} {env : Env} {x : Expr} {pos : Pos} {Q : Flow → Shared → Prop}
    (h : wpAny M A (eval x env) (fun xv s₁ => wpAny M A (raiseStmt env (some (pure xv)) none) Q E s₁) E s) : wpAny M A (exec (.Raise (some x) none pos) env) Q E s := by
  show wpAny M A (do standAt pos; raiseStmt env (some (do let v ← eval x env; standAt pos; pure v)) none) Q E s
  refine wpAny_bind (wpAny_standAt ?_)
  show wpAny M A ((do let v ← eval x env; standAt pos; pure v) >>= fun xv => raiseStmt env (some (pure xv)) none) Q E s
  exact wpAny_bind (wpAny_bind (wpAny_mono h (fun v s₁ h₁ => wpAny_bind (wpAny_standAt (wpAny_pure h₁))) fun _ _ x => x))
theorem raise_split (env : Env) (x : Sem Value) : raiseStmt env (some x) none = (x >>= fun xv => raiseStmt env (some (pure xv)) none) := rfl
end
noncomputable def PS (S : Site) (n : Nat) (ns : List PySem.Str) (C : Nat → List V → M Bd) (st : MS) : Prop := ∀ (c : Act), Cx S c (n + 1) → ∀ (q : Bool), (q = true → c.by_ = []) → ∀ (x : Stmt), mS c.cs ns st q x = true → ∀ (ρ : Fm) (p : Int) (o : Res St × Int), ex C ρ st p = some o → StOk S c ns ρ p (exec x c.env) o
noncomputable def PSs (S : Site) (n : Nat) (ns : List PySem.Str) (C : Nat → List V → M Bd) (ss : MSs) : Prop := ∀ (c : Act), Cx S c (n + 1) → ∀ (q : Bool), (q = true → c.by_ = []) → ∀ (xs : List Stmt), mSs c.cs ns ss q xs = true → ∀ (ρ : Fm) (p : Int) (o : Res St × Int), exs C ρ ss p = some o → StOk S c ns ρ p (execs xs c.env) o
section
variable {S : Site} {n : Nat} {ns : List PySem.Str} {C : Nat → List V → M Bd}
mutual
theorem stX (HC : ∀ f l p o, C f l p = some o → CallOk S n f l p o) (hn : ns.Nodup) (HR : RaiseOk S n) (HH : HeardOk S n) : ∀ (st : MS), PS S n ns C st
  | .set x e => by
    intro c X q hq st h ρ p o he
    refine iS_set (P := fun st => StOk S c ns ρ p (exec st c.env) o) h fun _ _ _ _ hh => ?_; clear h; have h := hh
    dsimp only [w_set] at he
    simp only [Bool.and_eq_true] at h
    intro s m own led Q E R hok hex
    refine wpAny_Assign_Name (EvOk.seq he (fun oA ha => (bothX X HC e).1 _ h.1.2 _ _ _ ha) R hex fun v q2 h2 h1 tk led1 val R1 s1 r => ?_) (swap_no h.2 _ _ _)
    exact storeOk (s := { s with heap := h1, toks := tk }) R1 X hn h.1.1 r fun h3 R3 => hok .next _ q2 (ret_some h2) h3 _ _ own led1 .next R3 (fun _ => s1) rfl
  | .setOwn x f es => by
    intro c X q hq st h ρ p o he
    refine iS_setOwn (P := fun st => StOk S c ns ρ p (exec st c.env) o) h fun _ _ _ _ _ _ _ hh => ?_; clear h; have h := hh
    dsimp only [w_setOwn] at he
    simp only [Bool.and_eq_true, decide_eq_true_eq, beq_iff_eq] at h
    obtain ⟨⟨⟨⟨⟨w1, w2⟩, w3⟩, w4⟩, w5⟩, w6⟩ := h
    intro s m own led Q E R hok hex
    refine wpAny_Assign_Name (callName (gnameOk X w2 R (w4 ▸ X.so.gd.fn w3) ?_)) rfl
    refine callFn w6 (EvsOk.seq he (fun oA ha => (allX X HC es).1 _ w5 w6 _ _ _ _ ha) R hex fun l q1 h6 h' tk led' vs R' sub rs => ⟨fnAt X w3 R', ?_⟩)
    refine useCall (s := { s with heap := h', toks := tk }) X HC R' rs h6 (fun b q' hb => ?_) (fun x q' e => hex x q' e)
    intro g k led2 val R2 sub2 hB
    cases b with
    | val v => cases hb
    | own us =>
      obtain ⟨a, vs', rfl, hO, hsz, hoff, hr⟩ := hB
      exact storeOwn (s := { s with heap := g, toks := k }) R2 X hn w1 hr hO (R'.new X.k.l0 hsz) (R'.new_ap hsz) hoff (R'.new_own hsz) fun h3 R3 => hok .next _ q' (ret_some hb) h3 _ _ _ led2 .next R3 (fun _ z hz => sub2 z (sub z hz)) rfl
  | .newL x => by
    intro c X q hq st h ρ p o he
    refine iS_newL (P := fun st => StOk S c ns ρ p (exec st c.env) o) h fun _ _ _ _ hh => ?_; clear h; have h := hh
    dsimp only [w_newL] at he
    intro s m own led Q E R hok hex
    refine wpAny_Assign_Name (List_ (wpAny_items_nil (wpAny_newObj_type ?_ (by show (0 : Nat) ≤ _; exact Nat.zero_le _)))) rfl
    have R1 := R.push X { cls := .type "list", data := .seq ([] : List Value).toArray }
    refine storeOwn (s := { s with heap := s.heap.push { cls := .type "list", data := .seq ([] : List Value).toArray } }) R1 X hn h (vs := []) (l := []) .nil ⟨_, 0, Heap.get?_push_size _ rfl, rfl, rfl, rfl⟩ (R.new X.k.l0 (Nat.le_refl _)) (R.new_ap (Nat.le_refl _)) (fun z hz w => ?_) (R.new_own (Nat.le_refl _)) fun h3 R3 => hok .next _ p (ret_some he) h3 _ _ _ led .next R3 (fun _ _ h => h) rfl
    obtain ⟨o', ho'⟩ := (R.sat z hz).at
    exact absurd (Heap.lt_size ho') (by rw [w]; exact Nat.lt_irrefl _)
  | .set2 x y e => by
    intro c X q hq st h ρ p o he
    refine iS_set2 (P := fun st => StOk S c ns ρ p (exec st c.env) o) h fun _ _ _ _ _ _ _ _ hh => ?_; clear h; have h := hh
    dsimp only [w_set2] at he
    simp only [Bool.and_eq_true] at h
    obtain ⟨⟨⟨w1, w2⟩, w3⟩, w4⟩ := h
    intro s m own led Q E R hok hex
    refine Assign_Tuple (EvOk.seq he (fun oA ha => (bothX X HC e).1 _ w3 _ _ _ ha) R hex fun v q2 h2 h1 tk led1 val R1 s1 r => ?_) (by unfold swapsWithSole; exact swap_no (noTup_comp w4) _ _ _) (stores_no w4 _ _ _ _)
    split at h2
    · cases r with | @tup t vs _ hm hr =>
      obtain ⟨u, v, rfl, ru, rv⟩ := hr.two
      refine wpAny_assign_Tuple X.k.handledA (R1.sat _ hm).tup rfl rfl fun h3 ext => ?_
      have R3 := R1.keeps X fun b o e => ext b o (Nat.ne_of_lt (Heap.lt_size e)) e
      exact store2 (s := { s with heap := h3, toks := tk }) X hn w1 w2 ru rv R3 fun h4 tk4 m4 R4 => hok .next _ q2 (ret_some h2) h4 tk4 m4 own led1 .next R4 (fun _ => s1) rfl
    · cases h2
  | .pair x y a b => by
    intro c X q hq st h ρ p o he
    refine iS_pair (P := fun st => StOk S c ns ρ p (exec st c.env) o) h fun _ _ _ _ _ _ _ _ _ _ _ hh => ?_; clear h; have h := hh
    dsimp only [w_pair] at he
    simp only [Bool.and_eq_true] at h
    obtain ⟨⟨⟨⟨w1, w2⟩, w3⟩, w4⟩, w5⟩ := h
    intro s m own led Q E R hok hex
    have hxy : x ≠ y := fun w => by
      subst w
      have h1 := loc_ns w1
      rw [loc_ns w2] at h1
      cases h1
      unfold pairOk at w5
      simp at w5
    have w6 := w5
    unfold pairOk at w6
    simp only [Bool.and_eq_true] at w6
    refine pair_exec X.k.fn (loc_kind w1) (loc_kind w2) w5 (Tuple_ ?_)
    refine wpAny_items_cons (EvOk.seq he (fun oA ha => (bothX X HC a).1 _ w3 _ _ _ ha) R hex fun v1 q1 h2 g1 k1 led1 val1 R1 s1 r1 => wpAny_items_cons (EvOk.seq h2 (fun oA ha => (bothX X HC b).1 _ w4 _ _ _ ha) R1 (fun x q e => hex x q e) fun v2 q2 h3 g2 k2 led2 val2 R2 s2 r2 => wpAny_items_nil ?_) (star_cons w6.1.2 _ _)) (star_cons w6.1.1.2 _ _)
    refine wpAny_newObj_type ?_ (by show [val1, val2].toArray.size ≤ sizeLine; simp [sizeLine])
    have R3 := R2.pushNew X (o := { cls := .type "tuple", data := .seq [val1, val2].toArray }) (t := true) (vs := [val1, val2]) rfl rfl
    have t3 := (R3.sat _ (.head _)).tup
    refine ⟨?_, ?_⟩
    · refine wpAny_assign_Tuple X.k.handledA t3 rfl rfl fun h4 ext => ?_
      have R4 := R3.keeps X fun b o e => ext b o (Nat.ne_of_lt (Heap.lt_size e)) e
      exact store2 (s := { s with heap := h4, toks := k2 }) X hn w1 w2 ((r1.mono s2).mono fun _ h => .tail _ h) (r2.mono fun _ h => .tail _ h) R4 fun h5 tk5 m5 R5 => hok .next _ q2 (ret_some h3) h5 tk5 m5 own _ .next R5 (fun _ z hz => .tail _ (s2 z (s1 z hz))) rfl
    · refine wpAny_unpackItems_tuple (items := [val1, val2].toArray) X.k.handledA t3 fun h4 ext => ?_
      have R4 := R3.keeps X fun b o e => ext b o (Nat.ne_of_lt (Heap.lt_size e)) e
      refine wpAny_assignInOrder_more (wpAny_bindName (storeOk (s := { s with heap := h4, toks := k2 }) R4 X hn w2 (r2.mono fun _ h => .tail _ h) fun h5 R5 => wpAny_assignInOrder_more (wpAny_bindName (storeOk (s := { s with heap := h5, toks := k2 + 1 }) R5 X hn w1 ((r1.mono s2).mono fun _ h => .tail _ h) fun h6 R6 => wpAny_assignInOrder_none ?_))))
      rw [← put_comm hxy] at R6
      exact hok .next _ q2 (ret_some h3) h6 _ _ own _ .next R6 (fun _ z hz => .tail _ (s2 z (s1 z hz))) rfl
  | .aug x op e => by
    intro c X q hq st h ρ p o he
    refine iS_aug (P := fun st => StOk S c ns ρ p (exec st c.env) o) h fun _ _ _ _ _ hh => ?_; clear h; have h := hh
    dsimp only [w_aug] at he
    simp only [Bool.and_eq_true, Bool.or_eq_true, beq_iff_eq] at h
    obtain ⟨⟨⟨w1, w2⟩, w3⟩, w4⟩ := h
    intro s m own led Q E R hok hex
    obtain ⟨u, g, he⟩ := bnd_lift he
    refine wpAny_AugAssign_Name (loadOk X w1 R (get_val g) fun val r => ?_)
    refine EvOk.seq he (fun oA ha => (bothX X HC e).1 _ w4 _ _ _ ha) R hex fun v q2 h2 h1 tk led1 val2 R1 s1 r2 => ?_
    obtain ⟨w, g2, h2⟩ := bnd_lift h2
    split at g2
    · cases r
      cases r2
      rcases w2 with rfl | rfl
      · cases op <;> first | exact absurd w3 Bool.false_ne_true | skip
        cases g2
        exact iadd_int (storeOk (s := { s with heap := h1, toks := tk + 1 }) R1 X hn w1 (.int _ _) fun h3 R3 => hok .next _ q2 (ret_some h2) h3 _ _ own led1 .next R3 (fun _ => s1) rfl)
      · cases op <;> first | exact absurd w3 Bool.false_ne_true | skip
        cases g2
        exact isub_int (storeOk (s := { s with heap := h1, toks := tk + 1 }) R1 X hn w1 (.int _ _) fun h3 R3 => hok .next _ q2 (ret_some h2) h3 _ _ own led1 .next R3 (fun _ => s1) rfl)
    · cases g2
  | .app x e => by
    intro c X q hq st h ρ p o he
    refine iS_app (P := fun st => StOk S c ns ρ p (exec st c.env) o) h fun _ _ _ _ _ _ _ hh => ?_; clear h; have h := hh
    dsimp only [w_app] at he
    simp only [Bool.and_eq_true, beq_iff_eq] at h
    obtain ⟨⟨⟨⟨w1, rfl⟩, w3⟩, w4⟩, w5⟩ := h
    intro s m own led Q E R hok hex
    obtain ⟨l, g, he⟩ := bnd_lift he
    have g : get ρ x = some (.own l) := by
      split at g
      · rename_i e; cases g; exact e
      · cases g
    have nc : noComp (Expr.Call (.Attribute (.Name ‹_› ‹_›) ("append" : PySem.Str) ‹_›) [‹Expr›] [] ‹_›) = true := rfl
    refine wpAny_Expr (methCall rfl (by simpa using w5) (by show 1 < 30; decide) (by simpa using w3) fun pl => ownOk2 X w1 R g fun a vs hm hmx hr => ?_) (by unfold interactive; rw [show c.env.scope.kind = .function from X.k.fn]; rfl) rfl
    obtain ⟨⟨ob, k, ho, hc, hd, hdat⟩, _⟩ := id (R.ownAt _ hm)
    refine PySem.Calls.getMethod_list_append ho hc hd (callBlt (by simpa using w5) ?_)
    refine wpAny_items_cons (EvOk.seq he (fun oA ha => (bothX X HC e).1 _ w4 _ _ _ ha) R hex fun v q2 h2 h1 tk led1 val R1 s1 r => wpAny_items_nil ?_) (star_cons w5 _ _)
    split at h2
    · rename_i hl
      have hr1 : RepL S.rp led1 vs l := hr.mono s1
      refine appendOk (s := { s with heap := h1, toks := tk }) (R1.ownAt _ hm).1 (by rw [hr1.length]; exact Nat.le_trans (Nat.le_of_lt hl) (lid_ok (Nat.le_refl _))) fun h3 hO hs => ?_
      exact hok .next _ q2 (ret_some h2) h3 tk m _ led1 .next (R1.turn X (nm := ‹PySem.Str›) (loc_ns w1) ⟨_, loc_ns w1, hmx⟩ hm (hr1.append (.cons r .nil)) hO hs) (fun _ => s1) rfl
    · cases h2
  | .revs x => by
    intro c X q hq st h ρ p o he
    refine iS_revs (P := fun st => StOk S c ns ρ p (exec st c.env) o) h fun _ _ _ _ _ _ hh => ?_; clear h; have h := hh
    dsimp only [w_revs] at he
    simp only [Bool.and_eq_true, beq_iff_eq] at h
    obtain ⟨⟨w1, rfl⟩, w3⟩ := h
    intro s m own led Q E R hok hex
    obtain ⟨l, g, he⟩ := bnd_lift he
    have g : get ρ x = some (.own l) := by
      split at g
      · rename_i e; cases g; exact e
      · cases g
    refine wpAny_Expr (methCall rfl rfl (by show 0 < 30; decide) (by simpa using w3) fun pl => ownOk2 X w1 R g fun a vs hm hmx hr => ?_) (by unfold interactive; rw [show c.env.scope.kind = .function from X.k.fn]; rfl) rfl
    obtain ⟨⟨ob, k, ho, hc, hd, hdat⟩, _⟩ := id (R.ownAt _ hm)
    refine getMethod_list_of PySem.F.slot_list_reverse PySem.F.type_list_reverse (R.ownAt _ hm).1.list ⟨ob, ho, hd⟩ (callBlt rfl (wpAny_items_nil ?_))
    split at he
    · rename_i hl
      refine reverseOk (R.ownAt _ hm).1 (by rw [hr.length]; exact lid_ok hl) fun h3 hO hs => ?_
      exact hok .next _ p (ret_some he) h3 s.toks m _ led .next (R.turn X (nm := ‹PySem.Str›) (loc_ns w1) ⟨_, loc_ns w1, hmx⟩ hm hr.reverse hO hs) (fun _ _ h => h) rfl
    · cases he
  | .penSet x e => by
    intro c X q hq st h ρ p o he
    refine iS_penSet (P := fun st => StOk S c ns ρ p (exec st c.env) o) h fun _ _ _ _ _ _ _ _ hh => ?_; clear h; have h := hh
    dsimp only [w_penSet] at he
    simp only [Bool.and_eq_true, beq_iff_eq] at h
    obtain ⟨⟨⟨w1, rfl⟩, w3⟩, w4⟩ := h
    intro s m own led Q E R hok hex
    refine wpAny_Assign_Subscript (EvOk.seq he (fun oA ha => (bothX X HC e).1 _ w3 _ _ _ ha) R hex fun v q2 h2 h1 tk led1 val R1 s1 r => ?_) (swap_no w4 _ _ _)
    split at h2
    · rename_i i g
      cases h2
      refine nameOk (s := { s with heap := h1, toks := tk }) X w1 R1 g fun val2 r2 => wpAny_Constant_int ?_
      cases r2 with | pen hpa =>
      obtain ⟨rfl, hlive⟩ := Site.rp_some hpa
      cases r
      obtain ⟨tk', hp⟩ := R1.hp.pen.live hlive
      refine wpAny_setItem_list hp (by decide) (by decide) (by simp) fun h3 hl hs => hok .next ρ i rfl h3 _ m own led1 .next (R1.step' (Kp.of_keeps fun b o hb e => (hs.2 b (fun w => hb (by simp [w]))).trans e) ?_ (fun b o e => (hs.2 b ?_).trans (R1.hp.stays b o e)) X.k.l0 (.of hl hlive)) (fun _ => s1) rfl
      · exact R1.nsL.sameBut hs (Ne.symm R1.pen_ne)
      · intro w
        have := X.so.apn hlive
        rw [← w, e] at this
        cases this
    · cases h2
  | .expr e => by
    intro c X q hq st h ρ p o he
    refine iS_expr (P := fun st => StOk S c ns ρ p (exec st c.env) o) h fun _ _ hh => ?_; clear h; have h := hh
    dsimp only [w_expr] at he
    simp only [Bool.and_eq_true] at h
    intro s m own led Q E R hok hex
    refine wpAny_Expr (EvOk.seq he (fun oA ha => (bothX X HC e).1 _ h.1 _ _ _ ha) R hex fun v q2 h2 h1 tk led1 val R1 s1 r => ?_) (by unfold interactive; rw [show c.env.scope.kind = .function from X.k.fn]; rfl) (swap_no h.2 _ _ _)
    split at h2
    · cases r
      exact hok .next ρ q2 (ret_some h2) h1 tk m own led1 .next R1 (fun _ => s1) rfl
    · cases r
      exact hok .next ρ q2 (ret_some h2) h1 tk m own led1 .next R1 (fun _ => s1) rfl
    · cases h2
  | .ite t a b => by
    intro c X q hq st h ρ p o he
    refine iS_ite (P := fun st => StOk S c ns ρ p (exec st c.env) o) h fun _ _ _ _ hh => ?_; clear h; have h := hh
    dsimp only [w_ite] at he
    simp only [Bool.and_eq_true] at h
    intro s m own led Q E R hok hex
    refine wpAny_If (CondOk.seq he (fun oA ha => (bothX X HC t).2 _ h.1.1 _ _ _ ha) R hex fun b' q2 h2 h1 tk led1 R1 s1 => ?_)
    cases b' with
    | true => exact stsX HC hn HR HH a c X q hq _ h.1.2 ρ q2 o h2 { s with heap := h1, toks := tk } m own led1 Q E R1 (fun fl ρ' q' e h' tk' m' own' led' f R' s' => hok fl ρ' q' e h' tk' m' own' led' f R' fun w z hz => s' w z (s1 z hz)) (fun x q' e => hex x q' e)
    | false => exact stsX HC hn HR HH b c X q hq _ h.2 ρ q2 o h2 { s with heap := h1, toks := tk } m own led1 Q E R1 (fun fl ρ' q' e h' tk' m' own' led' f R' s' => hok fl ρ' q' e h' tk' m' own' led' f R' fun w z hz => s' w z (s1 z hz)) (fun x q' e => hex x q' e)
  | .while_ t b => by
    intro c X q hq st h ρ p o he
    refine iS_while_ (P := fun st => StOk S c ns ρ p (exec st c.env) o) h fun _ _ _ hh => ?_; clear h; have h := hh
    dsimp only [w_while] at he
    simp only [Bool.and_eq_true] at h
    exact while_fuel (C := C) X (fun ρ p o ha => (bothX X HC t).2 _ h.1 _ _ _ ha) (fun ρ p o ha => stsX HC hn HR HH b c X false (fun w => nomatch w) _ h.2 ρ p o ha) he
  | .forS x e b => by
    intro c X q hq st h ρ p o he
    refine iS_forS (P := fun st => StOk S c ns ρ p (exec st c.env) o) h fun _ _ _ _ _ hh => ?_; clear h; have h := hh
    rename_i v xs pos y yp
    dsimp only [w_forS] at he
    simp only [Bool.and_eq_true] at h
    obtain ⟨⟨⟨w1, w2⟩, w3⟩, w4⟩ := h
    intro s m own led Q E R hok hex
    refine wpAny_For (EvOk.seq he (fun oA ha => (bothX X HC e).1 _ w2 _ _ _ ha) R hex fun v q2 h2 h1 tk led1 val R1 s1 r => ?_) (set_no w3 _)
    split at h2
    · cases r with | str z t =>
      have hlen : (z.cps.toList.map fun ch => V.str [ch]).length = z.cps.size := by simp
      have hsign : ∀ i v, i < (z.cps.toList.map fun ch => V.str [ch]).length → SignAt z i v → ∃ d, (z.cps.toList.map fun ch => V.str [ch])[i]? = some d ∧ Rep S.rp led1 v d := fun i v _ ⟨ch, u, e1, e2⟩ => ⟨.str [ch], by simp [e1], by subst e2; exact .str _ _⟩
      have fin : ∀ ty, (W : Walks pw S.w c.A h1.objs.size [h1.objs.size] [h1.objs.size] z.cps.size (SignAt z) fun i h => h.IsStrIter h1.objs.size ty z t i) →
          codeAny (model pw S.w) c.A (.forLoop (.Name y yp) (.ref h1.objs.size) xs [] c.env) (fun r s' => match r with | .ok f => Q f s' | .error e => cameBackBy (model pw S.w) c.A c.env E e s') { s with heap := h1.push { cls := .type ty, data := .fields #[.str z t, .int 0 0] }, toks := tk } := fun ty W => by
        have R2 := R1.push X { cls := .type ty, data := .fields #[.str z t, .int 0 0] }
        refine for_walk (s := { s with heap := h1.push { cls := .type ty, data := .fields #[.str z t, .int 0 0] }, toks := tk }) (vals := z.cps.toList.map fun ch => V.str [ch]) (led₁ := led1) (St' := fun i h => h.IsStrIter h1.objs.size ty z t i) (P := SignAt z) X hn w1 (by rw [hlen]; exact W) (fun i h ⟨o, a, b, d⟩ => ⟨o, _, a, d⟩) (fun i h h' ⟨o, a, b, d⟩ w _ => ⟨o, w.trans a, b, d⟩) hsign
          (fun o ρ p r ha => stsX HC hn HR HH b (c.with _ o) (X.with _ o) false (fun w => nomatch w) _ w4 ρ p r ha) (R1.new X.k.l0 (Nat.le_refl _)) (fun z' hz' w => ?_) h2 R2 ⟨_, Heap.get?_push_size _ rfl, rfl, rfl⟩ (fun _ h => h)
          (fun fl ρ' q' e h' tk' m' own' led' f R' s' => hok fl ρ' q' e h' tk' m' own' led' f R' fun w z hz => s' w z (s1 z hz)) (fun x q' e => hex x q' e)
        exact absurd (Heap.lt_size (R1.bys z' hz').2) (by rw [w]; exact Nat.lt_irrefl _)
      cases ha : z.cps.all (· < 128) with
      | true => exact wpAny_pyIter_ascii (by simpa using ha) (fin _ (Walks.strAscii X.k.handledA _ z t))
      | false => exact wpAny_pyIter_wide (by simpa using ha) (fin _ (Walks.strWide X.k.handledA _ z t))
    · cases h2
  | .forL x e b => by
    intro c X q hq st h ρ p o he
    refine iS_forL (P := fun st => StOk S c ns ρ p (exec st c.env) o) h fun _ _ _ _ _ hh => ?_; clear h; have h := hh
    dsimp only [w_forL] at he
    simp only [Bool.and_eq_true] at h
    obtain ⟨⟨⟨w1, w2⟩, w3⟩, w4⟩ := h
    intro s m own led Q E R hok hex
    refine wpAny_For (EvOk.seq he (fun oA ha => (bothX X HC e).1 _ w2 _ _ _ ha) R hex fun v q2 h2 h1 tk led1 val R1 s1 r => ?_) (set_no w3 _)
    split at h2
    · cases r with | @list a vs l hm hr =>
      have hlt : a < h1.objs.size := let ⟨o, ho⟩ := (R1.sat _ hm).at; Heap.lt_size ho
      refine wpAny_pyIter_list (R1.sat _ hm).list ?_
      have R2 := R1.push X { cls := .type "list_iterator", data := .fields #[.ref a, .int 0 0] }
      refine for_walk (s := { s with heap := h1.push { cls := .type "list_iterator", data := .fields #[.ref a, .int 0 0] }, toks := tk }) (vals := _) (led₁ := led1) (St' := fun i h => h.IsListIter h1.objs.size a i ∧ h.IsList a vs.toArray) (P := fun i v => vs.toArray[i]? = some v) X hn w1 (W := by rw [← hr.length, ← List.size_toArray]; exact Walks.list X.k.handledA h1.objs.size a (Nat.ne_of_lt hlt) vs.toArray)
        (fun i h ⟨⟨o, a, b, d⟩, _⟩ => ⟨o, _, a, d⟩) (fun i h h' ⟨⟨o, a, b, d⟩, _⟩ w w2 => ⟨⟨o, w.trans a, b, d⟩, (w2 _ hm).list⟩) (fun i v _ hv => by
          obtain ⟨d, e1, e2⟩ := hr.nth i v (by simpa using hv)
          exact ⟨d, e1, e2⟩)
        (fun o ρ p r ha => stsX HC hn HR HH b (c.with _ o) (X.with _ o) false (fun w => nomatch w) _ w4 ρ p r ha) (R1.new X.k.l0 (Nat.le_refl _)) (fun z' hz' w => ?_) h2 R2 ⟨⟨_, Heap.get?_push_size _ rfl, rfl, rfl⟩, (R2.sat _ hm).list⟩ (fun _ h => h)
        (fun fl ρ' q' e h' tk' m' own' led' f R' s' => hok fl ρ' q' e h' tk' m' own' led' f R' fun w z hz => s' w z (s1 z hz)) (fun x q' e => hex x q' e)
      exact absurd (Heap.lt_size (R1.bys z' hz').2) (by rw [w]; exact Nat.lt_irrefl _)
    · cases h2
  | .forR x e b => by
    intro c X q hq st h ρ p o he
    refine iS_forR (P := fun st => StOk S c ns ρ p (exec st c.env) o) h fun _ _ _ _ _ _ _ _ hh => ?_; clear h; have h := hh
    dsimp only [w_forR] at he
    simp only [Bool.and_eq_true, beq_iff_eq] at h
    obtain ⟨⟨⟨⟨⟨w1, w2⟩, rfl⟩, w3⟩, w5⟩, w4⟩ := h
    intro s m own led Q E R hok hex
    refine wpAny_For (callName (bnameOk X w2 (by decide) R boot_range (callTyp (by simpa using w5) ?_))) (fun x => rfl)
    refine wpAny_items_cons (EvOk.seq he (fun oA ha => (bothX X HC e).1 _ w3 _ _ _ ha) R hex fun v q2 h2 h1 tk led1 val R1 s1 r => wpAny_items_nil ?_) (star_cons w5 _ _)
    split at h2
    · split at h2
      · rename_i i hi
        cases r with | int i t =>
        refine call_range_1 (s := { s with heap := h1, toks := tk }) ?_
        have R2 := R1.push X { cls := .type "range", data := .fields #[.int 0 tk, .int i t, .int 1 (tk + 1)] }
        have hb : -1000000 ≤ i ∧ i ≤ 1000000 := by unfold lid at hi; omega
        refine wpAny_pyIter_range (s := { s with heap := h1.push { cls := .type "range", data := .fields #[.int 0 tk, .int i t, .int 1 (tk + 1)] }, toks := tk + 1 + 1 }) (Heap.get?_push_size _ rfl) (small_one (by omega) (by omega) (by omega) (by omega)) ?_
        generalize hH : h1.push { cls := .type "range", data := .fields #[.int 0 tk, .int i t, .int 1 (tk + 1)] } = H at R2
        have R3 := R2.push X { cls := .type "range_iterator", data := .fields #[rawInt 0, rawInt (Builtin.Range.rangeSize 0 i 1), rawInt 1] }
        have hlen : (intsTo i.toNat).length = i.toNat := by simp [intsTo]
        refine for_walk (s := { s with heap := H.push { cls := .type "range_iterator", data := .fields #[rawInt 0, rawInt (Builtin.Range.rangeSize 0 i 1), rawInt 1] }, toks := tk + 1 + 1 }) (vals := intsTo i.toNat) (led₁ := led1) (St' := fun j h => IsRangeIter h H.objs.size (0 + (j : Int) * 1) ((i.toNat : Int) - j) 1) (P := fun j v => ∃ t, v = .int (0 + (j : Int) * 1) t) X hn w1
          (by rw [hlen]; exact Walks.range X.k.handledA H.objs.size 0 1 i.toNat) (fun j h e => ⟨_, _, e, rfl⟩) (fun j h h' e w _ => w.trans e) (fun j v hj ⟨t, e⟩ => ?_)
          (fun o ρ p r ha => stsX HC hn HR HH b (c.with _ o) (X.with _ o) false (fun w => nomatch w) _ w4 ρ p r ha) (R2.new X.k.l0 (Nat.le_refl _)) (fun z' hz' w => ?_) h2 R3 ?_ (fun _ h => h)
          (fun fl ρ' q' e h' tk' m' own' led' f R' s' => hok fl ρ' q' e h' tk' m' own' led' f R' fun w z hz => s' w z (s1 z hz)) (fun x q' e => hex x q' e)
        · rw [hlen] at hj
          refine ⟨.int j, by simp [intsTo, hj], ?_⟩
          have : (0 + (j : Int) * 1) = j := by omega
          rw [e, this]
          exact .int _ _
        · exact absurd (Heap.lt_size (R2.bys z' hz').2) (by rw [w]; exact Nat.lt_irrefl _)
        · have e0 : Builtin.Range.rangeSize 0 i 1 = ((i.toNat : Int) - (0 : Nat)) := by rw [rangeSize_one]; split <;> omega
          rw [e0]
          exact Heap.get?_push_size _ rfl
      · cases h2
    · cases h2
  | .ret e => by
    intro c X q hq st h ρ p o he
    refine iS_ret (P := fun st => StOk S c ns ρ p (exec st c.env) o) h fun _ _ hh => ?_; clear h; have h := hh
    dsimp only [w_ret] at he
    intro s m own led Q E R hok hex
    exact wpAny_Return_some (EvOk.seq he (fun oA ha => (bothX X HC e).1 _ h _ _ _ ha) R hex fun v q2 h2 h1 tk led1 val R1 s1 r => hok (.ret (.val v)) ρ q2 (ret_some h2) h1 tk m own led1 _ R1 (fun w => nomatch w) ⟨val, rfl, r⟩)
  | .ret0 => by
    intro c X q hq st h ρ p o he
    refine iS_ret0 (P := fun st => StOk S c ns ρ p (exec st c.env) o) h fun _ hh => ?_; clear h; have h := hh
    dsimp only [w_ret0] at he
    intro s m own led Q E R hok hex
    exact wpAny_Return_none (hok (.ret (.val .none)) ρ p (ret_some he) s.heap s.toks m own led _ R (fun w => nomatch w) ⟨.none, rfl, .none⟩)
  | .retOwn x => by
    intro c X q hq st h ρ p o he
    refine iS_retOwn (P := fun st => StOk S c ns ρ p (exec st c.env) o) h fun _ _ _ hh => ?_; clear h; have h := hh
    dsimp only [w_retOwn] at he
    intro s m own led Q E R hok hex
    obtain ⟨l, g, he⟩ := bnd_lift he
    have g : get ρ x = some (.own l) := by
      split at g
      · rename_i e; cases g; exact e
      · cases g
    exact wpAny_Return_some (ownOk2 X h R g fun a vs hm hmx hr => hok (.ret (.own l)) ρ p (ret_some he) s.heap s.toks m own led _ R (fun w => nomatch w) ⟨.ref a, rfl, a, vs, rfl, (R.ownAt _ hm).1, (R.ownAt _ hm).2.2.1, (R.ownAt _ hm).2.2.2, hr⟩)
  | .retCallOwn f x => by
    intro c X q hq st h ρ p o he
    refine iS_retCallOwn (P := fun st => StOk S c ns ρ p (exec st c.env) o) h fun _ _ _ _ _ _ hh => ?_; clear h; have h := hh
    dsimp only [w_retCallOwn] at he
    simp only [Bool.and_eq_true, decide_eq_true_eq, beq_iff_eq] at h
    obtain ⟨⟨⟨w1, w2⟩, w3⟩, w4⟩ := h
    intro s m own led Q E R hok hex
    obtain ⟨l, g, he⟩ := bnd_lift he
    have g : get ρ x = some (.own l) := by
      split at g
      · rename_i e; cases g; exact e
      · cases g
    refine wpAny_Return_some ?_
    refine callName ?_
    refine gnameOk X w1 R (w3 ▸ X.so.gd.fn w2) ?_
    refine callFn (o := rowObj (row f) 6) (fd := fnData f) rfl ?_
    refine wpAny_items_cons (ownOk2 X w4 R g fun a vs hm hmx hr => wpAny_items_nil ⟨fnAt X w2 R, ?_⟩) rfl
    obtain ⟨hO, hap, h0, hoff⟩ := R.ownAt _ hm
    have R' : Sd S c ns [] p m [] ((a, false, vs) :: led) s.heap := ⟨R.hp, R.kept, R.nsL, fun z hz => by
      rcases List.mem_cons.mp hz with rfl | hz
      · obtain ⟨o', k, e1, e2, _, e3⟩ := hO; exact ⟨o', k, e1, e2, e3⟩
      · exact R.sat z hz, fun z hz => by
      rcases List.mem_cons.mp hz with rfl | hz
      · exact hap
      · exact R.ne z hz, fun z hz => by
      rcases List.mem_cons.mp hz with rfl | hz
      · exact .inr h0
      · exact R.fresh z hz, fun y v e => by simp [get] at e, fun y v e => by simp [get] at e, (fun _ h => nomatch h), by simp, R.bys⟩
    refine useCall X HC R' (.cons (.list (.head _) (hr.mono fun _ h => .tail _ h)) .nil) he (fun b q' hb => ?_) (fun x q' e => hex x q' e)
    intro g2 k led2 val R2 sub2 hB
    refine hok (.ret b) [] q' (ret_some hb) g2 k m [] led2 _ R2 (fun w => nomatch w) ⟨val, rfl, ?_⟩
    cases b with
    | val v => exact hB
    | own us => obtain ⟨a', vs', e1, e2, e3, e4⟩ := hB; exact ⟨a', vs', e1, e2, R.new X.k.l0 e3, e4⟩
  | .raise a b => by
    intro c X q hq st h ρ p o he
    refine iS_raise (P := fun st => StOk S c ns ρ p (exec st c.env) o) h fun _ _ _ _ _ _ hh => ?_; clear h; have h := hh
    dsimp only [w_raise] at he
    simp only [Bool.and_eq_true, beq_iff_eq] at h
    obtain ⟨⟨⟨⟨⟨w1, w2⟩, w3⟩, w4⟩, w5⟩, w6⟩ := h
    intro s m own led Q E R hok hex
    refine raise_exec ?_
    refine callName ?_
    refine gnameOk X w1 R (w2 ▸ X.so.gd.fn (f := 0) (by decide)) ?_
    refine callFn (o := rowObj (row 0) 6) (fd := fnData 0) (by simp [w5, w6]) ?_
    refine wpAny_items_cons (EvOk.seq he (fun oA ha => (bothX X HC a).1 _ w3 _ _ _ ha) R hex fun v1 q1 h2 g1 k1 led1 val1 R1 s1 r1 => wpAny_items_cons (EvOk.seq h2 (fun oA ha => (bothX X HC b).1 _ w4 _ _ _ ha) R1 (fun x q e => hex x q e) fun v2 q2 h3 g2 k2 led2 val2 R2 s2 r2 => wpAny_items_nil ⟨fnAt X (by decide) R2, ?_⟩) (star_cons w6 _ _)) (star_cons w5 _ _)
    cases v1 <;> first | exact absurd (show (none : Option (Res St × Int)) = some o from h3) (fun q => nomatch q) | skip
    have h3' := Option.some.inj (show some _ = some o from h3)
    subst h3'
    exact HR c X (s := { s with heap := g2, toks := k2 }) R2 (r1.mono s2) r2 (fun e h tk f => hex _ _ rfl e h tk f)
  | .brk => by
    intro c X q hq st h ρ p o he
    refine iS_brk (P := fun st => StOk S c ns ρ p (exec st c.env) o) h fun _ hh => ?_; clear h; have h := hh
    dsimp only [w_brk] at he
    intro s m own led Q E R hok hex
    exact wpAny_Break (hok .brk ρ p (ret_some he) s.heap s.toks m own led .brk R (fun _ _ h => h) rfl)
  | .heard b => by
    intro c X q hq st h ρ p o he
    refine iS_heard (P := fun st => StOk S c ns ρ p (exec st c.env) o) h fun _ _ _ hh => ?_; clear h; have h := hh
    dsimp only [w_heard] at he
    simp only [Bool.and_eq_true] at h
    obtain ⟨⟨w1, w2⟩, w3⟩ := h
    intro s m own led Q E R hok hex
    have hb := stsX HC hn HR HH b c X q hq _ w2 ρ p
    rename_i hs _
    cases hs with
    | nil => exact absurd w3 Bool.false_ne_true
    | cons h₀ hs =>
      refine wpAny_Try_except ?_
      cases g : exs C ρ b p with
      | none => rw [g] at he; cases he
      | some r =>
        obtain ⟨r, q2⟩ := r
        rw [g] at he
        cases r with
        | exn x =>
          cases he
          refine hb _ g s m own led _ _ R (fun fl ρ' q' e => by cases e) fun x' q' e er h1 tk f => ?_
          cases e
          exact HH c X (hq w1) (s := { s with heap := h1, toks := tk }) w3 f fun h2 tk2 m2 led2 val R2 rv => hok _ [] q2 rfl h2 tk2 m2 [] led2 _ R2 (fun w => nomatch w) ⟨val, rfl, rv⟩
        | ok t =>
          cases he
          refine hb _ g s m own led _ _ R (fun fl ρ' q' e h1 tk m1 own1 led1 f R1 s1 hg => ?_) fun x' q' e => by cases e
          cases e
          cases fl with
          | next => cases hg; exact wpAny_execs_nil (hok .next ρ' q2 rfl h1 tk m1 own1 led1 .next R1 s1 rfl)
          | brk => cases hg; exact hok .brk ρ' q2 rfl h1 tk m1 own1 led1 .brk R1 s1 rfl
          | ret b' => obtain ⟨val, rfl, hv⟩ := hg; exact hok (.ret b') ρ' q2 rfl h1 tk m1 own1 led1 _ R1 s1 ⟨val, rfl, hv⟩
  | .tryOk b => by
    intro c X q hq st h ρ p o he
    refine iS_tryOk (P := fun st => StOk S c ns ρ p (exec st c.env) o) h fun _ _ _ _ hh => ?_; clear h; have h := hh
    dsimp only [w_tryOk] at he
    intro s m own led Q E R hok hex
    have hb := stsX HC hn HR HH b c X q hq _ h ρ p
    refine wpAny_Try_except ?_
    cases g : exs C ρ b p with
    | none => rw [g] at he; cases he
    | some r =>
      obtain ⟨r, q2⟩ := r
      rw [g] at he
      cases r with
      | exn x => cases he
      | ok t =>
        cases he
        refine hb _ g s m own led _ _ R (fun fl ρ' q' e h1 tk m1 own1 led1 f R1 s1 hg => ?_) fun x' q' e => by cases e
        cases e
        cases fl with
        | next => cases hg; exact wpAny_execs_nil (hok .next ρ' q2 rfl h1 tk m1 own1 led1 .next R1 s1 rfl)
        | brk => cases hg; exact hok .brk ρ' q2 rfl h1 tk m1 own1 led1 .brk R1 s1 rfl
        | ret b' => obtain ⟨val, rfl, hv⟩ := hg; exact hok (.ret b') ρ' q2 rfl h1 tk m1 own1 led1 _ R1 s1 ⟨val, rfl, hv⟩
  | .stuck => by
    intro c X q hq st h ρ p o he
    dsimp only [w_stuck] at he
    cases he
theorem stsX (HC : ∀ f l p o, C f l p = some o → CallOk S n f l p o) (hn : ns.Nodup) (HR : RaiseOk S n) (HH : HeardOk S n) : ∀ (ss : MSs), PSs S n ns C ss
  | .nil => by
    intro c X q hq xs h ρ p o he
    cases xs with
    | cons x xs => exact absurd h Bool.false_ne_true
    | nil =>
      dsimp only [ws_nil] at he
      intro s m own led Q E R hok hex
      exact wpAny_execs_nil (hok .next ρ p (ret_some he) s.heap s.toks m own led .next R (fun _ _ h => h) rfl)
  | .cons st r => by
    intro c X q hq xs h ρ p o he
    cases xs with
    | nil => exact absurd h Bool.false_ne_true
    | cons x xs =>
      have h' : (mS c.cs ns st q x && mSs c.cs ns r q xs) = true := h
      rw [Bool.and_eq_true] at h'
      dsimp only [ws_cons] at he
      intro s m own led Q E R hok hex
      refine wpAny_execs_cons (StOk.seq he (fun oA ha => stX HC hn HR HH st c X q hq x h'.1 ρ p oA ha) R hex fun fl ρ' q' h2 h1 tk m1 own1 led1 g R1 s1 hg => ?_)
      cases fl with
      | next =>
        cases hg
        exact stsX HC hn HR HH r c X q hq xs h'.2 ρ' q' o h2 { s with heap := h1, toks := tk } m1 own1 led1 Q E R1 (fun fl ρ' q' e h' tk' m' own' led' f R' s' => hok fl ρ' q' e h' tk' m' own' led' f R' fun w z hz => s' w z (s1 rfl z hz)) (fun x q' e => hex x q' e)
      | brk =>
        cases hg
        exact hok .brk ρ' q' (ret_some h2) h1 tk m1 own1 led1 .brk R1 s1 rfl
      | ret b =>
        obtain ⟨val, rfl, hb⟩ := hg
        exact hok (.ret b) ρ' q' (ret_some h2) h1 tk m1 own1 led1 _ R1 s1 ⟨val, rfl, hb⟩
end
end
end Lr
end
section
open PySem PySem.W PyProof.Rows PySem.SeqAt PySem.Calls
set_option maxRecDepth 1000000
set_option maxHeartbeats 8000000
namespace Lr
noncomputable def isFn (f : Nat) : Bool := (fn f).isSome
noncomputable def fns : List Nat := (List.range 71).filter isFn
noncomputable def argN (f : Nat) : List PySem.Str := (argsOfDef (stm (row f).1)).args.map (·.arg)
noncomputable def scopeB (f : Nat) : Bool :=
  let cs := scopeOfDef (stm (row f).1)
  let ns := varsOf (stm (row f).1)
  !cs.isCoroutine && !cs.isGenerator && cs.kind == .function && cs.names.all (fun x => !(x.2 == .cell)) && (argN f).all (fun x => cs.names.lookup x == some .local) && decide ns.Nodup
theorem scopes_ok : (fns.all fun f => scopeB f && fnOkB f) = true := by kernel_rfl
theorem codes_ok (P : Params) : ((List.range 71).map fun f => objAt P lawName 71 ((row f).2.1 + 5)) = (List.range 71).map fun f => rowObj (row f) 5 := by kernel_rfl
theorem code_lt : ((List.range 71).all fun f => Nat.blt ((row f).2.1 + 5) 537) = true := by decide +kernel
noncomputable def ar (k : Nat) : List Nat := fns.filter fun f => (argN f).length == k && !(f == 23)
theorem bind0 : ((ar 0).map fun f => bindArgs (fnData f) ⟨[], []⟩) = (ar 0).map fun f => pure ((argN f).zip ([] : List Value)) := by kernel_rfl
theorem bind1 : ((ar 1).map fun f => fun (v0 : Value) => bindArgs (fnData f) ⟨[v0], []⟩) = (ar 1).map fun f => fun v0 => pure ((argN f).zip [v0]) := by kernel_rfl
theorem bind2 : ((ar 2).map fun f => fun (v0 v1 : Value) => bindArgs (fnData f) ⟨[v0, v1], []⟩) = (ar 2).map fun f => fun v0 v1 => pure ((argN f).zip [v0, v1]) := by kernel_rfl
theorem bind3 : ((ar 3).map fun f => fun (v0 v1 v2 : Value) => bindArgs (fnData f) ⟨[v0, v1, v2], []⟩) = (ar 3).map fun f => fun v0 v1 v2 => pure ((argN f).zip [v0, v1, v2]) := by kernel_rfl
theorem bind4 : ((ar 4).map fun f => fun (v0 v1 v2 v3 : Value) => bindArgs (fnData f) ⟨[v0, v1, v2, v3], []⟩) = (ar 4).map fun f => fun v0 v1 v2 v3 => pure ((argN f).zip [v0, v1, v2, v3]) := by kernel_rfl
theorem bind5 : ((ar 5).map fun f => fun (v0 v1 v2 v3 v4 : Value) => bindArgs (fnData f) ⟨[v0, v1, v2, v3, v4], []⟩) = (ar 5).map fun f => fun v0 v1 v2 v3 v4 => pure ((argN f).zip [v0, v1, v2, v3, v4]) := by kernel_rfl
theorem all_ar : (fns.all fun f => f == 23 || Nat.ble (argN f).length 5) = true := by kernel_rfl
theorem ar23 : argN 23 = [("element" : PySem.Str), ("is_hash" : PySem.Str)] := by kernel_rfl
theorem bind23 (v0 v1 : Value) : ∃ k : Option (Array Value) → Sem (List (PySem.Str × Value)), bindArgs (fnData 23) ⟨[v0, v1], []⟩ = seqItems? (fnData 23).defaults >>= k ∧ k (some #[.bool false]) = pure ((argN 23).zip [v0, v1]) := ⟨_, rfl, by kernel_rfl⟩
theorem fn_mem {f : Nat} {F : Fn} (h : fn f = some F) : f ∈ fns ∧ f < 71 := by
  have hf : f < 71 := by
    apply Decidable.byContradiction
    intro hn
    have : fn f = none := by
      unfold fn
      rw [List.getD_eq_getElem?_getD, List.getElem?_eq_none (Nat.le_trans (by decide : fnTab.length ≤ 71) (Nat.le_of_not_lt hn))]
      rfl
    rw [this] at h; cases h
  exact ⟨List.mem_filter.mpr ⟨List.mem_range.mpr hf, by unfold isFn; rw [h]; rfl⟩, hf⟩
theorem scope_facts {f : Nat} (h : f ∈ fns) : (scopeOfDef (stm (row f).1)).isCoroutine = false ∧ (scopeOfDef (stm (row f).1)).isGenerator = false ∧ (scopeOfDef (stm (row f).1)).kind = .function ∧ (∀ x ∈ (scopeOfDef (stm (row f).1)).names, x.2 ≠ .cell) ∧
    (∀ x ∈ argN f, (scopeOfDef (stm (row f).1)).names.lookup x = some .local) ∧ (varsOf (stm (row f).1)).Nodup := by
  have := List.all_eq_true.mp scopes_ok f h
  rw [Bool.and_eq_true] at this
  have := this.1
  unfold scopeB at this
  simp only [Bool.and_eq_true, Bool.not_eq_true', beq_iff_eq, List.all_eq_true, decide_eq_true_eq] at this
  obtain ⟨⟨⟨⟨⟨a, b⟩, c⟩, d⟩, e⟩, g⟩ := this
  exact ⟨a, b, c, fun x hx q => by have := d x hx; rw [q] at this; exact absurd this (by decide), e, g⟩
theorem fn_facts {f : Nat} {F : Fn} (h : fn f = some F) : mSs (scopeOfDef (stm (row f).1)) (varsOf (stm (row f).1)) F.body true (bodyOfDef (stm (row f).1)) = true ∧ (varsOf (stm (row f).1)).length = F.nloc ∧ (argN f).length = F.arity ∧ (argN f) <+: varsOf (stm (row f).1) := by
  have := List.all_eq_true.mp scopes_ok f (fn_mem h).1
  rw [Bool.and_eq_true] at this
  have := this.2
  unfold fnOkB at this
  rw [h] at this
  simp only [Bool.and_eq_true, beq_iff_eq, decide_eq_true_eq] at this
  obtain ⟨⟨⟨⟨a, b⟩, c⟩, d⟩, e⟩ := this
  exact ⟨a, b, by unfold argN; rw [List.length_map]; exact c, List.isPrefixOf_iff_prefix.mp d⟩
theorem bind_all {w : World} {mg mb : Names} {h : Heap} (x : Gd w mg mb h) {f : Nat} (hf : f ∈ fns) {s : Shared} (st : h.StaysIn s.heap) (vs : List Value) (hl : (argN f).length = vs.length) : BindsTo s (fnData f) ⟨vs, []⟩ ((argN f).zip vs) := by
  by_cases h23 : f = 23
  · subst h23
    rw [ar23] at hl
    match vs, hl with
    | [v0, v1], _ =>
      obtain ⟨k, e1, e2⟩ := bind23 v0 v1
      exact BindsTo.of_defaults (fd := fnData 23) (T := 200) (o := tupO [.bool false]) (items := #[.bool false]) (n := 0) rfl (st _ _ (x.at (a := 200) (by decide))) rfl e1 e2
  · have h5 := List.all_eq_true.mp all_ar f hf
    simp only [Bool.or_eq_true, beq_iff_eq, h23, false_or, Nat.ble_eq] at h5
    have mem : ∀ k, (argN f).length = k → f ∈ ar k := fun k hk => List.mem_filter.mpr ⟨hf, by simp [hk, h23]⟩
    refine BindsTo.of_eq ?_
    match vs, hl with
    | [], hl => exact List.map_inj_left.mp bind0 f (mem 0 hl)
    | [v0], hl => exact congrFun (List.map_inj_left.mp bind1 f (mem 1 hl)) v0
    | [v0, v1], hl => exact congrFun (congrFun (List.map_inj_left.mp bind2 f (mem 2 hl)) v0) v1
    | [v0, v1, v2], hl => exact congrFun (congrFun (congrFun (List.map_inj_left.mp bind3 f (mem 3 hl)) v0) v1) v2
    | [v0, v1, v2, v3], hl => exact congrFun (congrFun (congrFun (congrFun (List.map_inj_left.mp bind4 f (mem 4 hl)) v0) v1) v2) v3
    | [v0, v1, v2, v3, v4], hl => exact congrFun (congrFun (congrFun (congrFun (congrFun (List.map_inj_left.mp bind5 f (mem 5 hl)) v0) v1) v2) v3) v4
    | _ :: _ :: _ :: _ :: _ :: _ :: _, hl => simp at hl; omega
theorem binds_at {ns as : List PySem.Str} (hn : ns.Nodup) (hp : as <+: ns) {vs : List Value} (hl : as.length = vs.length) {i : Nat} {v : Value} (hv : vs[i]? = some v) : ∃ nm, ns[i]? = some nm ∧ (as.zip vs).reverse.lookup nm = some v := by
  obtain ⟨t, rfl⟩ := hp
  have hi : i < as.length := by rw [hl]; exact (List.getElem?_eq_some_iff.mp hv).1
  have ha : as[i]? = some as[i] := List.getElem?_eq_getElem hi
  refine ⟨as[i], by rw [List.getElem?_append_left hi]; exact ha, ?_⟩
  have hna : as.Nodup := (List.nodup_append.mp hn).1
  have gen : ∀ (as : List PySem.Str) (vs : List Value) (i : Nat) (nm : PySem.Str) (v : Value), as.Nodup → as.length = vs.length → as[i]? = some nm → vs[i]? = some v → (as.zip vs).reverse.lookup nm = some v := by
    intro as
    induction as with
    | nil => intro vs i nm v _ _ h _; simp at h
    | cons a as ih =>
      intro vs i nm v hna hl h1 h2
      cases vs with
      | nil => cases hl
      | cons u vs =>
        rw [List.zip_cons_cons, List.reverse_cons, List.lookup_append]
        rw [List.nodup_cons] at hna
        cases i with
        | zero =>
          simp only [List.getElem?_cons_zero, Option.some.injEq] at h1 h2
          subst h1 h2
          have : (as.zip vs).reverse.lookup a = none := by
            rw [List.lookup_eq_none_iff]
            intro q hq
            have : q.1 ∈ as := (List.of_mem_zip (a := q.1) (b := q.2) (by simpa using hq)).1
            simp only [bne_iff_ne, ne_eq, beq_eq_false_iff_ne]
            intro w
            exact hna.1 (w ▸ this)
          rw [this]; simp
        | succ i =>
          rw [ih vs i nm v hna.2 (by simpa using hl) (by simpa using h1) (by simpa using h2)]; rfl
  exact gen as vs i _ v hna hl ha hv
theorem callOk {S : Site} (SO : S.Ok) (HR : ∀ n, RaiseOk S n) (HH : ∀ n, HeardOk S n) : ∀ (n f : Nat) (args : List V) (p : Int) (o : Res Bd × Int), callN n f args p = some o → CallOk S n f args p o := by
  intro n
  induction n with
  | zero => intro f args p o h; exact nomatch (show (none : Option (Res Bd × Int)) = some o from h)
  | succ n ih =>
    intro f args p o h
    unfold callN at h
    cases hf : fn f with
    | none => rw [hf] at h; exact nomatch (show (none : Option (Res Bd × Int)) = some o from h)
    | some F =>
      rw [hf] at h
      dsimp only at h
      by_cases ha : args.length = F.arity
      · rw [if_pos ha] at h
        obtain ⟨hmem, hlt⟩ := fn_mem hf
        obtain ⟨c1, c2, c3, c4, c5, c6⟩ := scope_facts hmem
        obtain ⟨m1, m2, m3, m4⟩ := fn_facts hf
        intro envs A s led vs Q E hfr hh hg hdep hun hsz hp hsat hne hrep hok hex
        have hlv : (argN f).length = vs.length := by rw [m3, ← ha, hrep.length]
        have stays := hp.stays
        have hcode : s.heap.get? ((row f).2.1 + 5) = some (rowObj (row f) 5) := by
          have h1 := List.all_eq_true.mp code_lt f (List.mem_range.mpr hlt)
          have h2 := SO.gd.at (a := (row f).2.1 + 5) (by simpa [Nat.blt_eq] using h1)
          rw [List.map_inj_left.mp (codes_ok S.w.params) f (List.mem_range.mpr hlt)] at h2
          exact stays _ _ h2
        refine wpAny_call (codeAny_call_def (fd := fnData f) (body := bodyOfDef (stm (row f).1)) (binds := (argN f).zip vs) (by omega) (stays _ _ (SO.gd.fnAt hlt)) (fn_data f) (SO.gd.top.nolimit.keeps stays) ⟨_, _, _, _, rfl, hcode, rfl, rfl⟩ rfl
          (bind_all SO.gd hmem stays vs hlv) c4 (fun x hx => c5 _ (List.of_mem_zip (a := x.1) (b := x.2) hx).1) (fun h1 hns hk => ?_) c1 c2 c3)
        let c : Act := ⟨nameOfDef (stm (row f).1), scopeOfDef (stm (row f).1), s.heap.objs.size, fnAddr f, .ref ((row f).2.1 + 5), envs, A, s.heap, led, []⟩
        have X : Cx S c (n + 1) := ⟨SO, ⟨c3, hfr, hh, hg, hdep, hun, Nat.le_refl _, let ⟨o, _, _, e, _⟩ := hp.pen.seq; ⟨o, e⟩, hsz⟩⟩
        have R : Sd S c (varsOf (stm (row f).1)) (args.map (fun v => some (.val v)) ++ List.replicate (F.nloc - F.arity) none) p (fun x => ((argN f).zip vs).reverse.lookup x) [] led h1 := by
          have kp : Kp [S.ap] s.heap h1 := Kp.of_keeps fun b o _ e => hk b o e
          obtain ⟨oL, esL, epL, hoL, hdL, _⟩ := id hns
          refine ⟨⟨fun b o e => hk b o (stays b o e), ⟨by show (scopeOfDef (stm (row f).1)).kind ≠ .module; rw [c3]; decide, ⟨s.heap.objs.size, oL, rfl, none_of_ge hsz, hoL, fun vs q => by rw [hdL] at q; cases q⟩, ff_step (fun b o e nf => ⟨o, hk b o e, nf⟩) hp.ff⟩,
            hp.pen.keeps hk⟩, kp, hns, fun q hq => let ⟨o, k, a, b⟩ := hsat q hq; ⟨o, k, hk _ _ a, b⟩, hne, fun q hq => .inl hq, fun x v e => ?_, fun x l e => ?_, fun _ h => (nomatch h), by simp, fun _ h => (nomatch h)⟩
          · unfold get at e
            rw [List.getD_eq_getElem?_getD] at e
            by_cases hx : x < args.length
            · rw [List.getElem?_append_left (by simpa using hx)] at e
              have hx2 : args[x]? = some v := by
                rw [List.getElem?_map] at e
                cases g : args[x]? with
                | none => rw [g] at e; simp at e
                | some u => rw [g] at e; simp at e; rw [e]
              obtain ⟨u, hu, ru⟩ := hrep.get x v hx2
              obtain ⟨nm, g1, g2⟩ := binds_at c6 m4 hlv hu
              exact ⟨nm, u, g1, g2, ru⟩
            · rw [List.getElem?_append_right (by simpa using hx), List.getElem?_replicate] at e
              split at e <;> simp at e
          · unfold get at e
            rw [List.getD_eq_getElem?_getD] at e
            by_cases hx : x < args.length
            · rw [List.getElem?_append_left (by simpa using hx), List.getElem?_map] at e
              cases g : args[x]? with
              | none => rw [g] at e; simp at e
              | some u => rw [g] at e; simp at e
            · rw [List.getElem?_append_right (by simpa using hx), List.getElem?_replicate] at e
              split at e <;> simp at e
        have body := stsX (C := callN n) (fun f l p o h => ih f l p o h) c6 (HR n) (HH n) F.body c X true (fun _ => rfl) (bodyOfDef (stm (row f).1)) m1
        refine StOk.seq (c := c) (s := { s with heap := h1, toks := s.toks + ((argN f).zip vs).length }) h (fun oA hA => body _ p oA hA) R ?_ ?_
        · intro x q e er h' tk fly
          obtain ⟨⟨d, st, m', led', fd, hst, hm, xd, sat', ne', fr'⟩, kp, pn⟩ := fly
          refine leaveOk (env := c.env) (outer := envs) (L := c.L) X.k.framesA rfl fd hst fun h2 f2 st2 => ?_
          refine hex x q e er d h2 tk led' (st2.kp kp) f2 (st2.pen pn) ?_ (fun z hz => st2.sat (sat' z hz)) fr'
          obtain ⟨md, v1, v2, v3, nd, r⟩ := xd
          exact ⟨md, v1, v2, v3, st2.ns nd, r⟩
        · intro fl ρ' q e h' tk m' own' led' g R' _ hfl
          have satL : ∀ z ∈ led, SatE h' z := fun z hz => R'.kept.sat (hsat z hz) (by simpa using hne z hz)
          have fin : ∀ b val, o = (.ok b, q) → BdOk S.rp led' h' s.heap.objs.size val b → Q val { s with heap := h', toks := tk } := fun b val eo hb => by
            refine hok b q eo h' tk (led ++ led') val R'.kept ⟨R'.hp.stays, R'.hp.ff.2.2, R'.hp.pen⟩ (fun z hz => (List.mem_append.mp hz).elim (satL z) (R'.sat z)) (fun z hz => List.mem_append_left _ hz)
              (fun z hz => (List.mem_append.mp hz).elim .inl (R'.fresh z)) ?_
            cases b with
            | val v => exact Rep.mono (fun z hz => List.mem_append_right _ hz) hb
            | own l =>
              obtain ⟨a, us, e1, e2, e3, e4, e5⟩ := hb
              refine ⟨a, us, e1, e2, e3, fun z hz => (List.mem_append.mp hz).elim (fun hz w => ?_) (e4 z), e5.mono fun z hz => List.mem_append_right _ hz⟩
              obtain ⟨o', ho'⟩ := (hsat z hz).at
              exact absurd (Heap.lt_size ho') (by rw [w]; exact Nat.not_lt.mpr e3)
          cases fl with
          | next =>
            cases hfl
            exact fin (.val .none) .none (ret_some e) .none
          | brk => exact nomatch (show (none : Option (Res Bd × Int)) = some o from e)
          | ret b =>
            obtain ⟨val, rfl, hb⟩ := hfl
            exact fin b val (ret_some e) hb
      · rw [if_neg ha] at h
        exact nomatch (show (none : Option (Res Bd × Int)) = some o from h)
end Lr
end
section
open PySem PySem.W PyProof.Rows PySem.SeqAt PySem.Calls
set_option maxRecDepth 1000000
namespace Lr
abbrev ebm : List Value := [.type "Exception", .type "BaseException", .type "object"]
abbrev rcls : Obj := excClassObj "Raised" "Raised" 33 32 [.type "Exception"] ebm true [] [] false none none (some (.ref 15)) none (some (.str "Raised" 189)) (some (.str "Raised" 197)) (some (.bool true)) "Exception.__new__"
theorem rcls_eq : clsObj = rcls := rfl
noncomputable def clsEnts (P : Params) : Array DictEntry := match (clsNs P).data with | .dict es _ => es | _ => #[]
noncomputable def mN (P : Params) : Names := fun x => nsFind (clsEnts P) x
section
variable {w : World} {mg mb : Names} {h : Heap}
theorem Gd.cls (x : Gd w mg mb h) : h.get? 33 = some rcls := x.at (a := 33) (by decide)
theorem Gd.clsN (x : Gd w mg mb h) : h.Ns 32 (mN w.params) := by
  refine ⟨clsNs w.params, clsEnts w.params, 3, x.at (a := 32) (by decide), rfl, ?_, fun _ => rfl⟩
  intro e he
  have he : e ∈ (clsEnts w.params).toList := by simpa using he
  have : e ∈ [ent w.params "__module__" 196 faults, ent w.params "__firstlineno__" 200 (.int 2 199), ent w.params "__init__" 215 (.ref 30), ent w.params "__static_attributes__" 225 (.ref 31), ent w.params "__weakref__" 227 (.ref 34), ent w.params "__doc__" 228 .none] := he
  simp only [List.mem_cons, List.not_mem_nil, or_false] at this
  rcases this with rfl | rfl | rfl | rfl | rfl | rfl <;> exact ⟨_, _, rfl⟩
theorem mN_init (P : Params) : mN P "__init__" = some (.ref 30) := by kernel_rfl
theorem mN_none (P : Params) : (["__setattr__", "__getattribute__", "code", "value", "errorcode", "level", "ret", "info", "is_noted", "line", "extra"] : List PySem.Str).map (mN P) = [none, none, none, none, none, none, none, none, none, none, none] := by kernel_rfl
end
noncomputable def initArgs : Arguments := argsOfDef initStm
noncomputable def bx (i : Nat) : Stmt := (bodyOfDef initStm).getD i (.Pass ⟨0, 0, 0, 0⟩)
theorem init_body : bodyOfDef initStm = [bx 0, bx 1, bx 2, bx 3, bx 4, bx 5, bx 6, bx 7, bx 8, bx 9] := by kernel_rfl
noncomputable def baseForm (x : Stmt) : Bool :=
  onSExpr x fun u _ => onCall u fun f xs ks q2 => onAttribute f fun n i q1 => onName n fun a _ => on2 xs fun e1 e2 => onName e1 fun b _ => onName e2 fun c _ => on0 ks <|
    (a == ("Exception" : PySem.Str) && i == ("__init__" : PySem.Str) && b == ("self" : PySem.Str) && c == ("value" : PySem.Str) && q1.endLine == q2.line)
theorem bx0 : baseForm (bx 0) = true := by kernel_rfl
noncomputable def valForm (attr : PySem.Str) (k : Nat) (v : Expr) : Bool :=
  match k with
  | 0 => onName v fun x _ => x == attr
  | 1 => onConstant v fun c _ _ => onCStr c fun _ => true
  | 2 => onConstant v fun c _ _ => onCBool c fun _ => true
  | 3 => onConstant v fun c _ _ => onCInt c fun _ => true
  | 4 => onList v fun l _ => on0 l true
  | _ => false
noncomputable def setForm (attr : PySem.Str) (k : Nat) (x : Stmt) : Bool :=
  onSAssign x fun ts v _ => on1 ts fun t => onAttribute t fun o c _ => onName o fun a _ => (a == ("self" : PySem.Str) && c == attr && noComp v && valForm attr k v)
theorem bxs : (setForm "code" 0 (bx 1) && setForm "value" 0 (bx 2) && setForm "errorcode" 0 (bx 3) && setForm "level" 0 (bx 4) && setForm "ret" 0 (bx 5) && setForm "info" 1 (bx 6) && setForm "is_noted" 2 (bx 7) && setForm "line" 3 (bx 8) && setForm "extra" 4 (bx 9)) = true := by kernel_rfl
noncomputable def initScope : Scope := scopeOfDef initStm
theorem init_scope : initScope.names = ([("self", .local), ("code", .local), ("value", .local), ("errorcode", .local), ("level", .local), ("ret", .local), ("Exception", .globalImplicit)] : List (PySem.Str × NameKind)) := by kernel_rfl
theorem init_kind : initScope.kind = .function := by kernel_rfl
theorem init_co : initScope.isCoroutine = false := by kernel_rfl
theorem init_gen : initScope.isGenerator = false := by kernel_rfl
noncomputable def initData : FuncData := fnOf "__init__" "Raised.__init__" (argsOfDef initStm) (bodyOfDef initStm) (scopeOfDef initStm) (.ref 23) .none .none faults none (.ref 29) .none
theorem init_obj (P : Params) : objAt P lawName 71 30 = { cls := .type "function", data := .func initData } := by kernel_rfl
abbrev errArgs (e v1 v2 v3 : Value) : List (PySem.Str × Value) := [("self", e), ("code", v1), ("value", v2), ("errorcode", v3), ("level", .int 0 202), ("ret", .int 0 203)]
theorem bindInit (e v1 v2 v3 : Value) : ∃ k : Option (Array Value) → Sem (List (PySem.Str × Value)), bindArgs initData ⟨[e, v1, v2, v3], []⟩ = seqItems? initData.defaults >>= k ∧ k (some #[.ref 22, .int 0 202, .int 0 203]) = pure (errArgs e v1 v2 v3) := ⟨_, rfl, by kernel_rfl⟩
theorem bindErr (v0 v1 : Value) : ∃ k : Option (Array Value) → Sem (List (PySem.Str × Value)), bindArgs (fnData 0) ⟨[v0, v1], []⟩ = seqItems? (fnData 0).defaults >>= k ∧ k (some #[.ref 37]) = pure ([("text", v0), ("errorcode", v1)] : List (PySem.Str × Value)) := ⟨_, rfl, by kernel_rfl⟩
abbrev tupOf (rest : List Value) : Obj := { cls := .type "tuple", data := .seq rest.toArray }
abbrev excO (t : Addr) : Obj := { cls := .ref 33, data := .fields #[.ref t, .none, .none, .none, .bool false, .none] }
section
variable {prog : Program} {w : World} {A : Around} {E : Value → Shared → Prop} {h : Heap} {g : Array GenState} {d : Drawn} {t : Nat} {os : OsState} {m32 : Names}
theorem typeCallRaised {rest : List Value} {oI : Obj} {Q : Fin → Shared → Prop}
    (hC : h.get? 33 = some rcls) (hn : h.Ns 32 m32) (hi : m32 "__init__" = some (.ref 30)) (hfI : h.get? 30 = some oI) (hfc : oI.cls = .type "function")
    (hq : wpAny (model prog w) A (call (.ref 30) (.ref (h.objs.size + 1) :: rest)) (fun r s' => r = .none ∧ Q (.done (.ret (.ref (h.objs.size + 1)))) s') E ⟨(h.push (tupOf rest)).push (excO h.objs.size), g, d, t, os⟩) (hrest : rest.length ≤ sizeLine) :
    wpAny (model prog w) A (Builtin.«type.__call__» ⟨.ref 33 :: rest, []⟩) Q E ⟨h, g, d, t, os⟩ := by
  have F := PySem.F.excBase_Exception
  repeat (first | with_reducible refine wpAny_loadPart_at hC ?_ | with_reducible refine wpAny_madeBy_exc hC ?_ | wp_step)
  refine codeAny_call_builtin_code (Code.quiet_builtin _ F.quiet) (wpAny_check_new_sub F hC ?_)
  refine codeAny_exc_new_sub F hC ?_ hrest
  show wpAny _ _ _ _ _ _
  have hC₁ := Heap.get?_push_of_some (excO h.objs.size) (Heap.get?_push_of_some (tupOf rest) hC)
  have hfI₁ := Heap.get?_push_of_some (excO h.objs.size) (Heap.get?_push_of_some (tupOf rest) hfI)
  have hn₁ := (hn.push (tupOf rest)).push (excO h.objs.size)
  have hget : ((h.push (tupOf rest)).push (excO h.objs.size)).get? (h.objs.size + 1) = some (excO h.objs.size) := by heap_get
  have hcC : (Value.ref 33 :: ebm).contains (.ref 33) = true := by simp
  unfold isInstance
  repeat (first | with_reducible refine wpAny_loadPart_at hget ?_ | (with_reducible refine wpAny_isSubtype_exc hC₁ ?_; rw [hcC]) | wp_step)
  show wpAny _ _ (typeLookup (.ref 33) _) _ _ _
  refine wpAny_typeLookup_exc hC₁ hn₁ F.mroIs F.init.lookup ?_
  rw [hi]
  refine wpAny_holding (wpAny_bind ?_)
  unfold bindSpecial
  refine wpAny_bind (wpAny_typeOf (T := "function") ⟨_, hfI₁, hfc⟩ ?_)
  rw [if_pos (by decide)]
  refine wpAny_pure (wpAny_bind (wpAny_mono hq (fun r s' hr => ?_) fun _ _ x => x))
  obtain ⟨rfl, hQ⟩ := hr
  wp_walk
  exact hQ
theorem callRaised {rest : List Value} {oI : Obj} {Q : Value → Shared → Prop}
    (hC : h.get? 33 = some rcls) (hn : h.Ns 32 m32) (hi : m32 "__init__" = some (.ref 30)) (hfI : h.get? 30 = some oI) (hfc : oI.cls = .type "function")
    (hq : wpAny (model prog w) (A.under (.builtin "type.__call__" ⟨.ref 33 :: rest, []⟩)) (call (.ref 30) (.ref (h.objs.size + 1) :: rest)) (fun r s' => r = .none ∧ Q (.ref (h.objs.size + 1)) s') E ⟨(h.push (tupOf rest)).push (excO h.objs.size), g, d, t, os⟩) (hrest : rest.length ≤ sizeLine) :
    wpAny (model prog w) A (call (.ref 33) rest) Q E ⟨h, g, d, t, os⟩ := by
  have f1 := tc_lookup
  have f2 := tc_bind (.ref 33)
  have hT : (⟨h, g, d, t, os⟩ : Shared).TypeIs (.ref 33) "type" := ⟨_, hC, rfl⟩
  refine wpAny_call (codeAny_of_tree ?_)
  show wpAny _ _ (callAny (.ref 33) _) _ _ _
  repeat (any_goals (first | assumption | with_reducible refine wpAny_loadPart_at hC ?_ | wp_step))
  refine ⟨rfl, ?_⟩
  exact codeAny_call_builtin_at (Code.quiet_builtin _ (by decide +kernel)) entry_typeCall (wpAny_check_type_call_sub hC (typeCallRaised hC hn hi hfI hfc hq hrest))
theorem baseInit {e t0 : Addr} {o : Obj} {vs : Array Value} {rest : List Value} {Q : Value → Shared → Prop} (hC : h.get? 33 = some rcls) (he : h.get? e = some o) (hc : o.cls = .ref 33) (hd : o.data = .fields vs) (h0 : vs[0]? = some (.ref t0)) (hrest : rest.length ≤ sizeLine)
    (hq : Q .none ⟨(h.push (tupOf rest)).update e (Obj.mapFields (·.setIfInBounds 0 (.ref h.objs.size))), g, d, t, os⟩) :
    wpAny (model prog w) A (call (.builtin "Exception.__init__") (.ref e :: rest)) Q E ⟨h, g, d, t, os⟩ := by
  have F := PySem.F.excBase_Exception
  refine wpAny_call (codeAny_call_builtin F.init.plain F.initEntry (wpAny_check_init_sub F hC he hc ?_))
  unfold Builtin.«BaseException.__init__»
  dsimp only
  rw [if_neg (by simp)]
  unfold newTuple Builtin.BaseException.bexcPut
  have hsz : 0 < vs.size := (Array.getElem?_eq_some_iff.mp h0).1
  have he₁ := Heap.get?_push_of_some (h := h) (tupOf rest) he
  refine wpAny_bind (wpAny_newObj_type (wpAny_bind (wpAny_bind (wpAny_field he₁ hd h0 (wpAny_bind (wpAny_setField he₁ hd hsz ?_))))) (by show rest.toArray.size ≤ sizeLine; rw [List.size_toArray]; exact hrest))
  exact wpAny_letGo (wpAny_pure hq)
end
end Lr
end
section
open PySem PySem.W PyProof.Rows PySem.SeqAt PySem.Calls PySem.Builtin PySem.Builtin.ObjectAttr
set_option maxRecDepth 1000000
namespace Lr
section
variable {prog : Program} {w : World} {A : Around} {E : Value → Shared → Prop} {h : Heap} {g : Array GenState} {d : Drawn} {t : Nat} {os : OsState} {m32 : Names} {x C N : Addr} {B newId sa owner : String} {nm q : PySem.Str} {bs bm : List Value} {sn : List PySem.Str} {sub : List Value} {ab : Bool} {col : Option Bool} {dd : Option Addr} {k0 k1 k2 k3 k5 : Option Value} {o : Obj} {name : PySem.Str} {v : Value}
theorem setFirstEntry {tk : Tok} {Q : Fin → Shared → Prop} {vs : Array Value} (SF : StoreFacts B bm sa owner) (hC : h.get? C = some (excClassObj nm q C N bs bm true sn sub ab col dd k0 k1 k2 k3 k5 newId)) (hn : h.Ns N m32) (hna : m32 name = none) (hB : typeLookup (.type B) name = pure none)
    (hx : h.get? x = some o) (hc : o.cls = .ref C) (hdt : o.data = .fields vs) (hdn : o.dict = none)
    (hq : ∀ h' tk', h'.get? x = some { cls := o.cls, dict := some h.objs.size, data := o.data, slots := o.slots } → h'.Ns1 h.objs.size (fun y => if y = name then some v else none) →
      (∀ b o, b ≠ x → h.get? b = some o → h'.get? b = some o) → Q (.done (.ret .none)) ⟨h', g, d, tk', os⟩) :
    wpAny (model prog w) A (Builtin.«object.__setattr__» ⟨[.ref x, .str name tk, v], []⟩) Q E ⟨h, g, d, t, os⟩ := by
  have hpass := SF.passes (.ref x)
  unfold Builtin.«object.__setattr__»
  repeat (first | rw [refuse_eq] | (rw [refuseLoop_ref, hpass]) | (with_reducible refine wpAny_loadPart_at hx ?_; rw [hc]) | with_reducible refine wpAny_mroOf_exc hC ?_ | (with_reducible refine wpAny_typeLookup_exc hC hn SF.mro hB ?_; rw [hna]) | wp_step)
  rw [hdn, if_neg (by simp [typeHasDict])]
  split
  · rename_i hcd
    cases hcd
  split
  · rename_i c hcd
    rw [hdt] at hcd; cases hcd
  · have hx₁ : (h.push { cls := .type "dict", data := .dict #[] }).get? x = some o := Heap.get?_push_of_some _ hx
    have hxs : x ≠ h.objs.size := Nat.ne_of_lt (Heap.lt_size hx)
    refine wpAny_bind (wpAny_alloc' ?_)
    refine wpAny_bind (wpAny_update' hx₁ ?_)
    refine wpAny_pure ?_
    have hgd : ((h.push { cls := .type "dict", data := .dict #[] }).update x fun o => { cls := o.cls, dict := some h.objs.size, data := o.data, slots := o.slots }).get? h.objs.size
        = some { cls := .type "dict", data := .dict #[] } :=
      (Heap.get?_update_ne _ _ _ _ hxs.symm).trans (Heap.get?_push_at rfl rfl)
    have hnd : ((h.push { cls := .type "dict", data := .dict #[] }).update x fun o => { cls := o.cls, dict := some h.objs.size, data := o.data, slots := o.slots }).Ns h.objs.size (fun _ => none) :=
      ⟨_, #[], _, hgd, rfl, fun e he => absurd he (by simp), fun _ => rfl⟩
    show wpAny _ _ (storeInDict h.objs.size (.str name tk) name v) _ _ _
    unfold storeInDict newKeyGuard
    refine wpAny_bind (wpAny_pure (wpAny_bind (wpAny_nsSet1 (Heap.Ns1.of_empty hnd) fun h' hn' hs => ?_)))
    obtain ⟨oD, esD, epD, hoD, hdD, hcD⟩ := hn'.count (Within.cons name v Within.nil)
    refine wpAny_bind (wpAny_lookBehind hoD (by rw [hdD]; exact pastItsLine_dict (Nat.le_trans hcD (by rw [List.length_cons, List.length_nil, sizeLine_eq]; exact Nat.succ_pos _))) ?_)
    wp_walk
    refine hq h' _ ?_ hn' (fun b ob hbx hb => ?_)
    · refine (hs.2 x hxs).trans (Heap.get?_update_self _ hx₁ ?_)
      have hfr := (Heap.get?_some_iff.mp hx).2
      obtain ⟨oc, od, odt, osl⟩ := o
      cases odt <;> first | rfl | exact hfr
    · exact (hs.2 b (Nat.ne_of_lt (Heap.lt_size hb))).trans ((Heap.get?_update_ne _ _ _ _ hbx).trans (Heap.get?_push_of_some _ hb))
theorem setFirst {Q : Unit → Shared → Prop} {vs : Array Value} (SF : StoreFacts B bm sa owner) (hC : h.get? C = some (excClassObj nm q C N bs bm true sn sub ab col dd k0 k1 k2 k3 k5 newId)) (hn : h.Ns N m32) (hns : m32 "__setattr__" = none) (hna : m32 name = none) (hB : typeLookup (.type B) name = pure none)
    (hx : h.get? x = some o) (hc : o.cls = .ref C) (hdt : o.data = .fields vs) (hdn : o.dict = none)
    (hq : ∀ h' tk', h'.get? x = some { cls := o.cls, dict := some h.objs.size, data := o.data, slots := o.slots } → h'.Ns1 h.objs.size (fun y => if y = name then some v else none) →
      (∀ b o, b ≠ x → h.get? b = some o → h'.get? b = some o) → Q () ⟨h', g, d, tk', os⟩) :
    wpAny (model prog w) A (setAttr (.ref x) name v) Q E ⟨h, g, d, t, os⟩ := by
  have f3 := SF.slot.bind (.ref x)
  unfold setAttr callSpecial? specialOf
  repeat (any_goals (first | assumption | (with_reducible refine wpAny_loadPart_at hx ?_; rw [hc]) | (with_reducible refine wpAny_typeLookup_exc hC hn SF.mro SF.slot.lookup ?_; rw [hns]) | wp_step))
  refine codeAny_call_builtin SF.slot.plain SF.entry (wpAny_check_sa SF hC hx hc (setFirstEntry SF hC hn hna hB hx hc hdt hdn fun h' tk' a b c => ?_))
  repeat (any_goals (first | assumption | wp_step))
  exact hq h' tk' a b c
end
structure Mk (h₀ : Heap) (e L dx : Addr) (m mA : Names) (ns : List PySem.Str) (h : Heap) : Prop where
  keep : ∀ b o, h₀.get? b = some o → h.get? b = some o
  nsL : h.Ns L m
  obj : ∃ o t, h.get? e = some o ∧ o.cls = .ref 33 ∧ o.dict = some dx ∧ o.data = .fields #[.ref t, .none, .none, .none, .bool false, .none]
  dict : h.Ns1 dx mA
  wi : Within mA ns
  de : dx ≠ e
  dL : dx ≠ L
  eL : e ≠ L
  newE : h₀.get? e = none
  newD : h₀.get? dx = none
theorem Mk.push {h₀ h : Heap} {e L dx : Addr} {m mA : Names} {ns : List PySem.Str} (K : Mk h₀ e L dx m mA ns h) (o : Obj) : Mk h₀ e L dx m mA ns (h.push o) :=
  ⟨fun b o' g => Heap.get?_push_of_some _ (K.keep b o' g), K.nsL.push o, let ⟨o', t, a, r⟩ := K.obj; ⟨o', t, Heap.get?_push_of_some _ a, r⟩, let ⟨o', es, ep, a, r⟩ := K.dict; ⟨o', es, ep, Heap.get?_push_of_some _ a, r⟩, K.wi, K.de, K.dL, K.eL, K.newE, K.newD⟩
section
variable {prog : Program} {w : World} {A : Around} {E : Value → Shared → Prop} {s : Shared} {h₀ : Heap} {e L dx : Addr} {m mA m32 : Names} {ns : List PySem.Str} {name : PySem.Str} {v : Value}
theorem Mk.set (K : Mk h₀ e L dx m mA ns s.heap) (hC : h₀.get? 33 = some rcls) (hn : h₀.Ns 32 m32) (hns : m32 "__setattr__" = none) (hna : m32 name = none) (hB : typeLookup (.type "Exception") name = pure none) (hsz : ns.length ≤ sizeLine) {Q : Unit → Shared → Prop}
    (hq : ∀ h' tk', Mk h₀ e L dx m (fun y => if y = name then some v else mA y) (name :: ns) h' → Q () { s with heap := h', toks := tk' }) : wpAny (model prog w) A (setAttr (.ref e) name v) Q E s := by
  obtain ⟨h, g, d, t, os⟩ := s
  obtain ⟨o, t0, ho, hc, hd, hdt⟩ := K.obj
  refine store_attr PySem.F.store_Exception (K.keep _ _ hC) (hn.keeps K.keep) hns hna hB (fun q => by have := K.newE; rw [q, hC] at this; cases this) ⟨o, ho, hc, (fun c q => by rw [hdt] at q; cases q), .inr ⟨dx, hd, K.de, K.dict⟩⟩ (fun h' tk' I' hk hsame => ?_) K.wi hsz
  have kk : ∀ b o', b ≠ e → b ≠ dx → h.get? b = some o' → h'.get? b = some o' := fun b o' n1 n2 g => hk b o' n1 (fun o₀ d' e₀ ed => by
    rw [ho] at e₀; cases e₀; rw [hd] at ed; cases ed; exact n2) g
  obtain ⟨o₁, e1, e2, e3, e4, e5⟩ := hsame o ho
  refine hq h' tk' ⟨fun b o' g => kk b o' (fun q => by rw [q, K.newE] at g; cases g) (fun q => by rw [q, K.newD] at g; cases g) (K.keep b o' g), ?_, ⟨o₁, t0, e1, e2.trans hc, e5 dx hd, e3.trans hdt⟩, ?_, Within.cons name v K.wi, K.de, K.dL, K.eL, K.newE, K.newD⟩
  · obtain ⟨oL, es, ep, hoL, r⟩ := K.nsL
    exact ⟨oL, es, ep, kk L oL K.eL.symm K.dL.symm hoL, r⟩
  · obtain ⟨o', g1, _, _, hd'⟩ := I'
    rw [e1] at g1; cases g1
    rcases hd' with ⟨hn0, _⟩ | ⟨d', hd', _, hns'⟩
    · rw [e5 dx hd] at hn0; cases hn0
    · rw [e5 dx hd] at hd'; cases hd'; exact hns'
end
end Lr
end
section
open PySem PySem.W PyProof.Rows PySem.SeqAt PySem.Calls
set_option maxRecDepth 1000000
namespace Lr
section
variable {M : Model} {A : Around} {E : Value → Shared → Prop} {s : Shared} {env : Env} {x : Stmt}
theorem base_step {Q : Flow → Shared → Prop} (hx : baseForm x = true) (hi : interactive env = false)
    (h : ∀ q, wpAny M A (eval (.Name "Exception" q) env) (fun ov s₁ => ∀ pl, wpAny M A (getMethod ov "__init__" pl) (fun fx s₂ => ∃ id, fx = (.builtin id, []) ∧ wpAny M A (loadName env "self") (fun a s₃ => wpAny M A (loadName env "value") (fun b s₄ =>
      wpAny M A (call (.builtin id) [a, b]) (fun r s₅ => r = .none ∧ Q .next s₅) E s₄) E s₃) E s₂) E s₁) E s) : wpAny M A (exec x env) Q E s := by
  refine onSExpr_el (P := fun x => wpAny M A (exec x env) Q E s) hx fun u w1 z1 => ?_
  refine onCall_el (P := fun u => wpAny M A (exec (.Expr u w1) env) Q E s) z1 fun f xs ks q2 z2 => ?_
  refine onAttribute_el (P := fun f => wpAny M A (exec (.Expr (.Call f xs ks q2) w1) env) Q E s) z2 fun n i q1 z3 => ?_
  refine onName_el (P := fun n => wpAny M A (exec (.Expr (.Call (.Attribute n i q1) xs ks q2) w1) env) Q E s) z3 fun a w2 z4 => ?_
  refine on2_el (P := fun xs => wpAny M A (exec (.Expr (.Call (.Attribute (.Name a w2) i q1) xs ks q2) w1) env) Q E s) z4 fun e1 e2 z5 => ?_
  refine onName_el (P := fun e1 => wpAny M A (exec (.Expr (.Call (.Attribute (.Name a w2) i q1) [e1, e2] ks q2) w1) env) Q E s) z5 fun b w3 z6 => ?_
  refine onName_el (P := fun e2 => wpAny M A (exec (.Expr (.Call (.Attribute (.Name a w2) i q1) [.Name b w3, e2] ks q2) w1) env) Q E s) z6 fun c w4 z7 => ?_
  refine on0_el (P := fun ks => wpAny M A (exec (.Expr (.Call (.Attribute (.Name a w2) i q1) [.Name b w3, .Name c w4] ks q2) w1) env) Q E s) z7 fun z8 => ?_
  clear hx; have hx := z8; clear z1 z2 z3 z4 z5 z6 z7 z8
  simp only [Bool.and_eq_true, beq_iff_eq] at hx
  obtain ⟨⟨⟨⟨rfl, rfl⟩, rfl⟩, rfl⟩, hp⟩ := hx
  refine wpAny_Expr (methCall rfl rfl (by show 2 < 30; decide) (by simpa using hp) fun pl => wpAny_mono (h _) (fun ov s₁ h₁ => wpAny_mono (h₁ pl) (fun fx s₂ h₂ => ?_) fun _ _ x => x) fun _ _ x => x) hi rfl
  obtain ⟨id, rfl, h₂⟩ := h₂
  refine callBlt rfl (wpAny_items_cons (wpAny_Name (wpAny_mono h₂ (fun a s₃ h₃ => wpAny_items_cons (wpAny_Name (wpAny_mono h₃ (fun b s₄ h₄ => wpAny_items_nil (wpAny_mono h₄ (fun r s₅ h₅ => ?_) fun _ _ x => x)) fun _ _ x => x)) (star_cons rfl _ _)) fun _ _ x => x)) (star_cons rfl _ _))
  obtain ⟨rfl, h₅⟩ := h₅
  exact h₅
theorem set_name {attr : PySem.Str} {Q : Flow → Shared → Prop} (hx : setForm attr 0 x = true) (hd : (attr == ("__debug__" : PySem.Str)) = false)
    (h : wpAny M A (loadName env attr) (fun v s₁ => wpAny M A (loadName env "self") (fun ov s₂ => wpAny M A (setAttr ov attr v) (fun _ => Q .next) E s₂) E s₁) E s) : wpAny M A (exec x env) Q E s := by
  refine onSAssign_el (P := fun x => wpAny M A (exec x env) Q E s) hx fun ts v q3 z1 => ?_
  refine on1_el (P := fun ts => wpAny M A (exec (.Assign ts v q3) env) Q E s) z1 fun t z2 => ?_
  refine onAttribute_el (P := fun t => wpAny M A (exec (.Assign [t] v q3) env) Q E s) z2 fun o c q2 z3 => ?_
  refine onName_el (P := fun o => wpAny M A (exec (.Assign [.Attribute o c q2] v q3) env) Q E s) z3 fun a q1 z4 => ?_
  clear hx; have hx := z4; clear z1 z2 z3 z4
  simp only [Bool.and_eq_true, beq_iff_eq] at hx
  obtain ⟨⟨⟨rfl, rfl⟩, h1⟩, h2⟩ := hx
  refine onName_el (P := fun v => noComp v = true → wpAny M A (exec (.Assign [.Attribute (.Name "self" q1) c q2] v q3) env) Q E s) h2 (fun x w h3 h1 => ?_) h1
  clear h2
  simp only [beq_iff_eq] at h3
  subst h3
  exact plainObj_wpAny_Assign_Attribute (wpAny_Name (wpAny_mono h (fun v s₁ h₁ => wpAny_Name h₁) fun _ _ x => x) hd) (swap_no h1 _ _ _)
theorem set_const {attr : PySem.Str} {k : Nat} (hk : k = 1 ∨ k = 2 ∨ k = 3) {Q : Flow → Shared → Prop} (hx : setForm attr k x = true)
    (h : ∀ v tk, wpAny M A (loadName env "self") (fun ov s₂ => wpAny M A (setAttr ov attr v) (fun _ => Q .next) E s₂) E { s with toks := tk }) : wpAny M A (exec x env) Q E s := by
  refine onSAssign_el (P := fun x => wpAny M A (exec x env) Q E s) hx fun ts v q3 z1 => ?_
  refine on1_el (P := fun ts => wpAny M A (exec (.Assign ts v q3) env) Q E s) z1 fun t z2 => ?_
  refine onAttribute_el (P := fun t => wpAny M A (exec (.Assign [t] v q3) env) Q E s) z2 fun o c q2 z3 => ?_
  refine onName_el (P := fun o => wpAny M A (exec (.Assign [.Attribute o c q2] v q3) env) Q E s) z3 fun a q1 z4 => ?_
  clear hx; have hx := z4; clear z1 z2 z3 z4
  simp only [Bool.and_eq_true, beq_iff_eq] at hx
  obtain ⟨⟨⟨rfl, rfl⟩, h1⟩, h2⟩ := hx
  refine plainObj_wpAny_Assign_Attribute ?_ (swap_no h1 _ _ _)
  rcases hk with rfl | rfl | rfl
  · refine onConstant_el (P := fun v => wpAny M A (eval v env) _ E s) h2 fun cn u1 u2 h3 => ?_
    refine onCStr_el (P := fun cn => wpAny M A (eval (.Constant cn u1 u2) env) _ E s) h3 fun i h4 => ?_
    exact wpAny_Constant_str (wpAny_Name (h _ _))
  · refine onConstant_el (P := fun v => wpAny M A (eval v env) _ E s) h2 fun cn u1 u2 h3 => ?_
    refine onCBool_el (P := fun cn => wpAny M A (eval (.Constant cn u1 u2) env) _ E s) h3 fun i h4 => ?_
    exact wpAny_Constant_bool (wpAny_Name (h _ s.toks))
  · refine onConstant_el (P := fun v => wpAny M A (eval v env) _ E s) h2 fun cn u1 u2 h3 => ?_
    refine onCInt_el (P := fun cn => wpAny M A (eval (.Constant cn u1 u2) env) _ E s) h3 fun i h4 => ?_
    exact wpAny_Constant_int (wpAny_Name (h _ _))
theorem set_nil {attr : PySem.Str} {Q : Flow → Shared → Prop} (hx : setForm attr 4 x = true)
    (h : wpAny M A (loadName env "self") (fun ov s₂ => wpAny M A (setAttr ov attr (.ref s.heap.objs.size)) (fun _ => Q .next) E s₂) E { s with heap := s.heap.push { cls := .type "list", data := .seq #[] } }) : wpAny M A (exec x env) Q E s := by
  refine onSAssign_el (P := fun x => wpAny M A (exec x env) Q E s) hx fun ts v q3 z1 => ?_
  refine on1_el (P := fun ts => wpAny M A (exec (.Assign ts v q3) env) Q E s) z1 fun t z2 => ?_
  refine onAttribute_el (P := fun t => wpAny M A (exec (.Assign [t] v q3) env) Q E s) z2 fun o c q2 z3 => ?_
  refine onName_el (P := fun o => wpAny M A (exec (.Assign [.Attribute o c q2] v q3) env) Q E s) z3 fun a q1 z4 => ?_
  clear hx; have hx := z4; clear z1 z2 z3 z4
  simp only [Bool.and_eq_true, beq_iff_eq] at hx
  obtain ⟨⟨⟨rfl, rfl⟩, h1⟩, h2⟩ := hx
  refine plainObj_wpAny_Assign_Attribute ?_ (swap_no h1 _ _ _)
  refine onList_el (P := fun v => wpAny M A (eval v env) _ E s) h2 fun l u1 h3 => ?_
  refine on0_el (P := fun l => wpAny M A (eval (.List l u1) env) _ E s) h3 fun h4 => ?_
  exact wpAny_List (wpAny_items_nil ⟨by decide, wpAny_Name h⟩)
theorem callCls {xs : List Expr} {pos : Pos} {Q : Value → Shared → Prop} (hx : xs.all noStar = true)
    (h : wpAny M A (spliced (backTo pos (starEach xs env))) (fun vs s₁ => s₁.heap.get? 33 = some rcls ∧ wpAny M A (call (.ref 33) vs) Q E s₁) E s) : wpAny M A (callWith pos (.ref 33) [] (backTo pos (starEach xs env)) []) Q E s := by
  unfold callWith
  refine wpAny_bind (wpAny_holding (wpAny_mono (args_of hx (Q := fun a s₁ => a.kw = [] ∧ s₁.heap.get? 33 = some rcls ∧ wpAny M A (call (.ref 33) a.pos) Q E s₁) (wpAny_mono h (fun _ _ h => ⟨rfl, h⟩) fun _ _ x => x)) (fun a s₂ h₂ => wpAny_bind (wpAny_standAt ?_)) fun _ _ x => x))
  obtain ⟨apos, akw⟩ := a
  obtain ⟨hkw, hC, h₂⟩ := h₂
  obtain rfl : akw = [] := hkw
  obtain ⟨hp, g, d, tk, os⟩ := s₂
  simp only [star_any hx]
  refine wpAny_bind (wpAny_keeperOf_exc hC ?_)
  exact wpAny_bind (wpAny_mono h₂ (fun r s₃ h₃ => wpAny_bind (wpAny_holding (wpAny_point (wpAny_pure h₃)))) fun _ _ x => x)
end
end Lr
end
section
open PySem PySem.W PyProof.Rows PySem.SeqAt PySem.Calls
set_option maxRecDepth 1000000
set_option maxHeartbeats 8000000
namespace Lr
theorem noAttr {n : PySem.Str} (h : fastLookup "Exception" n = some none) : typeLookup (.type "Exception") n = pure none := by rw [typeLookup_type, builtinLookup_eq_fast, h]
theorem attr_none : (["code", "value", "errorcode", "level", "ret", "info", "is_noted", "line", "extra"] : List PySem.Str).map (fun n => fastLookup "Exception" n) = [some none, some none, some none, some none, some none, some none, some none, some none, some none] := by kernel_rfl
theorem exc_init_found : findCls [] (.type "Exception") (.type "type") "__init__" = some (.val (.builtin "Exception.__init__")) := by kernel_rfl
theorem exc_typeOf : typeOf (.type "Exception") = pure (.type "type") := by kernel_rfl
theorem exc_stub : Manifest.isStub "Exception" = false := by decide +kernel
theorem boot_exc : bootBuiltins "Exception" = some (.type "Exception") := by kernel_rfl
abbrev myAttrs : List PySem.Str := ["code", "value", "errorcode", "level", "ret", "info", "is_noted", "line", "extra"]
theorem attr_no {n : PySem.Str} (h : n ∈ myAttrs) : typeLookup (.type "Exception") n = pure none := by
  refine noAttr ?_
  have := List.map_inj_left.mp (attr_none.trans (show _ = myAttrs.map (fun _ => some none) from rfl)) n h
  exact this
theorem mN_no (P : Params) {n : PySem.Str} (h : n ∈ (("__setattr__" : PySem.Str) :: ("__getattribute__" : PySem.Str) :: myAttrs)) : mN P n = none :=
  List.map_inj_left.mp ((mN_none P).trans (show _ = (("__setattr__" : PySem.Str) :: ("__getattribute__" : PySem.Str) :: myAttrs).map (fun _ => none) from rfl)) n h
structure Made (h₀ : Heap) (e dx : Addr) (v1 v2 v3 : Value) (h : Heap) : Prop where
  keep : ∀ b o, h₀.get? b = some o → h.get? b = some o
  obj : ∃ o t, h.get? e = some o ∧ o.cls = .ref 33 ∧ o.dict = some dx ∧ o.data = .fields #[.ref t, .none, .none, .none, .bool false, .none]
  dict : ∃ mA, h.Ns1 dx mA ∧ mA "code" = some v1 ∧ mA "value" = some v2 ∧ mA "errorcode" = some v3
section
variable {w : World} {mg mb : Names} {base : Heap} {A : Around} {E : Value → Shared → Prop} {s : Shared}
theorem selfOk {e v1 v2 v3 : Value} {env : Env} {s : Shared} {Q : Value → Shared → Prop} (x : PySem.Str) (v : Value) (hk : env.scope = initScope) (hn : s.heap.Ns env.locals fun x => (errArgs e v1 v2 v3).reverse.lookup x)
    (hx : initScope.names.lookup x = some .local) (hv : (errArgs e v1 v2 v3).reverse.lookup x = some v) (h : Q v s) : wpAny (model pw w) A (loadName env x) Q E s :=
  wpAny_loadName_local (by rw [hk]; exact init_kind) (by show env.scope.names.lookup x = _; rw [hk]; exact hx) hn hv h
theorem initRun (G : Gd w mg mb base) (st : base.StaysIn s.heap) (hdep : A.depth + 10 < recursionLimit) {v1 v2 v3 : Value} {h₀ : Heap} (hh : s.heap = (h₀.push (tupOf [v1, v2, v3])).push (excO h₀.objs.size)) {Q : Value → Shared → Prop} (st0 : base.StaysIn h₀) (hb : base.objs.size ≤ s.heap.objs.size)
    (hq : ∀ h' tk dx, Made h₀ (h₀.objs.size + 1) dx v1 v2 v3 h' → Q .none { s with heap := h', toks := tk }) : wpAny (model pw w) A (call (.ref 30) [.ref (h₀.objs.size + 1), v1, v2, v3]) Q E s := by
  obtain ⟨k, b1, b2⟩ := bindInit (.ref (h₀.objs.size + 1)) v1 v2 v3
  have h30 : s.heap.get? 30 = some { cls := .type "function", data := .func initData } := (init_obj w.params) ▸ st _ _ (G.at (a := 30) (by decide))
  have h29 : s.heap.get? 29 = some (objAt w.params lawName 71 29) := st _ _ (G.at (a := 29) (by decide))
  refine wpAny_call (codeAny_call_def (fd := initData) (body := bodyOfDef initStm) (binds := errArgs (.ref (h₀.objs.size + 1)) v1 v2 v3) (by omega) h30 rfl (G.top.nolimit.keeps st) ⟨29, _, _, 205, rfl, h29, rfl, rfl⟩ rfl
    (BindsTo.of_defaults (fd := initData) (T := 23) (o := tupO [.ref 22, .int 0 202, .int 0 203]) (items := #[.ref 22, .int 0 202, .int 0 203]) (n := 0) rfl (st _ _ (G.at (a := 23) (by decide))) rfl b1 b2)
    (fun x hx => by
      have hx : x ∈ initScope.names := hx
      rw [init_scope] at hx
      simp only [List.mem_cons, List.not_mem_nil, or_false] at hx
      rcases hx with rfl | rfl | rfl | rfl | rfl | rfl | rfl <;> (intro q; cases q))
    (fun x hx => by
      show initScope.names.lookup x.1 = _
      rw [init_scope]
      simp only [errArgs, List.mem_cons, List.not_mem_nil, or_false] at hx
      rcases hx with rfl | rfl | rfl | rfl | rfl | rfl <;> rfl) (fun h1 hns hk => ?_) init_co init_gen init_kind)
  have L0 := s.heap.objs.size
  have hbx := bxs
  simp only [Bool.and_eq_true] at hbx
  obtain ⟨⟨⟨⟨⟨⟨⟨⟨x1, x2⟩, x3⟩, x4⟩, x5⟩, x6⟩, x7⟩, x8⟩, x9⟩ := hbx
  have st1 : base.StaysIn h1 := fun b o e => hk b o (st b o e)
  rw [init_body]
  refine wpAny_execs_cons (base_step bx0 (by unfold interactive; rw [show (callEnv initData s.heap.objs.size 30).scope.kind = .function from init_kind]; rfl) fun q => ?_)
  have kl : ∀ {x : PySem.Str} {k : NameKind}, ([("self", .local), ("code", .local), ("value", .local), ("errorcode", .local), ("level", .local), ("ret", .local), ("Exception", .globalImplicit)] : List (PySem.Str × NameKind)).lookup x = some k → initScope.names.lookup x = some k := fun h => by rw [init_scope]; exact h
  refine Name_function_global init_kind (kl rfl) (loadGlobal_builtin (G.top.g.keeps st1) (G.blt (by decide)) (G.top.b.keeps st1) (by rw [G.top.builtins _ (by decide)]; exact boot_exc) fun pl => ?_) (by decide)
  refine method_type (K := []) (h₀ := base) (L := s.heap.objs.size) ⟨hns, st1, hb⟩ (fun _ _ h => nomatch h) exc_typeOf exc_stub exc_init_found rfl ⟨"Exception.__init__", rfl, ?_⟩
  refine selfOk "self" (.ref (h₀.objs.size + 1)) rfl hns (kl rfl) rfl (selfOk "value" v2 rfl hns (kl rfl) rfl ?_)
  have hC0 : h₀.get? 33 = some rcls := st0 _ _ G.cls
  have hC1 : h1.get? 33 = some rcls := st1 _ _ G.cls
  have he1 : h1.get? (h₀.objs.size + 1) = some (excO h₀.objs.size) := hk _ _ (by rw [hh]; exact Heap.get?_push_at (by simp only [Heap.size_push]) rfl)
  have k01 : ∀ b o, h₀.get? b = some o → h1.get? b = some o := fun b o e => hk b o (by rw [hh]; exact Heap.get?_push_of_some _ (Heap.get?_push_of_some _ e))
  have hnone : ∀ b, h₀.objs.size ≤ b → h₀.get? b = none := fun b hb => none_of_ge hb
  refine baseInit (rest := [v2]) hC1 he1 rfl rfl rfl (by show 1 ≤ sizeLine; rw [sizeLine_eq]; exact Nat.succ_pos _) ⟨rfl, ?_⟩
  have he2 := Heap.get?_update_self (Obj.mapFields (·.setIfInBounds 0 (.ref h1.objs.size))) (Heap.get?_push_of_some (tupOf [v2]) he1) rfl
  have k12 : ∀ b o, b ≠ h₀.objs.size + 1 → h1.get? b = some o → ((h1.push (tupOf [v2])).update (h₀.objs.size + 1) (Obj.mapFields (·.setIfInBounds 0 (.ref h1.objs.size)))).get? b = some o := fun b o n g => (Heap.get?_update_other _ _ (Ne.symm n)).trans (Heap.get?_push_of_some _ g)
  generalize (h1.push (tupOf [v2])).update (h₀.objs.size + 1) (Obj.mapFields (·.setIfInBounds 0 (.ref h1.objs.size))) = h2 at he2 k12
  have k02 : ∀ b o, h₀.get? b = some o → h2.get? b = some o := fun b o g => k12 b o (fun q => by rw [q, hnone _ (Nat.le_succ _)] at g; cases g) (k01 b o g)
  have hL1 : h₀.objs.size + 1 ≠ s.heap.objs.size := by rw [hh]; simp only [Heap.size_push]; omega
  have hns2 : h2.Ns s.heap.objs.size (fun x => (errArgs (.ref (h₀.objs.size + 1)) v1 v2 v3).reverse.lookup x) := by
    obtain ⟨oL, es, ep, ho, r⟩ := hns
    exact ⟨oL, es, ep, k12 _ _ (Ne.symm hL1) ho, r⟩
  have hn32 : h₀.Ns 32 (mN w.params) := G.clsN.keeps st0
  have hsa : mN w.params "__setattr__" = none := mN_no _ (.head _)
  have no : ∀ n ∈ myAttrs, mN w.params n = none := fun n hn => mN_no _ (.tail _ (.tail _ hn))
  refine wpAny_execs_cons (set_name x1 (by decide) (selfOk "code" v1 rfl hns2 (kl rfl) rfl (selfOk "self" (.ref (h₀.objs.size + 1)) rfl hns2 (kl rfl) rfl (setFirst PySem.F.store_Exception (k02 _ _ hC0) (hn32.keeps k02) hsa (no _ (by decide)) (attr_no (by decide)) he2 rfl rfl rfl fun h3 tk3 e3 d3 k3 => ?_))))
  have K3 : Mk h₀ (h₀.objs.size + 1) s.heap.objs.size h2.objs.size (fun x => (errArgs (.ref (h₀.objs.size + 1)) v1 v2 v3).reverse.lookup x) (fun y => if y = ("code" : PySem.Str) then some v1 else none) ["code"] h3 := by
    have nd : h₀.get? h2.objs.size = none := by
      cases q : h₀.get? h2.objs.size with
      | none => rfl
      | some o => exact absurd (Heap.lt_size (k02 _ _ q)) (Nat.lt_irrefl _)
    refine ⟨fun b o g => k3 b o (fun q => by rw [q, hnone _ (Nat.le_succ _)] at g; cases g) (k02 b o g), ?_, ⟨_, _, e3, rfl, rfl, rfl⟩, d3, Within.cons _ _ Within.nil, ?_, ?_, hL1, hnone _ (Nat.le_succ _), nd⟩
    · obtain ⟨oL, es, ep, ho, r⟩ := hns2
      exact ⟨oL, es, ep, k3 _ _ (Ne.symm hL1) ho, r⟩
    · exact Nat.ne_of_gt (Heap.lt_size he2)
    · exact Nat.ne_of_gt hns2.lt
  show wpAny _ _ _ _ _ _
  refine wpAny_execs_cons (set_name x2 (by decide) (selfOk "value" v2 rfl K3.nsL (kl rfl) rfl (selfOk "self" (.ref (h₀.objs.size + 1)) rfl K3.nsL (kl rfl) rfl (K3.set hC0 hn32 hsa (no _ (by decide)) (attr_no (by decide)) (by decide) fun h4 tk4 K4 => ?_))))
  show wpAny _ _ _ _ _ _
  refine wpAny_execs_cons (set_name x3 (by decide) (selfOk "errorcode" v3 rfl K4.nsL (kl rfl) rfl (selfOk "self" (.ref (h₀.objs.size + 1)) rfl K4.nsL (kl rfl) rfl (K4.set hC0 hn32 hsa (no _ (by decide)) (attr_no (by decide)) (by decide) fun h5 tk5 K5 => ?_))))
  show wpAny _ _ _ _ _ _
  refine wpAny_execs_cons (set_name x4 (by decide) (selfOk "level" (.int 0 202) rfl K5.nsL (kl rfl) rfl (selfOk "self" (.ref (h₀.objs.size + 1)) rfl K5.nsL (kl rfl) rfl (K5.set hC0 hn32 hsa (no _ (by decide)) (attr_no (by decide)) (by decide) fun h6 tk6 K6 => ?_))))
  show wpAny _ _ _ _ _ _
  refine wpAny_execs_cons (set_name x5 (by decide) (selfOk "ret" (.int 0 203) rfl K6.nsL (kl rfl) rfl (selfOk "self" (.ref (h₀.objs.size + 1)) rfl K6.nsL (kl rfl) rfl (K6.set hC0 hn32 hsa (no _ (by decide)) (attr_no (by decide)) (by decide) fun h7 tk7 K7 => ?_))))
  show wpAny _ _ _ _ _ _
  refine wpAny_execs_cons (set_const (.inl rfl) x6 fun u6 t6 => (selfOk "self" (.ref (h₀.objs.size + 1)) rfl K7.nsL (kl rfl) rfl (K7.set hC0 hn32 hsa (no _ (by decide)) (attr_no (by decide)) (by decide) fun h8 tk8 K8 => ?_)))
  show wpAny _ _ _ _ _ _
  refine wpAny_execs_cons (set_const (.inr (.inl rfl)) x7 fun u7 t7 => (selfOk "self" (.ref (h₀.objs.size + 1)) rfl K8.nsL (kl rfl) rfl (K8.set hC0 hn32 hsa (no _ (by decide)) (attr_no (by decide)) (by decide) fun h9 tk9 K9 => ?_)))
  show wpAny _ _ _ _ _ _
  refine wpAny_execs_cons (set_const (.inr (.inr rfl)) x8 fun u8 t8 => (selfOk "self" (.ref (h₀.objs.size + 1)) rfl K9.nsL (kl rfl) rfl (K9.set hC0 hn32 hsa (no _ (by decide)) (attr_no (by decide)) (by decide) fun h10 tk10 K10 => ?_)))
  show wpAny _ _ _ _ _ _
  have K10' := K10.push { cls := .type "list", data := .seq #[] }
  refine wpAny_execs_cons (set_nil x9 (selfOk "self" (.ref (h₀.objs.size + 1)) rfl K10'.nsL (kl rfl) rfl (K10'.set hC0 hn32 hsa (no _ (by decide)) (attr_no (by decide)) (by decide) fun h11 tk11 K11 => ?_)))
  show wpAny _ _ _ _ _ _
  refine wpAny_execs_nil ?_
  exact hq h11 tk11 h2.objs.size ⟨K11.keep, K11.obj, ⟨_, K11.dict, rfl, rfl, rfl⟩⟩
end
end Lr
end
section
open PySem PySem.W PyProof.Rows PySem.SeqAt PySem.Calls
set_option maxRecDepth 1000000
set_option maxHeartbeats 8000000
namespace Lr
noncomputable def errForm (ss : List Stmt) : Bool :=
  on1 ss fun u1 => onSReturn u1 fun u2 _ => onSome u2 fun u3 => onCall u3 fun u4 u5 u6 _ => onName u4 fun a _ => on3 u5 fun u7 u8 u9 => onConstant u7 fun u10 _ _ => onCInt u10 fun i => onName u8 fun b _ => onName u9 fun c _ => on0 u6 <| (a == ("Raised" : PySem.Str) && i == 1 && b == ("text" : PySem.Str) && c == ("errorcode" : PySem.Str))
theorem errForm_el {ss : List Stmt} {P : List Stmt → Prop} (hf : errForm ss = true) (cont : ∀ w1 w2 w3 w4 w5 w6 w7, P [(.Return (some (.Call (.Name ("Raised" : PySem.Str) w3) [(.Constant (.int 1) w4 w5), (.Name ("text" : PySem.Str) w6), (.Name ("errorcode" : PySem.Str) w7)] [] w2)) w1)]) : P ss := by
  refine on1_el (P := fun ss => P (ss)) hf fun u1 h1 => ?_
  refine onSReturn_el (P := fun u1 => P ([u1])) h1 fun u2 w1 h2 => ?_
  refine onSome_el (P := fun u2 => P ([(.Return u2 w1)])) h2 fun u3 h3 => ?_
  refine onCall_el (P := fun u3 => P ([(.Return (some u3) w1)])) h3 fun u4 u5 u6 w2 h4 => ?_
  refine onName_el (P := fun u4 => P ([(.Return (some (.Call u4 u5 u6 w2)) w1)])) h4 fun a w3 h5 => ?_
  refine on3_el (P := fun u5 => P ([(.Return (some (.Call (.Name a w3) u5 u6 w2)) w1)])) h5 fun u7 u8 u9 h6 => ?_
  refine onConstant_el (P := fun u7 => P ([(.Return (some (.Call (.Name a w3) [u7, u8, u9] u6 w2)) w1)])) h6 fun u10 w4 w5 h7 => ?_
  refine onCInt_el (P := fun u10 => P ([(.Return (some (.Call (.Name a w3) [(.Constant u10 w4 w5), u8, u9] u6 w2)) w1)])) h7 fun i h8 => ?_
  refine onName_el (P := fun u8 => P ([(.Return (some (.Call (.Name a w3) [(.Constant (.int i) w4 w5), u8, u9] u6 w2)) w1)])) h8 fun b w6 h9 => ?_
  refine onName_el (P := fun u9 => P ([(.Return (some (.Call (.Name a w3) [(.Constant (.int i) w4 w5), (.Name b w6), u9] u6 w2)) w1)])) h9 fun c w7 h10 => ?_
  refine on0_el (P := fun u6 => P ([(.Return (some (.Call (.Name a w3) [(.Constant (.int i) w4 w5), (.Name b w6), (.Name c w7)] u6 w2)) w1)])) h10 fun h11 => ?_
  simp only [Bool.and_eq_true, beq_iff_eq] at h11
  obtain ⟨⟨⟨rfl, rfl⟩, rfl⟩, rfl⟩ := h11
  exact cont _ _ _ _ _ _ _
theorem errForm_inv {ss : List Stmt} (hf : errForm ss = true) : ∃ p1 p2 p3 p4 p5 p6 p7, ss = [.Return (some (.Call (.Name ("Raised" : PySem.Str) p1) [.Constant (.int 1) p2 p3, .Name ("text" : PySem.Str) p4, .Name ("errorcode" : PySem.Str) p5] [] p6)) p7] ∧ True :=
  errForm_el (P := fun ss => ∃ p1 p2 p3 p4 p5 p6 p7, ss = [.Return (some (.Call (.Name ("Raised" : PySem.Str) p1) [.Constant (.int 1) p2 p3, .Name ("text" : PySem.Str) p4, .Name ("errorcode" : PySem.Str) p5] [] p6)) p7] ∧ True) hf fun _ _ _ _ _ _ _  => ⟨_, _, _, _, _, _, _, rfl, trivial⟩
theorem err_form : errForm (bodyOfDef (stm (row 0).1)) = true := by kernel_rfl
theorem err_scope : (scopeOfDef (stm (row 0).1)).names = ([("text", .local), ("errorcode", .local), ("Raised", .globalImplicit)] : List (PySem.Str × NameKind)) := by kernel_rfl
theorem err_kind : (scopeOfDef (stm (row 0).1)).kind = .function := by kernel_rfl
theorem err_co : (scopeOfDef (stm (row 0).1)).isCoroutine = false := by kernel_rfl
theorem err_gen : (scopeOfDef (stm (row 0).1)).isGenerator = false := by kernel_rfl
section
variable {w : World} {mg mb : Names} {base : Heap} {A : Around} {E : Value → Shared → Prop} {s : Shared}
theorem errorCall (G : Gd w mg mb base) (st : base.StaysIn s.heap) (hb : base.objs.size ≤ s.heap.objs.size) (hdep : A.depth + 30 < recursionLimit) {va vb : Value} {Q : Value → Shared → Prop}
    (hq : ∀ h' tk e dx t1, s.heap.objs.size ≤ e → Made s.heap e dx (.int 1 t1) va vb h' → Q (.ref e) { s with heap := h', toks := tk }) : wpAny (model pw w) A (call (.ref (fnAddr 0)) [va, vb]) Q E s := by
  obtain ⟨k, b1, b2⟩ := bindErr va vb
  have hcode : s.heap.get? ((row 0).2.1 + 5) = some (rowObj (row 0) 5) := by
    have h1 := List.all_eq_true.mp code_lt 0 (List.mem_range.mpr (by decide))
    have h2 := G.at (a := (row 0).2.1 + 5) (by simpa [Nat.blt_eq] using h1)
    rw [List.map_inj_left.mp (codes_ok w.params) 0 (List.mem_range.mpr (by decide))] at h2
    exact st _ _ h2
  refine wpAny_call (codeAny_call_def (fd := fnData 0) (body := bodyOfDef (stm (row 0).1)) (binds := [("text", va), ("errorcode", vb)]) (by omega) (st _ _ (G.fnAt (by decide))) (fn_data 0) (G.top.nolimit.keeps st) ⟨_, _, _, _, rfl, hcode, rfl, rfl⟩ rfl
    (BindsTo.of_defaults (fd := fnData 0) (T := 38) (o := tupO [.ref 37]) (items := #[.ref 37]) (n := 0) rfl (st _ _ (G.at (a := 38) (by decide))) rfl b1 b2)
    (fun x hx => by
      have hx : x ∈ (scopeOfDef (stm (row 0).1)).names := hx
      rw [err_scope] at hx
      simp only [List.mem_cons, List.not_mem_nil, or_false] at hx
      rcases hx with rfl | rfl | rfl <;> (intro q; cases q))
    (fun x hx => by
      show (scopeOfDef (stm (row 0).1)).names.lookup x.1 = _
      rw [err_scope]
      simp only [List.mem_cons, List.not_mem_nil, or_false] at hx
      rcases hx with rfl | rfl <;> rfl) (fun h1 hns hk => ?_) err_co err_gen err_kind)
  have st1 : base.StaysIn h1 := fun b o e => hk b o (st b o e)
  have hf := err_form
  generalize bodyOfDef (stm (row 0).1) = body at hf
  obtain ⟨p1, p2, p3, p4, p5, p6, p7, rfl, _⟩ := errForm_inv hf
  have kl : ∀ {x : PySem.Str} {k : NameKind}, ([("text", .local), ("errorcode", .local), ("Raised", .globalImplicit)] : List (PySem.Str × NameKind)).lookup x = some k → (scopeOfDef (stm (row 0).1)).names.lookup x = some k := fun h => by rw [err_scope]; exact h
  have lt1 : s.heap.objs.size < h1.objs.size := hns.lt
  refine wpAny_execs_cons (wpAny_Return_some (callName (Name_function_global err_kind (kl rfl) (loadGlobal_global (G.top.g.keeps st1) (by rw [G.mg]; exact mg_raised w.params) ?_) (by decide))))
  refine callCls rfl (wpAny_items_cons (wpAny_Constant_int (wpAny_items_cons (wpAny_Name (wpAny_loadName_local err_kind (kl rfl) hns rfl (wpAny_items_cons (wpAny_Name (wpAny_loadName_local err_kind (kl rfl) hns rfl (wpAny_items_nil ⟨st1 _ _ G.cls, ?_⟩))) (star_cons rfl _ _)))) (star_cons rfl _ _))) (star_cons rfl _ _))
  refine callRaised (st1 _ _ G.cls) (G.clsN.keeps st1) (mN_init _) (st1 _ _ (G.at (a := 30) (by decide))) (by rw [init_obj]) ?_ (by show 3 ≤ sizeLine; rw [sizeLine_eq]; exact Nat.le_add_left _ _)
  have st2 : ∀ (o₁ o₂ : Obj), base.StaysIn ((h1.push o₁).push o₂) := fun o₁ o₂ b o e => Heap.get?_push_of_some _ (Heap.get?_push_of_some _ (st1 b o e))
  refine initRun G (st2 _ _) ?_ rfl st1 (by simp only [Heap.size_push]; omega) fun h' tk dx K => ?_
  · rw [depth_under_make]; show A.depth + 1 + 1 + 10 < _; omega
  · refine ⟨rfl, ?_⟩
    refine hq h' tk _ dx _ (by show s.heap.objs.size ≤ h1.objs.size + 1; omega) ⟨fun b o e => K.keep b o (hk b o e), K.obj, K.dict⟩
theorem raiseMade {A : Around} {env : Env} {e dx : Addr} {v1 v2 v3 : Value} {h₀ : Heap} (hC : s.heap.get? 33 = some rcls) (K : Made h₀ e dx v1 v2 v3 s.heap) (hh : A.handled = none) {Q : Flow → Shared → Prop} (hE : E (.ref e) s) :
    wpAny (model pw w) A (raiseStmt env (some (pure (.ref e))) none) Q E s := by
  obtain ⟨o, t, he, hc, hd, hdt⟩ := K.obj
  obtain ⟨cl, di, da, sl⟩ := o
  cases hc; cases hd; cases hdt
  have hcB : (Value.ref 33 :: ebm).contains (.type "BaseException") = true := by decide
  unfold raiseStmt
  refine wpAny_bind (wpAny_pure ?_)
  obtain ⟨hp, g, d, tk, os⟩ := s
  repeat (first | with_reducible refine wpAny_loadPart_at he ?_ | with_reducible refine wpAny_loadPart_at hC ?_ | (with_reducible refine wpAny_isSubtype_exc hC ?_; rw [hcB]) | wp_step)
  exact wpAny_raiseNew_none hh hE
end
theorem raiseOk {S : Site} (SO : S.Ok) (n : Nat) : RaiseOk S n := by
  intro c X ns ρ p s m own led va vb l y Q E R ra rb hE
  have hd := X.k.depth
  refine errorCall SO.gd R.hp.stays (Nat.le_trans X.k.lb (Nat.le_trans X.k.l0 (Nat.le_of_lt R.nsL.lt))) (by show c.A₀.depth + 1 + 30 < _; omega) fun h' tk e dx t1 hle K => ?_
  have st : S.base.StaysIn h' := fun b o e => K.keep b o (R.hp.stays b o e)
  refine raiseMade (st _ _ SO.gd.cls) K X.k.handledA ?_
  obtain ⟨o, t0, ho, h1, h2, h3⟩ := K.obj
  obtain ⟨mA, d0, d1, d2, d3⟩ := K.dict
  refine hE e h' tk ⟨⟨dx, none, m, led, ⟨st, ff_step (fun b o e nf => ⟨o, K.keep b o e, nf⟩) R.hp.ff, X.k.lb, R.new X.k.l0 hle, ⟨o, _, ho, ⟨h1, h2⟩, h3, rfl⟩⟩, .inl rfl, R.nsL.keeps K.keep, ⟨mA, _, _, _, d0.ns, d1, d2, d3, .int _ _, ra, rb⟩, fun q hq => ?_, R.ne, R.fresh⟩, ?_, ?_⟩
  · obtain ⟨o, k, a, b⟩ := R.sat q hq
    exact ⟨o, k, K.keep _ _ a, b⟩
  · exact R.kept.trans (Kp.of_keeps fun b o _ e => K.keep b o e)
  · exact R.hp.pen.keeps K.keep
end Lr
end
section
open PySem PySem.W PyProof.Rows PySem.SeqAt PySem.Calls
set_option maxRecDepth 1000000
namespace Lr
section
variable {prog : Program} {w : World} {A : Around} {E : Value → Shared → Prop} {h : Heap} {g : Array GenState} {d : Drawn} {t : Nat} {os : OsState} {a dx : Addr} {o : Obj} {vs : Array Value}
  {nm q : PySem.Str} {C N : Addr} {bs bm : List Value} {sn : List PySem.Str} {sub : List Value} {ab : Bool} {col : Option Bool} {dd : Option Addr} {k0 k1 k2 k3 k5 : Option Value} {B newId : String} {mN mA : Names} {name : PySem.Str} {v : Value}
theorem own_entry {tk : Tok} {Q : Fin → Shared → Prop} (FB : ExcAttrBase B bm) (hC : h.get? C = some (excClassObj nm q C N bs bm true sn sub ab col dd k0 k1 k2 k3 k5 newId)) (hN : h.Ns N mN)
    (hna : mN name = none) (hB : typeLookup (.type B) name = pure none) (hx : h.get? a = some o) (hc : o.cls = .ref C) (hd : o.data = .fields vs) (hdx : o.dict = some dx) (hns : h.Ns dx mA) (hv : mA name = some v) (hq : Q (.done (.ret v)) ⟨h, g, d, t, os⟩) :
    wpAny (model prog w) A (Builtin.«object.__getattribute__» ⟨[.ref a, .str name tk], []⟩) Q E ⟨h, g, d, t, os⟩ := by
  repeat (any_goals (first | assumption | (with_reducible refine wpAny_loadPart_at hx ?_; rw [hc]) | (with_reducible refine wpAny_typeLookup_exc hC hN FB.mro hB ?_; rw [hna]) | wp_step))
  rw [hd]
  show wpAny _ _ (instanceDict a false) _ _ _
  unfold instanceDict
  repeat (first | (with_reducible refine wpAny_loadPart_at hx ?_; rw [hc]) | with_reducible refine wpAny_loadPart_at hC ?_ | wp_step)
  rw [hdx]
  repeat (first | (with_reducible refine wpAny_nsGet hns ?_; rw [hv]) | wp_step)
  exact hq
theorem own_check {M : Model} {nameV : Value} {Q : Unit → Shared → Prop} (FB : ExcAttrBase B bm) (hC : h.get? C = some (excClassObj nm q C N bs bm true sn sub ab col dd k0 k1 k2 k3 k5 newId))
    (hx : h.get? a = some o) (hc : o.cls = .ref C) (hq : Q () ⟨h, g, d, t, os⟩) : wpAny M A (checkBuiltinCall "BaseException.__getattribute__" ⟨[.ref a, nameV], []⟩) Q E ⟨h, g, d, t, os⟩ :=
  wpAny_check_ga_own FB hC .base hx hc hq
theorem own_by {tk : Tok} {fill expr : Bool} {Q : Value → Shared → Prop} (FB : ExcAttrBase B bm) (hC : h.get? C = some (excClassObj nm q C N bs bm true sn sub ab col dd k0 k1 k2 k3 k5 newId)) (hN : h.Ns N mN)
    (hng : mN "__getattribute__" = none) (hnh : mN "__getattr__" = none) (hna : mN name = none) (hB : typeLookup (.type B) name = pure none) (hx : h.get? a = some o) (hc : o.cls = .ref C) (hd : o.data = .fields vs) (hdx : o.dict = some dx) (hns : h.Ns dx mA) (hv : mA name = some v)
    (hh : handedOut v = pure v) (hq : Q v ⟨h, g, d, t, os⟩) :
    wpAny (model prog w) A (getAttrBy (.ref a) (.str name tk) fill expr) Q E ⟨h, g, d, t, os⟩ := by
  have f3 := FB.ga.bind (.ref a)
  have hx0 : (expr && onTheHeap (Value.builtin "BaseException.__getattribute__")) = false := by cases expr <;> rfl
  have hx2 : (Value.builtin "BaseException.__getattribute__" == Value.builtin "object.__getattribute__") = false := by decide +kernel
  have hx1 : (onTheHeap (Value.ref C) && Value.builtin "BaseException.__getattribute__" == Value.builtin "object.__getattribute__") = false := by rw [hx2]; rfl
  repeat (any_goals (first | assumption | (with_reducible refine wpAny_loadPart_at hx ?_; rw [hc]) | (with_reducible refine wpAny_typeLookup_exc hC hN FB.mro FB.ga.lookup ?_; rw [hng]) | (with_reducible refine wpAny_typeLookup_exc hC hN FB.mro FB.noGetattr ?_; rw [hnh]) | wp_step))
  refine codeAny_call_builtin FB.ga.plain F.entry_bexc_ga (own_check FB hC hx hc (own_entry FB hC hN hna hB hx hc hd hdx hns hv ?_))
  show wpAny _ _ (handedOut v) _ _ _
  rw [hh]
  exact wpAny_pure hq
theorem own_attr {expr : Bool} {Q : Value → Shared → Prop} (FB : ExcAttrBase B bm) (hC : h.get? C = some (excClassObj nm q C N bs bm true sn sub ab col dd k0 k1 k2 k3 k5 newId)) (hN : h.Ns N mN)
    (hng : mN "__getattribute__" = none) (hnh : mN "__getattr__" = none) (hna : mN name = none) (hB : typeLookup (.type B) name = pure none) (hx : h.get? a = some o) (hc : o.cls = .ref C) (hd : o.data = .fields vs) (hdx : o.dict = some dx) (hns : h.Ns dx mA) (hv : mA name = some v)
    (hh : handedOut v = pure v) (hq : Q v ⟨h, g, d, t + 1, os⟩) :
    wpAny (model prog w) A (getAttr (.ref a) name expr) Q E ⟨h, g, d, t, os⟩ := by
  unfold getAttr
  repeat (any_goals (first | assumption | with_reducible apply own_by FB hC hN hng hnh hna hB hx hc hd hdx hns hv hh | wp_step))
end
end Lr
end
section
open PySem PySem.W PyProof.Rows PySem.SeqAt PySem.Calls
set_option maxRecDepth 1000000
set_option maxHeartbeats 8000000
namespace Lr
theorem rep_handed {ap : Option Addr} {led : Led} {v : Value} {x : V} (r : Rep ap led v x) : handedOut v = pure v := by cases r <;> rfl
theorem mN_getattr (P : Params) : mN P "__getattr__" = none := by kernel_rfl
theorem raised_cps : ("raised" : PySem.Str).cps.toList = [114, 97, 105, 115, 101, 100] := by decide +kernel
theorem ns_same {h : Heap} {a : Addr} {m m' : Names} (x : h.Ns a m) (y : h.Ns a m') : ∀ n, m n = m' n := by
  obtain ⟨o, es, ep, e, d, _, f⟩ := x
  obtain ⟨o', es', ep', e', d', _, f'⟩ := y
  rw [e] at e'; cases e'; rw [d] at d'; cases d'
  exact fun n => (f n).symm.trans (f' n)
theorem Sd.setName {S : Site} {c : Act} {n : Nat} {ns : List PySem.Str} {p : Int} {m m' : Names} {led : Led} {h h' : Heap} (R : Sd S c ns [] p m [] led h) (X : Cx S c n) (hs : Heap.SameBut c.L h h') (n' : h'.Ns c.L m') : Sd S c ns [] p m' [] led h' := by
  have kp : Kp [c.L] h h' := Kp.of_keeps fun b o hb e => (hs.2 b (by simpa using hb)).trans e
  have st : S.base.StaysIn h' := fun b o e => by
    have : b ≠ c.L := fun q => by
      have := Heap.lt_size e
      rw [q] at this
      exact absurd this (Nat.not_lt.mpr (Nat.le_trans X.k.lb X.k.l0))
    exact (hs.2 b this).trans (R.hp.stays b o e)
  exact R.step0 (kp.more fun b hb => by simp at hb; simp [hb]) n' st X.k.l0 (R.hp.pen.kp kp (by simpa using R.pen_ne)) (fun y v g => by simp [get] at g) (fun y v g => by simp [get] at g)
theorem isHandler_el {cs : Scope} {hs : List ExceptHandler} {P : List ExceptHandler → Prop} (hh : isHandler cs hs = true) (cont : ∀ w1 w2 w3 w4 w5 w6 w7 w8 w9 w10 w11 w12 w13, isGlo cs ("Raised" : PySem.Str) = true → cs.names.lookup ("fault" : PySem.Str) = some .local → okName ("fault" : PySem.Str) = true → P [(.ExceptHandler (some (.Name ("Raised" : PySem.Str) w2)) (some ("fault" : PySem.Str)) [(.Return (some (.Tuple [(.Constant (.str ("raised" : PySem.Str)) w6 w7), (.Attribute (.Name ("fault" : PySem.Str) w9) ("code" : PySem.Str) w8), (.Attribute (.Name ("fault" : PySem.Str) w11) ("value" : PySem.Str) w10), (.Attribute (.Name ("fault" : PySem.Str) w13) ("errorcode" : PySem.Str) w12)] w4 w5)) w3)] w1)]) : P hs := by
  refine on1_el (P := fun hs => P (hs)) hh fun u1 h1 => ?_
  refine onHExceptHandler_el (P := fun u1 => P ([u1])) h1 fun u2 u3 u4 w1 h2 => ?_
  refine onSome_el (P := fun u2 => P ([(.ExceptHandler u2 u3 u4 w1)])) h2 fun u5 h3 => ?_
  refine onName_el (P := fun u5 => P ([(.ExceptHandler (some u5) u3 u4 w1)])) h3 fun rn w2 h4 => ?_
  refine onSome_el (P := fun u3 => P ([(.ExceptHandler (some (.Name rn w2)) u3 u4 w1)])) h4 fun fn h5 => ?_
  refine on1_el (P := fun u4 => P ([(.ExceptHandler (some (.Name rn w2)) (some fn) u4 w1)])) h5 fun u6 h6 => ?_
  refine onSReturn_el (P := fun u6 => P ([(.ExceptHandler (some (.Name rn w2)) (some fn) [u6] w1)])) h6 fun u7 w3 h7 => ?_
  refine onSome_el (P := fun u7 => P ([(.ExceptHandler (some (.Name rn w2)) (some fn) [(.Return u7 w3)] w1)])) h7 fun u8 h8 => ?_
  refine onTuple_el (P := fun u8 => P ([(.ExceptHandler (some (.Name rn w2)) (some fn) [(.Return (some u8) w3)] w1)])) h8 fun u9 w4 w5 h9 => ?_
  refine on4_el (P := fun u9 => P ([(.ExceptHandler (some (.Name rn w2)) (some fn) [(.Return (some (.Tuple u9 w4 w5)) w3)] w1)])) h9 fun u10 u11 u12 u13 h10 => ?_
  refine onConstant_el (P := fun u10 => P ([(.ExceptHandler (some (.Name rn w2)) (some fn) [(.Return (some (.Tuple [u10, u11, u12, u13] w4 w5)) w3)] w1)])) h10 fun u14 w6 w7 h11 => ?_
  refine onCStr_el (P := fun u14 => P ([(.ExceptHandler (some (.Name rn w2)) (some fn) [(.Return (some (.Tuple [(.Constant u14 w6 w7), u11, u12, u13] w4 w5)) w3)] w1)])) h11 fun r h12 => ?_
  refine onAttribute_el (P := fun u11 => P ([(.ExceptHandler (some (.Name rn w2)) (some fn) [(.Return (some (.Tuple [(.Constant (.str r) w6 w7), u11, u12, u13] w4 w5)) w3)] w1)])) h12 fun u15 a1 w8 h13 => ?_
  refine onName_el (P := fun u15 => P ([(.ExceptHandler (some (.Name rn w2)) (some fn) [(.Return (some (.Tuple [(.Constant (.str r) w6 w7), (.Attribute u15 a1 w8), u12, u13] w4 w5)) w3)] w1)])) h13 fun f1 w9 h14 => ?_
  refine onAttribute_el (P := fun u12 => P ([(.ExceptHandler (some (.Name rn w2)) (some fn) [(.Return (some (.Tuple [(.Constant (.str r) w6 w7), (.Attribute (.Name f1 w9) a1 w8), u12, u13] w4 w5)) w3)] w1)])) h14 fun u16 a2 w10 h15 => ?_
  refine onName_el (P := fun u16 => P ([(.ExceptHandler (some (.Name rn w2)) (some fn) [(.Return (some (.Tuple [(.Constant (.str r) w6 w7), (.Attribute (.Name f1 w9) a1 w8), (.Attribute u16 a2 w10), u13] w4 w5)) w3)] w1)])) h15 fun f2 w11 h16 => ?_
  refine onAttribute_el (P := fun u13 => P ([(.ExceptHandler (some (.Name rn w2)) (some fn) [(.Return (some (.Tuple [(.Constant (.str r) w6 w7), (.Attribute (.Name f1 w9) a1 w8), (.Attribute (.Name f2 w11) a2 w10), u13] w4 w5)) w3)] w1)])) h16 fun u17 a3 w12 h17 => ?_
  refine onName_el (P := fun u17 => P ([(.ExceptHandler (some (.Name rn w2)) (some fn) [(.Return (some (.Tuple [(.Constant (.str r) w6 w7), (.Attribute (.Name f1 w9) a1 w8), (.Attribute (.Name f2 w11) a2 w10), (.Attribute u17 a3 w12)] w4 w5)) w3)] w1)])) h17 fun f3 w13 h18 => ?_
  simp only [Bool.and_eq_true, beq_iff_eq] at h18
  obtain ⟨⟨⟨⟨⟨⟨⟨⟨⟨⟨⟨w1x, rfl⟩, rfl⟩, w2x⟩, w3x⟩, rfl⟩, rfl⟩, rfl⟩, rfl⟩, rfl⟩, rfl⟩, rfl⟩ := h18
  exact cont _ _ _ _ _ _ _ _ _ _ _ _ _ w1x w2x w3x
theorem isHandler_inv {cs : Scope} {hs : List ExceptHandler} (hh : isHandler cs hs = true) : ∃ p1 p2 p3 p4 p5 p6 p7 p8 p9 p10 p11 p12 p13, hs = [.ExceptHandler (some (.Name ("Raised" : PySem.Str) p1)) (some ("fault" : PySem.Str)) [.Return (some (.Tuple [.Constant (.str ("raised" : PySem.Str)) p2 p3, .Attribute (.Name ("fault" : PySem.Str) p4) ("code" : PySem.Str) p5, .Attribute (.Name ("fault" : PySem.Str) p6) ("value" : PySem.Str) p7, .Attribute (.Name ("fault" : PySem.Str) p8) ("errorcode" : PySem.Str) p9] p10 p11)) p12] p13] ∧ isGlo cs ("Raised" : PySem.Str) = true ∧ cs.names.lookup ("fault" : PySem.Str) = some .local ∧ okName ("fault" : PySem.Str) = true :=
  isHandler_el (P := fun hs => ∃ p1 p2 p3 p4 p5 p6 p7 p8 p9 p10 p11 p12 p13, hs = [.ExceptHandler (some (.Name ("Raised" : PySem.Str) p1)) (some ("fault" : PySem.Str)) [.Return (some (.Tuple [.Constant (.str ("raised" : PySem.Str)) p2 p3, .Attribute (.Name ("fault" : PySem.Str) p4) ("code" : PySem.Str) p5, .Attribute (.Name ("fault" : PySem.Str) p6) ("value" : PySem.Str) p7, .Attribute (.Name ("fault" : PySem.Str) p8) ("errorcode" : PySem.Str) p9] p10 p11)) p12] p13] ∧ isGlo cs ("Raised" : PySem.Str) = true ∧ cs.names.lookup ("fault" : PySem.Str) = some .local ∧ okName ("fault" : PySem.Str) = true) hh fun _ _ _ _ _ _ _ _ _ _ _ _ _ w1 w2 w3 => ⟨_, _, _, _, _, _, _, _, _, _, _, _, _, rfl, w1, w2, w3⟩
theorem heardOk {S : Site} (SO : S.Ok) (n : Nat) : HeardOk S n := by
  intro c X by0 ns p s x e hs Q E hh fly hQ
  obtain ⟨⟨d, st, m, led, fd, hst, hm, xd, sat, ne, fr⟩, kp, pn⟩ := fly
  refine noteOk X.k.framesA (L := c.L) rfl fd hst fun h1 f1 s1 => ?_
  refine flightOk (to := none) f1 fun h2 f2 s2 => ?_
  obtain ⟨p1, p2, p3, p4, p5, p6, p7, p8, p9, p10, p11, p12, p13, rfl, w1, w2, w3⟩ := isHandler_inv hh
  have w1' := w1
  unfold isGlo okName at w1
  simp only [Bool.and_eq_true, beq_iff_eq, Bool.not_eq_true'] at w1
  obtain ⟨g2, g3, g4⟩ := w1
  refine wpAny_handleBy_cons (codeAny_handlers_test (Name_function_global X.k.fn g2 (loadGlobal_global (X.so.gd.top.g.keeps f2.stays) (by rw [X.so.gd.mg]; exact mg_raised _) ?_) g3)) (by intro q; cases q)
  obtain ⟨oe2, vs2, T2, oT2, ts2, he2, hc2, hd2, -, -, -, -, -, -⟩ := id f2.tr
  refine wpAny_excMatches_sub_self (f2.stays _ _ X.so.gd.cls) he2 hc2.1 (by decide) (codeAny_handlers_suite_as ?_)
  refine flightOk (s := { s with heap := h2 }) (to := none) f2 fun h3 f3 s3 => ?_
  have sx := (s1.trans s2).trans s3
  obtain ⟨md, v1, v2, v3, nd, e1, e2, e3, r1, r2, r3⟩ := xd
  have nd3 := sx.ns nd
  have R3 : Sd S c ns [] p m [] led h3 := ⟨⟨f3.stays, f3.ff, sx.pen pn⟩, sx.kp kp, sx.ns hm, fun q hq => sx.sat (sat q hq), ne, fr, fun y v g => by simp [get] at g, fun y v g => by simp [get] at g, fun _ h => (nomatch h), by simp, fun q hq => by rw [by0] at hq; exact nomatch hq⟩
  obtain ⟨oe, vs, T, oT, ts, he, hc, hd, -, -, -, -, -, -⟩ := id f3.tr
  have pk : (c.env.scope.kind == .class || (c.env.scope.kind == .module && c.env.locals != c.env.globals)) = false := by rw [show c.env.scope.kind = .function from X.k.fn]; rfl
  refine wpAny_storeName_local (by exact w2) R3.nsL (fun h4 n4 hs4 => ?_) pk
  have R4 : Sd S c ns [] p _ [] led h4 := R3.setName X hs4 n4
  have eL : e ≠ c.L := fun q => by
    obtain ⟨oL, es, ep, hoL, hdL, _⟩ := R3.nsL
    rw [← q, he] at hoL; cases hoL; rw [hd] at hdL; cases hdL
  have he4 : h4.get? e = some oe := (hs4.2 e eL).trans he
  have nd4 : ∃ md', h4.Ns d md' ∧ ∀ y, y ≠ ("fault" : PySem.Str) → md' y = md y := by
    by_cases q : d = c.L
    · subst q
      refine ⟨_, n4, fun y hy => ?_⟩
      show (if y = ("fault" : PySem.Str) then _ else _) = _
      rw [if_neg hy]
      exact ns_same R3.nsL nd3 y
    · obtain ⟨o, es, ep, ho, r⟩ := nd3
      exact ⟨md, ⟨o, es, ep, (hs4.2 d q).trans ho, r⟩, fun _ _ => rfl⟩
  obtain ⟨md', nd', hmd⟩ := nd4
  have st4 := R4.hp.stays
  have rd : ∀ (A : Around) (E : Value → Shared → Prop) (tk : Nat) (attr : PySem.Str) (v : Value) (Q : Value → Shared → Prop) (b : Bool), attr ∈ myAttrs → attr ≠ ("fault" : PySem.Str) → md attr = some v → handedOut v = pure v → Q v { s with heap := h4, toks := tk + 1 } →
      wpAny (model pw S.w) A (getAttr (.ref e) attr b) Q E { s with heap := h4, toks := tk } := fun A E tk attr v Q b ha hn hv hh hq => by
    exact own_attr PySem.F.attrBase_Exception (st4 _ _ X.so.gd.cls) (X.so.gd.clsN.keeps st4) (mN_no _ (.tail _ (.head _))) (mN_getattr _) (mN_no _ (.tail _ (.tail _ ha))) (attr_no ha) he4 hc.1 hd hc.2 nd' ((hmd _ hn).trans hv) hh hq
  have nm : ∀ (A : Around) (E : Value → Shared → Prop) (tk : Nat) (ps : Pos) (Q : Value → Shared → Prop), Q (.ref e) { s with heap := h4, toks := tk } → wpAny (model pw S.w) A (eval (.Name "fault" ps) c.env) Q E { s with heap := h4, toks := tk } := fun A E tk ps Q hq =>
    wpAny_Name (wpAny_loadName_local X.k.fn (by exact w2) n4 (if_pos rfl) hq)
  refine wpAny_execs_cons (wpAny_Return_some (Tuple_ (wpAny_items_cons (wpAny_Constant_str (wpAny_items_cons (Attribute_name (nm _ _ _ _ _ (rd _ _ _ "code" v1 _ _ (by decide) (by decide) e1 (rep_handed r1) ?_))) (star_cons rfl _ _))) (star_cons rfl _ _))))
  refine wpAny_items_cons (Attribute_name (nm _ _ _ _ _ (rd _ _ _ "value" v2 _ _ (by decide) (by decide) e2 (rep_handed r2) (wpAny_items_cons (Attribute_name (nm _ _ _ _ _ (rd _ _ _ "errorcode" v3 _ _ (by decide) (by decide) e3 (rep_handed r3) ?_))) (star_cons rfl _ _))))) (star_cons rfl _ _)
  refine wpAny_items_nil (wpAny_newObj_type ?_ (by show 4 ≤ sizeLine; rw [sizeLine_eq]; omega))
  have R5 := R4.pushNew X (o := { cls := .type "tuple", data := .seq #[.str "raised" (s.toks + 1), v1, v2, v3] }) (t := true) (vs := [.str "raised" (s.toks + 1), v1, v2, v3]) (j := 0) rfl rfl
  refine wpAny_nameGoes (by exact w2) R5.nsL pk fun h6 m6 n6 hs6 => ?_
  refine hQ h6 _ m6 _ _ (R5.setName X hs6 n6) (.tup (.head _) (.cons (.strOf raised_cps) (.cons (r1.mono fun _ h => .tail _ h) (.cons (r2.mono fun _ h => .tail _ h) (.cons (r3.mono fun _ h => .tail _ h) .nil)))))
end Lr
end
section
open PySem PySem.W PyProof.Rows
set_option maxRecDepth 100000
namespace Lr
section
variable {prog : Program} {w : World} {A : Around} {R : Result → Shared → Prop} {I : Addr} {fp wr : List Addr} {n : Nat} {P : Nat → Value → Prop} {St : Nat → Heap → Prop}
theorem sumLoopAny (W : Walks prog w A.in1 I fp wr n P St) (val : Nat → Int) (hval : ∀ i v, P i v → ∃ t, v = .int (val i) t) (S : Addr) (hSf : S ∉ fp) :
    ∀ (k i : Nat) (st : Int) (s : Shared) (tA : Tok) (c : Nat), st = 0 ∨ st = 2 → n - i = k → i ≤ n → St i s.heap → s.heap.get? S = some { cls := .type "list", dict := none, data := .seq #[.int (preSum val i) tA] c, slots := #[] } →
    (∀ h' tk t', (∀ b o, b ∉ wr → b ≠ S → s.heap.get? b = some o → h'.get? b = some o) → R (.ok (.ret (.int (preSum val n) t'))) { s with heap := h', toks := tk }) →
    codeAny (model prog w) A (.builtin "sum.loop" ⟨[.ref I, .ref S, rawInt st, rawInt 0], []⟩) R s := by
  have hSw : S ∉ wr := fun h => hSf (W.sub _ h)
  intro k
  induction k with
  | zero =>
    intro i st s tA c hst0 hk hi hst hS hR
    have hin : i = n := by omega
    subst hin
    refine codeAny_builtin F.entry_sum_loop ?_
    rw [Around.under_plainId F.plain_sum_loop _]
    show wpAny _ A.in1 (seqItems? (.ref S) >>= _) _ _ s
    refine wpAny_bind (wpAny_seqItems hS rfl ?_)
    show wpAny _ A.in1 (tryCatch (pyNext (.ref I)) _ >>= _) _ _ s
    refine wpAny_bind (wpAny_tryCatch (W.done s _ _ hst fun h' tk hk' => ?_))
    exact wpAny_pure (hR h' tk tA fun b o hbw _ e => hk' b o hbw e)
  | succ k ih =>
    intro i st s tA c hst0 hk hi hst hS hR
    have hlt : i < n := by omega
    refine codeAny_builtin F.entry_sum_loop ?_
    rw [Around.under_plainId F.plain_sum_loop _]
    show wpAny _ A.in1 (seqItems? (.ref S) >>= _) _ _ s
    refine wpAny_bind (wpAny_seqItems hS rfl ?_)
    show wpAny _ A.in1 (tryCatch (pyNext (.ref I)) _ >>= _) _ _ s
    refine wpAny_bind (wpAny_tryCatch (W.item i s _ _ hlt hst fun v h' tk hP hst' hk' => ?_))
    obtain ⟨t, rfl⟩ := hval i v hP
    have hS' := hk' S _ hSw hS
    have fin : ∀ (h2 : Heap) (tk2 : Nat) (t2 : Tok) (c2 : Nat) (st2 : Int), st2 = 0 ∨ st2 = 2 → (∀ b o, b ≠ S → h'.get? b = some o → h2.get? b = some o) → h2.get? S = some { cls := .type "list", dict := none, data := .seq #[.int (preSum val i + val i) t2] c2, slots := #[] } →
        codeAny (model prog w) A (.builtin "sum.loop" ⟨[.ref I, .ref S, rawInt st2, rawInt 0], []⟩) R { s with heap := h2, toks := tk2 } := fun h2 tk2 t2 c2 st2 hs2 hk2 hS2 => by
      refine ih (i + 1) st2 { s with heap := h2, toks := tk2 } t2 c2 hs2 (by omega) hlt (W.frame _ _ _ hst' fun b hb o e => hk2 b o (fun h => hSf (by rw [← h]; exact hb)) e) hS2 fun h'' tk'' t'' hk'' => ?_
      exact hR h'' tk'' t'' fun b o hbw hbS e => hk'' b o hbw hbS (hk2 b o hbS (hk' b o hbw e))
    have oth : ∀ {h : Heap} {f : Obj → Obj} (b o), b ≠ S → h.get? b = some o → (h.update S f).get? b = some o := fun b o hb e => (Heap.get?_update_other _ _ (Ne.symm hb)).trans e
    have whole : ∀ (k : Except Value Value → Sem Fin) (hk : k (.ok (.int (preSum val i + val i) tk)) = (updateSeq S (fun _ => #[.int (preSum val i + val i) tk]) >>= fun _ => letGo [.int (preSum val i) tA, .int (val i) t] >>= fun _ => updateSeq S (fun _ => #[.int (preSum val i + val i) tk]) >>= fun _ => again (.builtin "sum.loop" ⟨[.ref I, .ref S, rawInt 2, rawInt 0], []⟩))),
        wpAny (model prog w) A.in1 ((holding [.int (val i) t] (binaryOp .Add (.int (preSum val i) tA) (.int (val i) t))).attempt >>= k)
        (fun fin s' => match fin with | .done f => R (.ok f) s' | .again c' => c'.quiet = true ∧ codeAny (model prog w) A c' R s') (fun e s' => R (.error e) s') { s with heap := h', toks := tk } := fun k hk => by
      refine wpAny_bind (wpAny_attempt (wpAny_holding (wpAny_add_int ?_)))
      rw [hk]
      refine wpAny_bind (wpAny_updateSeq hS' rfl (wpAny_bind (wpAny_letGo (wpAny_bind (wpAny_updateSeq (Heap.get?_update_self _ hS' rfl) rfl (wpAny_pure ⟨plainId_quiet F.plain_sum_loop _, ?_⟩))))))
      exact fin _ (tk + 1) tk _ 2 (.inr rfl) (fun b o hb e => oth b o hb (oth b o hb e)) (Heap.get?_update_self _ (Heap.get?_update_self _ hS' rfl) rfl)
    rcases hst0 with rfl | rfl
    · show wpAny _ A.in1 (if (_ : Bool) = true then (mkInt (preSum val i + val i) >>= _) else _) _ _ _
      split
      · refine wpAny_bind (wpAny_mkInt ?_)
        show wpAny _ A.in1 (updateSeq S (fun _ => #[.int (preSum val i + val i) tk]) >>= _) _ _ _
        refine wpAny_bind ?_
        refine wpAny_updateSeq hS' rfl (wpAny_pure ⟨plainId_quiet F.plain_sum_loop _, ?_⟩)
        exact fin _ (tk + 1) tk _ 0 (.inl rfl) oth (Heap.get?_update_self _ hS' rfl)
      · exact whole _ rfl
    · exact whole _ rfl
end
section
variable {prog : Program} {w : World} {A : Around} {E : Value → Shared → Prop} {s : Shared}
theorem sumAny {l : Addr} {xs : Array (Int × Tok)} {Q : Value → Shared → Prop} (hh : A.handled = none) (hl : s.heap.IsList l (intItems xs))
    (h : ∀ h' tk t', (∀ b o, s.heap.get? b = some o → h'.get? b = some o) → Q (.int (preSum (numAt xs) xs.size) t') { s with heap := h', toks := tk }) :
    wpAny (model prog w) A (call (.builtin "sum") [.ref l]) Q E s := by
  refine call_function_tree F.kind_sum F.plain_sum F.entry_sum (F.args_sum1 _) ?_
  unfold Builtin.«sum»
  simp only [List.length_cons, List.length_nil]
  rw [if_neg (by decide)]
  refine wpAny_bind (wpAny_of_eq (show Builtin.Builtins.bindParams "sum" ["start"] 0 { } = pure [none] from rfl) ?_)
  refine wpAny_bind (iter_intList hl fun s₂ e st hfp hlI => ?_)
  subst e
  have W := Walks.list (prog := prog) (w := w) (A := A.in1) hh _ l hlI (intItems xs)
  refine wpAny_bind (wpAny_mkInt ?_)
  refine wpAny_bind (wpAny_pure ?_)
  simp only [List.forIn_cons, List.forIn_nil]
  refine wpAny_bind (wpAny_bind (wpAny_bind (wpAny_isInstance (T := "int") (b := false) (typeIs_int _ _ _) PySem.sub_int_str ?_)))
  simp only [Bool.false_eq_true, if_false]
  refine wpAny_pure (wpAny_bind (wpAny_bind (wpAny_isInstance (T := "int") (b := false) (typeIs_int _ _ _) sub_int_bytes ?_)))
  simp only [Bool.false_eq_true, if_false]
  refine wpAny_pure (wpAny_bind (wpAny_bind (wpAny_isInstance (T := "int") (b := false) (typeIs_int _ _ _) sub_int_bytearray ?_)))
  simp only [Bool.false_eq_true, if_false]
  refine wpAny_pure (wpAny_pure ?_)
  refine wpAny_bind (wpAny_newObj_type ?_)
  have hSf : ({ s with heap := s.heap.push { cls := .type "list_iterator", data := .fields #[.ref l, .int 0 0] } } : Shared).heap.objs.size ∉ [s.heap.objs.size, l] := fun hm => Nat.lt_irrefl _ (hfp _ hm)
  refine wpAny_pure ⟨plainId_quiet F.plain_sum_loop _, sumLoopAny W (numAt xs) (fun _ _ => intItems_at) _ hSf _ 0 0 _ s.toks 0 (.inl rfl) rfl (Nat.zero_le _)
    (W.frame _ _ _ st fun b _ o e => Heap.get?_push_of_some _ e) (Heap.get?_push_size _ rfl) fun h' tk t' hk => ?_⟩
  have := h h' tk t' (old_kept fun b o hbw e => hk b o hbw (Nat.ne_of_lt (Heap.lt_size e)) (Heap.get?_push_of_some _ e))
  simpa [intItems] using this
end
end Lr
end
section
open PySem PySem.W PyProof.Rows PySem.SeqAt PySem.Calls
set_option maxRecDepth 100000
namespace Lr
noncomputable def bitsOf (i : Int) : Nat := Builtin.Int.intBits i
theorem bits_lt {i : Int} {n : Nat} (h : bitsOf i ≤ n) : i.natAbs < 2 ^ n := by
  unfold bitsOf Builtin.Int.intBits at h
  split at h
  · rename_i e
    have : i = 0 := by simpa using e
    subst this
    exact Nat.pow_pos (by decide)
  · rename_i e
    have h0 : i.natAbs ≠ 0 := by simpa using e
    exact Nat.lt_of_lt_of_le (Nat.lt_log2_self) (Nat.pow_le_pow_right (by decide) h)
theorem lt_bits {i : Int} {n : Nat} (h : i.natAbs < 2 ^ n) : bitsOf i ≤ n := by
  unfold bitsOf Builtin.Int.intBits
  split
  · exact Nat.zero_le _
  · rename_i e
    have h0 : i.natAbs ≠ 0 := by simpa using e
    have := (Nat.log2_lt h0).mpr h
    assumption
theorem sum_abs {B : Nat} : ∀ {l : List Int}, (∀ i ∈ l, i.natAbs ≤ B) → l.sum.natAbs ≤ l.length * B
  | [], _ => by simp
  | i :: l, h => by
    have h1 := h i (.head _)
    have h2 := sum_abs (l := l) fun j hj => h j (.tail _ hj)
    rw [List.sum_cons, List.length_cons, Nat.add_mul, Nat.one_mul]
    have := Int.natAbs_add_le i l.sum
    omega
noncomputable def Script (ns : List Int) : Prop := ns.length ≤ 63 ∧ ∀ i ∈ ns, bitsOf i ≤ 2 ^ 20
theorem sum_bits {ns ms : List Int} (h : Script ns) (hl : ms.length ≤ ns.length) (hm : ∀ i ∈ ms, i ∈ ns) : bitsOf ms.sum ≤ 2 ^ 20 + 6 := by
  refine lt_bits ?_
  have h1 := sum_abs (B := 2 ^ (2 ^ 20)) (l := ms) fun i hi => Nat.le_of_lt (bits_lt (h.2 i (hm i hi)))
  have h2 : ms.length * 2 ^ (2 ^ 20) ≤ 63 * 2 ^ (2 ^ 20) := Nat.mul_le_mul_right _ (Nat.le_trans hl h.1)
  have h3 : ∀ B : Nat, 63 * 2 ^ B < 2 ^ (B + 6) := fun B => by
    rw [Nat.pow_add, Nat.mul_comm]
    exact Nat.mul_lt_mul_of_pos_left (by decide) (Nat.pow_pos (by decide))
  exact Nat.lt_of_le_of_lt (Nat.le_trans h1 h2) (h3 _)
noncomputable def vInts (ns : List Int) : List V := ns.map V.int
theorem ints_are {ap : Option Addr} {led : Led} {vs : List Value} {ns : List Int} (h : RepL ap led vs (vInts ns)) : IntsAre vs ns := by
  induction ns generalizing vs with
  | nil =>
    have h : RepL ap led vs [] := h
    cases h
    exact .nil
  | cons n ns ih =>
    have h : RepL ap led vs (.int n :: vInts ns) := h
    cases h with
    | cons a r =>
      obtain ⟨t, rfl⟩ := a.int_inv
      exact .cons n t (ih r)
theorem pick_mem {ns : List Int} {lo hi st : Option Int} {i : Int} (h : i ∈ pickNums ns lo hi st) : i ∈ ns := by
  unfold pickNums at h
  rw [List.mem_filterMap] at h
  obtain ⟨k, _, e⟩ := h
  exact List.mem_of_getElem? e
section
variable {S : Site} {c : Act} {n : Nat} {ns : List PySem.Str} {ρ : Fm} {p : Int} {m : Names} {own : Own} {led : Led} {s : Shared} {E : Value → Shared → Prop}
noncomputable def isPenX (cs : Scope) (ns : List PySem.Str) (x : Expr) : Bool :=
  onBinOp x fun u1 o1 u2 _ => onCall u1 fun u3 u4 u5 _ => onName u3 fun sm _ => on1 u4 fun u6 => onSubscript u6 fun u7 u8 _ => onName u7 fun scr _ => onSlice u8 fun u9 u10 u11 _ => onSome u9 fun u12 => onName u12 fun k _ => onNone u10 <| onSome u11 fun st => on0 u5 <| onBinOp u2 fun u13 o3 u14 _ => onBinOp u13 fun u15 o2 u16 _ => onConstant u15 fun u17 _ _ => onCInt u17 fun a => onConstant u16 fun u18 _ _ => onCInt u18 fun b => onConstant u14 fun u19 _ _ => onCInt u19 fun d => (isGlo cs sm && sm == ("sum" : PySem.Str) && isLoc cs ns 0 scr && isLoc cs ns 2 k && mX cs ns (.len (.v 1)) false st && a == 10 && b == 30 && d == 57 && o1 == .Mult && o2 == .Pow && o3 == .Add)
theorem isPenX_el {cs : Scope} {ns : List PySem.Str} {x : Expr} {P : Expr → Prop} (hx : isPenX cs ns x = true) (cont : ∀ w1 w2 w3 w4 scr w5 w6 k w7 st w8 w9 w10 w11 w12 w13 w14 w15, isGlo cs ("sum" : PySem.Str) = true → isLoc cs ns 0 scr = true → isLoc cs ns 2 k = true → mX cs ns (.len (.v 1)) false st = true → P (.BinOp (.Call (.Name ("sum" : PySem.Str) w3) [(.Subscript (.Name scr w5) (.Slice (some (.Name k w7)) none (some st) w6) w4)] [] w2) .Mult (.BinOp (.BinOp (.Constant (.int 10) w10 w11) .Pow (.Constant (.int 30) w12 w13) w9) .Add (.Constant (.int 57) w14 w15) w8) w1)) : P x := by
  refine onBinOp_el (P := fun x => P (x)) hx fun u1 o1 u2 w1 h1 => ?_
  refine onCall_el (P := fun u1 => P ((.BinOp u1 o1 u2 w1))) h1 fun u3 u4 u5 w2 h2 => ?_
  refine onName_el (P := fun u3 => P ((.BinOp (.Call u3 u4 u5 w2) o1 u2 w1))) h2 fun sm w3 h3 => ?_
  refine on1_el (P := fun u4 => P ((.BinOp (.Call (.Name sm w3) u4 u5 w2) o1 u2 w1))) h3 fun u6 h4 => ?_
  refine onSubscript_el (P := fun u6 => P ((.BinOp (.Call (.Name sm w3) [u6] u5 w2) o1 u2 w1))) h4 fun u7 u8 w4 h5 => ?_
  refine onName_el (P := fun u7 => P ((.BinOp (.Call (.Name sm w3) [(.Subscript u7 u8 w4)] u5 w2) o1 u2 w1))) h5 fun scr w5 h6 => ?_
  refine onSlice_el (P := fun u8 => P ((.BinOp (.Call (.Name sm w3) [(.Subscript (.Name scr w5) u8 w4)] u5 w2) o1 u2 w1))) h6 fun u9 u10 u11 w6 h7 => ?_
  refine onSome_el (P := fun u9 => P ((.BinOp (.Call (.Name sm w3) [(.Subscript (.Name scr w5) (.Slice u9 u10 u11 w6) w4)] u5 w2) o1 u2 w1))) h7 fun u12 h8 => ?_
  refine onName_el (P := fun u12 => P ((.BinOp (.Call (.Name sm w3) [(.Subscript (.Name scr w5) (.Slice (some u12) u10 u11 w6) w4)] u5 w2) o1 u2 w1))) h8 fun k w7 h9 => ?_
  refine onNone_el (P := fun u10 => P ((.BinOp (.Call (.Name sm w3) [(.Subscript (.Name scr w5) (.Slice (some (.Name k w7)) u10 u11 w6) w4)] u5 w2) o1 u2 w1))) h9 fun h10 => ?_
  refine onSome_el (P := fun u11 => P ((.BinOp (.Call (.Name sm w3) [(.Subscript (.Name scr w5) (.Slice (some (.Name k w7)) none u11 w6) w4)] u5 w2) o1 u2 w1))) h10 fun st h11 => ?_
  refine on0_el (P := fun u5 => P ((.BinOp (.Call (.Name sm w3) [(.Subscript (.Name scr w5) (.Slice (some (.Name k w7)) none (some st) w6) w4)] u5 w2) o1 u2 w1))) h11 fun h12 => ?_
  refine onBinOp_el (P := fun u2 => P ((.BinOp (.Call (.Name sm w3) [(.Subscript (.Name scr w5) (.Slice (some (.Name k w7)) none (some st) w6) w4)] [] w2) o1 u2 w1))) h12 fun u13 o3 u14 w8 h13 => ?_
  refine onBinOp_el (P := fun u13 => P ((.BinOp (.Call (.Name sm w3) [(.Subscript (.Name scr w5) (.Slice (some (.Name k w7)) none (some st) w6) w4)] [] w2) o1 (.BinOp u13 o3 u14 w8) w1))) h13 fun u15 o2 u16 w9 h14 => ?_
  refine onConstant_el (P := fun u15 => P ((.BinOp (.Call (.Name sm w3) [(.Subscript (.Name scr w5) (.Slice (some (.Name k w7)) none (some st) w6) w4)] [] w2) o1 (.BinOp (.BinOp u15 o2 u16 w9) o3 u14 w8) w1))) h14 fun u17 w10 w11 h15 => ?_
  refine onCInt_el (P := fun u17 => P ((.BinOp (.Call (.Name sm w3) [(.Subscript (.Name scr w5) (.Slice (some (.Name k w7)) none (some st) w6) w4)] [] w2) o1 (.BinOp (.BinOp (.Constant u17 w10 w11) o2 u16 w9) o3 u14 w8) w1))) h15 fun a h16 => ?_
  refine onConstant_el (P := fun u16 => P ((.BinOp (.Call (.Name sm w3) [(.Subscript (.Name scr w5) (.Slice (some (.Name k w7)) none (some st) w6) w4)] [] w2) o1 (.BinOp (.BinOp (.Constant (.int a) w10 w11) o2 u16 w9) o3 u14 w8) w1))) h16 fun u18 w12 w13 h17 => ?_
  refine onCInt_el (P := fun u18 => P ((.BinOp (.Call (.Name sm w3) [(.Subscript (.Name scr w5) (.Slice (some (.Name k w7)) none (some st) w6) w4)] [] w2) o1 (.BinOp (.BinOp (.Constant (.int a) w10 w11) o2 (.Constant u18 w12 w13) w9) o3 u14 w8) w1))) h17 fun b h18 => ?_
  refine onConstant_el (P := fun u14 => P ((.BinOp (.Call (.Name sm w3) [(.Subscript (.Name scr w5) (.Slice (some (.Name k w7)) none (some st) w6) w4)] [] w2) o1 (.BinOp (.BinOp (.Constant (.int a) w10 w11) o2 (.Constant (.int b) w12 w13) w9) o3 u14 w8) w1))) h18 fun u19 w14 w15 h19 => ?_
  refine onCInt_el (P := fun u19 => P ((.BinOp (.Call (.Name sm w3) [(.Subscript (.Name scr w5) (.Slice (some (.Name k w7)) none (some st) w6) w4)] [] w2) o1 (.BinOp (.BinOp (.Constant (.int a) w10 w11) o2 (.Constant (.int b) w12 w13) w9) o3 (.Constant u19 w14 w15) w8) w1))) h19 fun d h20 => ?_
  simp only [Bool.and_eq_true, beq_iff_eq] at h20
  obtain ⟨⟨⟨⟨⟨⟨⟨⟨⟨⟨w1x, rfl⟩, w2x⟩, w3x⟩, w4x⟩, rfl⟩, rfl⟩, rfl⟩, rfl⟩, rfl⟩, rfl⟩ := h20
  exact cont _ _ _ _ _ _ _ _ _ _ _ _ _ _ _ _ _ _ w1x w2x w3x w4x
theorem penOk {C : Nat → List V → M Bd} (X : Cx S c (n + 1)) (HC : ∀ f l p o, C f l p = some o → CallOk S n f l p o) {x : Expr} (hx : isPenX c.cs ns x = true) {sc : List Int} {rs : List V} {k : Int} (hsc : Script sc)
    (g0 : get ρ 0 = some (.val (.list (vInts sc)))) (g1 : get ρ 1 = some (.val (.list rs))) (hr : rs.length = 8) (g2 : get ρ 2 = some (.val (.int k))) (R : Sd S c ns ρ p m own led s.heap) {Q : Value → Shared → Prop}
    (hk : ∀ i t h' tk led', Sd S c ns ρ p m own led' h' → (∀ q ∈ led, q ∈ led') → Q (.int i t) { s with heap := h', toks := tk }) : wpAny (model pw S.w) c.A (eval x c.env) Q E s := by
  refine isPenX_el (P := fun x => wpAny (model pw S.w) c.A (eval x c.env) Q E s) hx fun _ _ _ _ scr _ _ k' _ st _ _ _ _ _ _ _ _ w1 w2 w3 w4 => ?_
  refine wpAny_BinOp (callName (bnameOk X w1 (by decide) R boot_sum (callBlt rfl ?_)))
  refine wpAny_items_cons (Subscript_ (nameOk X w2 R g0 fun val rv => wpAny_Slice (nameOk X w3 R g2 fun kv rk => wpAny_pure ?_))) rfl
  have he : ev C ρ (.len (.v 1)) p = some (.ok (.int 8), p) := by
    rw [u_len, u_v, g1]
    simp [bnd, lift, lenOf, hr, lid]
  refine (bothX X HC (.len (.v 1))).1 _ w4 _ _ _ he s m own led _ E R (fun v q e h' tk led' vl R' sub rl => ?_) (fun x q e => by cases e)
  cases e
  cases rl
  cases rk
  cases rv with | @list al vs _ hm hv =>
  have hI := ints_are (hv)
  have hlen : sc.length = vs.length := hI.length.symm
  have hP := hI.pick (some k) none (some 8)
  have hb : bitsOf (pickNums sc (some k) none (some 8)).sum ≤ 2 ^ 20 + 6 := sum_bits hsc (length_pickNums_le hI _ _ _) fun i hi => pick_mem hi
  refine slice_list3 (s := { s with heap := h', toks := tk }) (lo := some k) (hi := none) (st := some 8) (R'.fr X) news_all (R'.sat _ (sub _ hm)).list (.int _ _) .none (.int _ _) (by decide) (fun h2 F2 N2 => ?_) rfl (letgo_name rfl _) (by simp only [List.size_toArray]; rw [← hlen]; exact lid_ok (Nat.le_trans hsc.1 (by decide)))
  have R2 := R'.after X F2 N2 (fun _ h => .tail _ h)
  have hl2 : h2.IsList (h'.objs.size + 1) (slicePick vs.toArray (some k) none (some 8)) := let ⟨a, _, _⟩ := N2 _ (.head _); ⟨_, a, rfl, 0, rfl⟩
  refine wpAny_items_nil ?_
  obtain ⟨xs, hxs⟩ := hP.allInts.items
  have hnum : (preSum (numAt xs) xs.size) = (pickNums sc (some k) none (some 8)).sum := by
    rw [preSum_eq, List.take_of_length_le (by simp), ← nums_intItems, ← hxs]
    exact congrArg List.sum hP.numsOf
  rw [Array.toArray_toList] at hxs
  rw [hxs] at hl2
  refine sumAny (s := { s with heap := h2, toks := tk }) X.k.handledA hl2 fun h3 tk3 t3 hk3 => ?_
  have R3 := R2.keeps X hk3
  rw [hnum]
  refine wpAny_BinOp (wpAny_BinOp (wpAny_Constant_int (wpAny_Constant_int (pow_int_small (by decide) (by decide) (by decide) (wpAny_Constant_int (add_int (mul_int ?_ ?_)))))))
  · exact hk _ _ _ _ _ R3 sub
  · have h10 : Builtin.Int.intBits ((10 : Int) ^ (30 : Int).toNat + 57) ≤ 200 := by decide +kernel
    unfold bitsOf at hb
    have e : (2 : Nat) ^ 20 = 1048576 := by decide
    have : Builtin.Int.intTooBig (Builtin.Int.intBits (pickNums sc (some k) none (some 8)).sum + Builtin.Int.intBits ((10 : Int) ^ (30 : Int).toNat + 57)) = false := by
      unfold Builtin.Int.intTooBig bitsLine
      exact decide_eq_false (by omega)
    unfold IntMulOk
    rw [this]
    simp
end
end Lr
end
section
open PySem PySem.W PyProof.Rows PySem.SeqAt PySem.Calls
set_option maxRecDepth 100000
namespace Lr
noncomputable def rowsV : List V := match callN 1 55 [] 0 with
  | some (.ok (.val (.list l)), _) => l
  | _ => []
theorem rows_call (n : Nat) (p : Int) : callN (n + 1) 55 [] p = some (.ok (.val (.list rowsV)), p) := by kernel_rfl
theorem rows_len : rowsV.length = 8 := by kernel_rfl
theorem Rep.up {ap : Option Addr} {led : Led} {v : Value} {x : V} (h : Rep Option.none led v x) : Rep ap led v x :=
  Rep.rec (motive_1 := fun v x _ => Rep ap led v x) (motive_2 := fun v x _ => RepL ap led v x) .none .bool .int .str (fun h _ r => .tup h r) (fun h _ r => .list h r) (fun e => by cases e) .nil (fun _ _ h r => .cons h r) h
theorem RepL.up {ap : Option Addr} {led : Led} {v : List Value} {x : List V} (h : RepL Option.none led v x) : RepL ap led v x :=
  h.ind (P := fun v x => RepL ap led v x) .nil fun _ _ _ _ h _ i => .cons h.up i
noncomputable def PL (N : Nat) : Prop := ∀ row ∈ rowsV, ∀ p, ∃ q, callN N 69 [row, .pen] p = some (.ok (.val (.bool true)), q)
section
variable {S : Site} {c : Act} {n : Nat} {ns : List PySem.Str} {ρ : Fm} {p : Int} {m : Names} {own : Own} {led : Led} {s : Shared} {E : Value → Shared → Prop}
noncomputable def isTurn (cs : Scope) (ns : List PySem.Str) (ss : List Stmt) : Bool :=
  on1 ss fun u1 => onSIf u1 fun u2 _ u3 _ => onUnaryOp u2 fun nt u4 _ => onCall u4 fun u5 u6 u7 _ => onName u5 fun f _ => on2 u6 fun row u8 => onList u8 fun u9 _ => on1 u9 fun x => on0 u7 <| on0 u3 <| (isGlo cs f && fnName 69 == f && mX cs ns (.idx (.v 1) (.v 2)) false row && noStar row && isPenX cs ns x && noStar x && nt == .Not)
theorem isTurn_el {cs : Scope} {ns : List PySem.Str} {ss : List Stmt} {P : List Stmt → Prop} (hx : isTurn cs ns ss = true) (cont : ∀ w1 w2 w3 w4 f w5 row w6 x, isGlo cs f = true → fnName 69 = f → mX cs ns (.idx (.v 1) (.v 2)) false row = true → noStar row = true → isPenX cs ns x = true → noStar x = true → P [(.If (.UnaryOp .Not (.Call (.Name f w5) [row, (.List [x] w6)] [] w4) w3) w1 [] w2)]) : P ss := by
  refine on1_el (P := fun ss => P (ss)) hx fun u1 h1 => ?_
  refine onSIf_el (P := fun u1 => P ([u1])) h1 fun u2 w1 u3 w2 h2 => ?_
  refine onUnaryOp_el (P := fun u2 => P ([(.If u2 w1 u3 w2)])) h2 fun nt u4 w3 h3 => ?_
  refine onCall_el (P := fun u4 => P ([(.If (.UnaryOp nt u4 w3) w1 u3 w2)])) h3 fun u5 u6 u7 w4 h4 => ?_
  refine onName_el (P := fun u5 => P ([(.If (.UnaryOp nt (.Call u5 u6 u7 w4) w3) w1 u3 w2)])) h4 fun f w5 h5 => ?_
  refine on2_el (P := fun u6 => P ([(.If (.UnaryOp nt (.Call (.Name f w5) u6 u7 w4) w3) w1 u3 w2)])) h5 fun row u8 h6 => ?_
  refine onList_el (P := fun u8 => P ([(.If (.UnaryOp nt (.Call (.Name f w5) [row, u8] u7 w4) w3) w1 u3 w2)])) h6 fun u9 w6 h7 => ?_
  refine on1_el (P := fun u9 => P ([(.If (.UnaryOp nt (.Call (.Name f w5) [row, (.List u9 w6)] u7 w4) w3) w1 u3 w2)])) h7 fun x h8 => ?_
  refine on0_el (P := fun u7 => P ([(.If (.UnaryOp nt (.Call (.Name f w5) [row, (.List [x] w6)] u7 w4) w3) w1 u3 w2)])) h8 fun h9 => ?_
  refine on0_el (P := fun u3 => P ([(.If (.UnaryOp nt (.Call (.Name f w5) [row, (.List [x] w6)] [] w4) w3) w1 u3 w2)])) h9 fun h10 => ?_
  simp only [Bool.and_eq_true, beq_iff_eq] at h10
  obtain ⟨⟨⟨⟨⟨⟨w1x, w2x⟩, w3x⟩, w4x⟩, w5x⟩, w6x⟩, rfl⟩ := h10
  exact cont _ _ _ _ _ _ _ _ _ w1x w2x w3x w4x w5x w6x
theorem turnOk (X : Cx S c (n + 1)) (hd : S.dead.isSome = true) (pl : PL n) {body : List Stmt} (hx : isTurn c.cs ns body = true) {sc : List Int} {k : Int} (hsc : Script sc)
    (g0 : get ρ 0 = some (.val (.list (vInts sc)))) (g1 : get ρ 1 = some (.val (.list rowsV))) (hk0 : 0 ≤ k) (hk8 : k < 8) (g2 : get ρ 2 = some (.val (.int k))) : StOk S c ns ρ p (execs body c.env) (.ok (.next, ρ), p) := by
  refine isTurn_el (P := fun body => StOk S c ns ρ p (execs body c.env) (.ok (.next, ρ), p)) hx fun _ _ _ _ f _ rowE _ x w1 w2 w3 w4 w5 w6 => ?_
  have HC : ∀ f l p o, callN n f l p = some o → CallOk S n f l p o := fun f l p o h => callOk X.so (fun n => raiseOk X.so n) (fun n => heardOk X.so n) n f l p o h
  have hrp : S.rp = none := by
    unfold Site.rp
    cases e : S.dead with
    | none => rw [e] at hd; cases hd
    | some _ => rfl
  intro s m own led Q E R hok hex
  obtain ⟨rv, hrow⟩ : ∃ rv, rowsV[k.toNat]? = some rv := ⟨_, List.getElem?_eq_getElem (by rw [rows_len]; exact (Int.toNat_lt ‹_›).mpr ‹_›)⟩
  have hmem : rv ∈ rowsV := List.mem_of_getElem? hrow
  have he : ev (callN n) ρ (.idx (.v 1) (.v 2)) p = some (.ok rv, p) := by
    rw [u_idx, u_v, u_v, g1, g2]
    have : 0 ≤ k ∧ k < 2 ^ 62 := ⟨hk0, by exact Int.lt_of_lt_of_le ‹_› (by decide)⟩
    simp only [bnd, lift, isV, strOnly, Bool.true_or, if_true, idx_list, if_pos this, hrow]
  refine wpAny_execs_cons (wpAny_If (wpAny_isTrue_Not (wpAny_isTrue_value (callName (gnameOk X w1 R (w2 ▸ X.so.gd.fn (by decide)) ?_)) rfl)))
  refine callFn (o := rowObj (row 69) 6) (fd := fnData 69) (by simp only [List.all_cons, List.all_nil, w4, Bool.true_and, Bool.and_true]; rfl) (wpAny_items_cons ?_ (star_cons w4 _ _))
  refine (bothX X HC (.idx (.v 1) (.v 2))).1 _ w3 _ _ _ he s m own led _ E R (fun v q e h1 tk1 led1 vr R1 sub1 rr => ?_) (fun x q e => by cases e)
  cases e
  refine wpAny_items_cons (List_ (wpAny_items_cons (penOk (s := { s with heap := h1, toks := tk1 }) X HC w5 hsc g0 g1 rows_len g2 R1 fun i t h2 tk2 led2 R2 sub2 => wpAny_items_nil ?_) (star_cons w6 _ _))) rfl
  refine wpAny_newObj_type (wpAny_items_nil ⟨fnAt X (by decide) (R2.push X _), ?_⟩)
  generalize hb : h2.objs.size = b
  have hbn : S.base.objs.size ≤ b := by rw [← hb]; exact Nat.le_trans X.k.lb (Nat.le_trans X.k.l0 (Nat.le_of_lt R2.nsL.lt))
  let T : Site := { S with ap := b, dead := none }
  have TO : T.Ok := ⟨X.so.gd, fun _ => none_of_ge hbn⟩
  have hTrp : T.rp = some b := rfl
  obtain ⟨q, hq⟩ := pl rv hmem i
  have ho2 : (h2.push { cls := .type "list", data := .seq #[.int i t] }).get? b = some { cls := .type "list", data := .seq #[.int i t] } := hb ▸ Heap.get?_push_size _ rfl
  have hlist : (h2.push { cls := .type "list", data := .seq #[.int i t] }).IsList b #[.int i t] := ⟨_, ho2, rfl, 0, rfl⟩
  have R3 := R2.push X { cls := .type "list", data := .seq #[.int i t] }
  have hsz3 : S.base.objs.size ≤ (h2.push { cls := .type "list", data := .seq #[.int i t] }).objs.size := by rw [Heap.size_push, hb]; omega
  have hdp := X.k.depth
  have hun := X.k.units
  have rrow : Rep T.rp led2 vr rv := by
    have r : Rep S.rp led1 vr rv := rr
    rw [hrp] at r
    exact (r.mono sub2).up
  refine callOk TO (fun n => raiseOk TO n) (fun n => heardOk TO n) n 69 [rv, .pen] i _ hq (c.env :: c.outer) c.A { s with heap := h2.push { cls := .type "list", data := .seq #[.int i t] }, toks := tk2 } led2 [vr, .ref b] _ _ X.k.framesA X.k.handledA X.k.gu
    (by show c.A₀.depth + 1 + _ + _ < _; omega) (by show c.A₀.units + 3 + _ + _ < _; omega) hsz3 ⟨R3.hp.stays, R3.hp.ff, .of (S := T) hlist rfl⟩ R3.sat (fun z hz => by show z.1 ≠ b; rw [← hb]; intro w; obtain ⟨o, ho⟩ := (R2.sat z hz).at; exact absurd (Heap.lt_size ho) (by rw [w]; exact Nat.lt_irrefl _))
    (.cons rrow (.cons (.pen hTrp) .nil)) ?_ ?_
  · intro bd q' e h4 tk4 led4 val kp hp sat4 sub4 fr4 hB
    cases e
    cases hB
    refine wpAny_truthy_bool ?_
    rw [if_neg (by decide)]
    have k0 : Kp [] h2 (h2.push { cls := .type "list", data := .seq #[.int i t] }) := Kp.of_keeps fun b o _ e => Heap.get?_push_of_some _ e
    have k1 : Kp [] h2 h4 := k0.less kp fun z hz => .inr (by
      have hz : z ∈ [b] := hz
      simp only [List.mem_cons, List.not_mem_nil, or_false] at hz
      rw [hz, ← hb]
      exact none_of_ge (Nat.le_refl _))
    have R5 : Sd S c ns ρ p m own led2 h4 := R2.step (k1.more fun z hz => nomatch hz) (k1.ns R2.nsL (by simp)) hp.stays X.k.l0
    exact wpAny_execs_nil (wpAny_execs_nil (hok .next ρ p rfl h4 tk4 m own led2 .next R5 (fun _ z hz => sub2 z (sub1 z hz)) rfl))
  · intro x q' e
    cases e
end
end Lr
end
section
open PySem PySem.W PyProof.Rows PySem.SeqAt PySem.Calls
set_option maxRecDepth 100000
namespace Lr
noncomputable def isLaw (cs : Scope) (ns : List PySem.Str) (ss : List Stmt) : Bool :=
  on4 ss fun s1 s2 u1 s4 => onSFor u1 fun u2 u3 body u4 _ => onName u2 fun y _ => onCall u3 fun u5 u6 u7 _ => onName u5 fun g _ => on1 u6 fun v => on0 u7 <| on0 u4 <| (mS cs ns (.set 0 (.slT (.v 0) (.c (V.int 63)))) true s1 && mS cs ns (.set 1 (.call 55 .nil)) true s2 && isLoc cs ns 2 y && isGlo cs g && g == ("range" : PySem.Str) && mX cs ns (.len (.v 1)) false v && noStar v && isTurn cs ns body && mS cs ns (.ret (.c (V.bool true))) true s4)
noncomputable def Good (sc : List Int) (ρ : Fm) : Prop := get ρ 0 = some (.val (.list (vInts sc))) ∧ get ρ 1 = some (.val (.list rowsV)) ∧ ∃ k : Int, get ρ 2 = some (.val (.int k)) ∧ 0 ≤ k ∧ k < 8
open Classical in
noncomputable def cbOf (sc : List Int) : Fm → M St := fun ρ p => if Good sc ρ then some (.ok (.next, ρ), p) else none
theorem turns (sc : List Int) (p : Int) : ∀ (l : List V), (∀ v ∈ l, ∃ k : Int, v = .int k ∧ 0 ≤ k ∧ k < 8) → ∀ x, ∃ y, iterL 2 (cbOf sc) l [some (.val (.list (vInts sc))), some (.val (.list rowsV)), x] p = some (.ok (.next, [some (.val (.list (vInts sc))), some (.val (.list rowsV)), y]), p)
  | [], _, x => ⟨x, rfl⟩
  | v :: l, h, x => by
    obtain ⟨k, rfl, h0, h8⟩ := h v (.head _)
    obtain ⟨y, e⟩ := turns sc p l (fun v hv => h v (.tail _ hv)) (some (.val (.int k)))
    refine ⟨y, ?_⟩
    rw [iterL]
    have : cbOf sc (put [some (.val (.list (vInts sc))), some (.val (.list rowsV)), x] 2 (.val (.int k))) p = some (.ok (.next, [some (.val (.list (vInts sc))), some (.val (.list rowsV)), some (.val (.int k))]), p) := by
      unfold cbOf
      rw [if_pos ⟨rfl, rfl, k, rfl, h0, h8⟩]
      rfl
    unfold bnd
    rw [this]
    exact e
theorem isLaw_el {cs : Scope} {ns : List PySem.Str} {ss : List Stmt} {P : List Stmt → Prop} (hx : isLaw cs ns ss = true) (cont : ∀ s1 s2 s4 body w1 y w2 w3 w4 v, mS cs ns (.set 0 (.slT (.v 0) (.c (V.int 63)))) true s1 = true → mS cs ns (.set 1 (.call 55 .nil)) true s2 = true → isLoc cs ns 2 y = true → isGlo cs ("range" : PySem.Str) = true → mX cs ns (.len (.v 1)) false v = true → noStar v = true → isTurn cs ns body = true → mS cs ns (.ret (.c (V.bool true))) true s4 = true → P [s1, s2, (.For (.Name y w2) (.Call (.Name ("range" : PySem.Str) w4) [v] [] w3) body [] w1), s4]) : P ss := by
  refine on4_el (P := fun ss => P (ss)) hx fun s1 s2 u1 s4 h1 => ?_
  refine onSFor_el (P := fun u1 => P ([s1, s2, u1, s4])) h1 fun u2 u3 body u4 w1 h2 => ?_
  refine onName_el (P := fun u2 => P ([s1, s2, (.For u2 u3 body u4 w1), s4])) h2 fun y w2 h3 => ?_
  refine onCall_el (P := fun u3 => P ([s1, s2, (.For (.Name y w2) u3 body u4 w1), s4])) h3 fun u5 u6 u7 w3 h4 => ?_
  refine onName_el (P := fun u5 => P ([s1, s2, (.For (.Name y w2) (.Call u5 u6 u7 w3) body u4 w1), s4])) h4 fun g w4 h5 => ?_
  refine on1_el (P := fun u6 => P ([s1, s2, (.For (.Name y w2) (.Call (.Name g w4) u6 u7 w3) body u4 w1), s4])) h5 fun v h6 => ?_
  refine on0_el (P := fun u7 => P ([s1, s2, (.For (.Name y w2) (.Call (.Name g w4) [v] u7 w3) body u4 w1), s4])) h6 fun h7 => ?_
  refine on0_el (P := fun u4 => P ([s1, s2, (.For (.Name y w2) (.Call (.Name g w4) [v] [] w3) body u4 w1), s4])) h7 fun h8 => ?_
  simp only [Bool.and_eq_true, beq_iff_eq] at h8
  obtain ⟨⟨⟨⟨⟨⟨⟨⟨w1x, w2x⟩, w3x⟩, w4x⟩, rfl⟩, w5x⟩, w6x⟩, w7x⟩, w8x⟩ := h8
  exact cont _ _ _ _ _ _ _ _ _ _ w1x w2x w3x w4x w5x w6x w7x w8x
section
variable {S : Site} {c : Act} {n : Nat} {ns : List PySem.Str} {p : Int}
theorem lawBody (X : Cx S c (n + 1)) (hby : c.by_ = []) (hd : S.dead.isSome = true) (pl : PL n) (h1n : 1 ≤ n) (hn : ns.Nodup) {body : List Stmt} (hx : isLaw c.cs ns body = true) {sc : List Int} (hsc : Script sc) :
    ∃ ρ, StOk S c ns [some (.val (.list (vInts sc))), none, none] p (execs body c.env) (.ok (.ret (.val (.bool true)), ρ), p) := by
  refine isLaw_el (P := fun body => ∃ ρ, StOk S c ns [some (.val (.list (vInts sc))), none, none] p (execs body c.env) (.ok (.ret (.val (.bool true)), ρ), p)) hx fun s1 s2 s4 bodyF _ yN _ _ _ v w1 w2 w3 w4 w5 w6 w7 w8 => ?_
  have HC : ∀ f l p o, callN n f l p = some o → CallOk S n f l p o := fun f l p o h => callOk X.so (fun n => raiseOk X.so n) (fun n => heardOk X.so n) n f l p o h
  obtain ⟨y, hturns⟩ := turns sc p (intsTo 8) (fun v hv => by
    unfold intsTo at hv
    obtain ⟨k, hk, rfl⟩ := List.mem_map.mp hv
    have := List.mem_range.mp hk
    exact ⟨k, rfl, by exact Int.natCast_nonneg _, by exact Int.ofNat_lt.mpr ‹_›⟩) none
  refine ⟨[some (.val (.list (vInts sc))), some (.val (.list rowsV)), y], ?_⟩
  intro s m own led Q E R hok hex
  have he1 : ex (callN n) [some (.val (.list (vInts sc))), none, none] (.set 0 (.slT (.v 0) (.c (V.int 63)))) p = some (.ok (.next, [some (.val (.list (vInts sc))), none, none]), p) := by
    have hl : (vInts sc).length ≤ lid := by unfold vInts lid; have := hsc.1; simp; exact Nat.le_trans ‹_› (by decide)
    have ht : List.take 63 (vInts sc) = vInts sc := List.take_of_length_le (by unfold vInts; simpa using hsc.1)
    rw [w_set, u_slT, u_v, u_c]
    simp only [bnd, lift, get, List.getD_cons_zero, isV, strOnly, Bool.true_or, if_true, ret, sliceT, hl, ht, put, List.set, and_true, show (0 : Int) ≤ 63 by decide, show (63 : Int).toNat = 63 from rfl]
  refine wpAny_execs_cons (stX HC hn (raiseOk X.so n) (heardOk X.so n) _ c X true (fun _ => hby) _ w1 _ p _ he1 s m own led _ E R (fun fl ρ1 q e h1 tk1 m1 own1 led1 f R1 sub1 hf => ?_) (fun x q e => by cases e))
  cases e
  cases hf
  have he2 : ex (callN n) [some (.val (.list (vInts sc))), none, none] (.set 1 (.call 55 .nil)) p = some (.ok (.next, [some (.val (.list (vInts sc))), some (.val (.list rowsV)), none]), p) := by
    obtain ⟨n', rfl⟩ : ∃ n', n = n' + 1 := ⟨n - 1, by exact (Nat.sub_add_cancel (Nat.lt_of_le_of_lt (Nat.zero_le _) ‹_›)).symm⟩
    rw [w_set, u_call, us_nil]
    simp only [bnd, ret, rows_call n' p, put, List.set]
  refine wpAny_execs_cons (stX HC hn (raiseOk X.so n) (heardOk X.so n) _ c X true (fun _ => hby) _ w2 _ p _ he2 { s with heap := h1, toks := tk1 } m1 own1 led1 _ E R1 (fun fl ρ2 q e h2 tk2 m2 own2 led2 f R2 sub2 hf => ?_) (fun x q e => by cases e))
  cases e
  cases hf
  have he3 : ev (callN n) [some (.val (.list (vInts sc))), some (.val (.list rowsV)), none] (.len (.v 1)) p = some (.ok (.int 8), p) := by
    rw [u_len, u_v]
    simp [bnd, lift, lenOf, rows_len, lid, get]
  refine wpAny_execs_cons (wpAny_For (callName (bnameOk X w4 (by decide) R2 boot_range (callTyp (by simpa using w6) ?_))) (fun x => rfl))
  refine wpAny_items_cons ((bothX X HC (.len (.v 1))).1 _ w5 _ _ _ he3 { s with heap := h2, toks := tk2 } m2 own2 led2 _ E R2 (fun v q e h3 tk3 led3 vl R3 sub3 rl => wpAny_items_nil ?_) (fun x q e => by cases e)) (star_cons w6 _ _)
  cases e
  cases rl with | int _ t =>
  refine call_range_1 (s := { s with heap := h3, toks := tk3 }) ?_
  have R4 := R3.push X { cls := .type "range", data := .fields #[.int 0 tk3, .int 8 t, .int 1 (tk3 + 1)] }
  refine wpAny_pyIter_range (s := { s with heap := h3.push { cls := .type "range", data := .fields #[.int 0 tk3, .int 8 t, .int 1 (tk3 + 1)] }, toks := tk3 + 1 + 1 }) (Heap.get?_push_size _ rfl) (small_one (by exact Int.natCast_nonneg _) (by exact Int.natCast_nonneg _) (by exact Int.natCast_nonneg _) (by exact Int.natCast_nonneg _)) ?_
  generalize hH : h3.push { cls := .type "range", data := .fields #[.int 0 tk3, .int 8 t, .int 1 (tk3 + 1)] } = H at R4
  have R5 := R4.push X { cls := .type "range_iterator", data := .fields #[rawInt 0, rawInt (Builtin.Range.rangeSize 0 8 1), rawInt 1] }
  have hlen : (intsTo 8).length = 8 := by simp [intsTo]
  refine for_walk (s := { s with heap := H.push { cls := .type "range_iterator", data := .fields #[rawInt 0, rawInt (Builtin.Range.rangeSize 0 8 1), rawInt 1] }, toks := tk3 + 1 + 1 }) (vals := intsTo 8) (led₁ := led3) (St' := fun j h => IsRangeIter h H.objs.size (0 + (j : Int) * 1) ((8 : Int) - j) 1) (P := fun j v => ∃ t, v = .int (0 + (j : Int) * 1) t) X hn w3
    (cb := cbOf sc)
    (by rw [hlen]; exact Walks.range X.k.handledA H.objs.size 0 1 8) (fun j h e => ⟨_, _, e, rfl⟩) (fun j h h' e w _ => w.trans e) (fun j v hj ⟨t, e⟩ => ?_)
    (fun o ρ p r ha => ?_) (R4.new X.k.l0 (Nat.le_refl _)) (fun z' hz' w => ?_) hturns R5 ?_ (fun _ h => h) ?_ (fun x q' e => by cases e)
  · rw [hlen] at hj
    refine ⟨.int j, by simp [intsTo, hj], ?_⟩
    have : (0 + (j : Int) * 1) = j := by omega
    rw [e, this]
    exact .int _ _
  · unfold cbOf at ha
    split at ha
    · rename_i hg
      cases ha
      obtain ⟨g0, g1, k, g2, hk0, hk8⟩ := hg
      exact turnOk (X.with _ o) hd pl w7 hsc g0 g1 hk0 hk8 g2
    · cases ha
  · rw [hby] at hz'; cases hz'
  · exact Heap.get?_push_size _ rfl
  · intro fl ρ3 q e h6 tk6 m6 own6 led6 f R6 sub6 hf
    cases e
    cases hf
    refine wpAny_execs_cons (stX HC hn (raiseOk X.so n) (heardOk X.so n) _ c X true (fun _ => hby) _ w8 _ p _ (show ex (callN n) _ (.ret (.c (V.bool true))) p = _ from rfl) { s with heap := h6, toks := tk6 } m6 own6 led6 _ E R6 (fun fl ρ7 q e h7 tk7 m7 own7 led7 f R7 sub7 hf => ?_) (fun x q e => by cases e))
    cases e
    obtain ⟨val, rfl, hb⟩ := hf
    exact hok _ _ _ rfl h7 tk7 m7 own7 led7 _ R7 (fun w => nomatch w) ⟨val, rfl, hb⟩
end
end Lr
end
section
open PySem PySem.W PyProof.Rows PySem.SeqAt PySem.Calls
set_option maxRecDepth 1000000
set_option maxHeartbeats 8000000
namespace Lr
theorem alive_all (P : Params) : ((List.range 537).map fun a => alive (objAt P lawName 71 a)) = (List.range 537).map fun a => some (objAt P lawName 71 a) := by kernel_rfl
theorem kf_in {w : World} {h : Heap} (x : TopIn w h) : (Kf w.params).In h := fun a o e => by
  have ha : a < 537 := by
    apply Decidable.byContradiction
    intro hn
    have : (Kf w.params).lookup a = none := by
      rw [List.lookup_eq_none_iff]
      intro q hq
      obtain ⟨b, hb, rfl⟩ := List.mem_map.mp hq
      have := List.mem_range.mp hb
      show (a != b) = true
      rw [bne_iff_ne]
      intro q
      exact hn (q ▸ this)
    rw [this] at e; cases e
  rw [Kf_get _ ha] at e
  cases e
  refine x a _ ?_
  rw [topHeap_get _ _ ha]
  exact List.map_inj_left.mp (alive_all w.params) a (List.mem_range.mpr ha)
theorem gd_of {w : World} {s₀ : Shared} {mg mb : Names} {h : Heap} (G : Ground vq looseL lw.row.toRowW.records (XL vq []) w s₀ mg mb h) (x : TopIn w h) : Gd w mg mb h := ⟨kf_in x, topRead_of G.T⟩
noncomputable def lawScope : Scope := scopeOfDef (stm (row 70).1)
theorem lawFacts : isLaw lawScope (varsOf (stm (row 70).1)) (bodyOfDef (stm (row 70).1)) = true := by kernel_rfl
theorem lawScope1 : (lawScope.isCoroutine, lawScope.isGenerator, lawScope.kind == .function, lawScope.names.all (fun x => !(x.2 == .cell)), decide (varsOf (stm (row 70).1)).Nodup, lawScope.names.lookup ("script" : PySem.Str) == some .local) = (false, false, true, true, true, true) := by kernel_rfl
theorem lawArgs : argN 70 = [("script" : PySem.Str)] := by kernel_rfl
theorem lawVars : varsOf (stm (row 70).1) = [("script" : PySem.Str), "rows", "k"] := by kernel_rfl
theorem lawBind (v : Value) : bindArgs (fnData 70) ⟨[v], []⟩ = pure ((argN 70).zip [v]) := by kernel_rfl
theorem pen37 (P : Params) : objAt P lawName 71 37 = tupO [.str "NONE" 233] := by kernel_rfl
theorem ints_rep {ap : Option Addr} {led : Led} : ∀ {vs : List Value} {ns : List Int}, IntsAre vs ns → RepL ap led vs (vInts ns)
  | _, _, .nil => .nil
  | _, _, .cons n t r => .cons (.int n t) (ints_rep r)
theorem lawCall {N : Nat} (pl : PL N) (hN : 1 ≤ N) (hN2 : N ≤ 50) {w : World} {s : Shared} {mg mb : Names} (gd : Gd w mg mb s.heap) {al : Addr} {o : Obj} {its : Array Value} {k : Nat} {ns : List Int} (ho : s.heap.get? al = some o) (hc : o.cls = .type "list") (hd : o.data = .seq its k)
    (hi : IntsAre its.toList ns) (hsc : Script ns) {Q : Value → Shared → Prop} {E : Value → Shared → Prop} (hQ : ∀ h' tk, s.heap.StaysIn h' → Q (.bool true) { s with heap := h', toks := tk }) :
    wpAny (model pw w) callerA (call (.ref (fnAddr 70)) [.ref al]) Q E s := by
  let S : Site := ⟨w, mg, mb, s.heap, 37, some #[.str "NONE" 233]⟩
  have SO : S.Ok := ⟨gd, fun q => nomatch q⟩
  have f1 := lawScope1
  simp only [Prod.mk.injEq, beq_iff_eq, decide_eq_true_eq] at f1
  obtain ⟨c1, c2, c3, c4, c6, c5⟩ := f1
  have hcode : s.heap.get? ((row 70).2.1 + 5) = some (rowObj (row 70) 5) := by
    have h1 := List.all_eq_true.mp code_lt 70 (by decide)
    have h2 := SO.gd.at (a := (row 70).2.1 + 5) (by simpa [Nat.blt_eq] using h1)
    rw [List.map_inj_left.mp (codes_ok S.w.params) 70 (by decide)] at h2
    exact h2
  have h37 : s.heap.get? 37 = some (tupO [.str "NONE" 233]) := by
    have := SO.gd.at (a := 37) (by decide)
    rw [pen37] at this
    exact this
  have hal : al ≠ 37 := fun q => by
    rw [q, h37] at ho
    cases ho
    exact absurd hc (by decide)
  refine wpAny_call (codeAny_call_def (fd := fnData 70) (body := bodyOfDef (stm (row 70).1)) (binds := (argN 70).zip [.ref al]) (by show 1 + claimMargin < recursionLimit; decide) (SO.gd.fnAt (by decide)) (fn_data 70) (SO.gd.top.nolimit) ⟨_, _, _, _, rfl, hcode, rfl, rfl⟩ rfl
    (.of_eq (lawBind _)) (fun x hx => by
      have := List.all_eq_true.mp c4 x hx
      intro q; rw [q] at this; exact absurd this (by decide)) (fun x hx => by
      rw [lawArgs] at hx
      simp only [List.zip_cons_cons, List.zip_nil_left, List.mem_cons, List.not_mem_nil, or_false] at hx
      subst hx
      have : lawScope.names.lookup ("script" : PySem.Str) = some .local := c5
      exact this) (fun h1 hns hk => ?_) c1 c2 c3)
  let led : Led := [(al, false, its.toList)]
  let c : Act := ⟨nameOfDef (stm (row 70).1), lawScope, s.heap.objs.size, fnAddr 70, .ref ((row 70).2.1 + 5), [], callerA, s.heap, led, []⟩
  have hpen : PenAt S 0 s.heap := ⟨_, 0, h37, rfl⟩
  have X : Cx S c (N + 1) := ⟨SO, ⟨c3, rfl, rfl, rfl, by show 1 + claimMargin + 10 * (N + 1) + 100 < recursionLimit; unfold claimMargin recursionLimit; omega, by show 4 + 10 * (N + 1) + 300 < cLine; unfold cLine; omega, Nat.le_refl _, ⟨_, h37⟩, Nat.le_refl _⟩⟩
  have hsat : SatE s.heap (al, false, its.toList) := ⟨o, k, ho, hc, by rw [hd]⟩
  have R : Sd S c (varsOf (stm (row 70).1)) [some (.val (.list (vInts ns))), none, none] 0 (fun x => ((argN 70).zip [.ref al]).reverse.lookup x) [] led h1 := by
    have kp : Kp [S.ap] s.heap h1 := Kp.of_keeps fun b o _ e => hk b o e
    obtain ⟨oL, esL, epL, hoL, hdL, _⟩ := id hns
    refine ⟨⟨fun b o e => hk b o e, ⟨by show lawScope.kind ≠ .module; rw [c3]; decide, ⟨s.heap.objs.size, oL, rfl, none_of_ge (Nat.le_refl _), hoL, fun vs q => by rw [hdL] at q; cases q⟩, trivial⟩,
      hpen.keeps hk⟩, kp, hns, fun q hq => ?_, fun q hq => ?_, fun q hq => .inl hq, fun x v e => ?_, fun x l e => ?_, fun _ h => (nomatch h), by simp, fun _ h => (nomatch h)⟩
    · simp only [led, List.mem_cons, List.not_mem_nil, or_false] at hq
      subst hq
      exact ⟨o, k, hk _ _ ho, hc, by rw [hd]⟩
    · simp only [led, List.mem_cons, List.not_mem_nil, or_false] at hq
      subst hq
      exact hal
    · match x, e with
      | 0, e =>
        cases e
        exact ⟨"script", .ref al, by rw [lawVars]; rfl, by show List.lookup _ (List.reverse (List.zip (argN 70) _)) = _; rw [lawArgs]; rfl, .list (.head _) (ints_rep hi)⟩
      | 1, e => cases e
      | 2, e => cases e
      | x + 3, e => cases e
    · match x, e with
      | 0, e => cases e
      | 1, e => cases e
      | 2, e => cases e
      | x + 3, e => cases e
  obtain ⟨ρ, hbody⟩ := lawBody (p := 0) X rfl rfl pl hN c6 lawFacts hsc
  refine hbody { s with heap := h1, toks := s.toks + ((argN 70).zip [Value.ref al]).length } _ _ _ _ _ R (fun fl ρ' q e h' tk m' own' led' f R' _ hf => ?_) (fun x q e => by cases e)
  cases e
  obtain ⟨val, rfl, hb⟩ := hf
  cases hb
  exact hQ h' tk R'.hp.stays
theorem items_ints {R : WRecords} : ∀ {xs : List WData}, WShape.hasItems R xs .int = true → ∃ ns : List Int, xs = ns.map WData.int
  | [], _ => ⟨[], rfl⟩
  | d :: xs, h => by
    rw [WShape.hasItems, Bool.and_eq_true] at h
    obtain ⟨i, rfl⟩ := hasW_int h.1
    obtain ⟨ns, rfl⟩ := items_ints h.2
    exact ⟨i :: ns, rfl⟩
theorem reads_ints {R : WRecords} {cl : Str → Option Addr} {h : Heap} : ∀ {ns : List Int} {vs : List Value} {as : List Addr}, ReadsAllW R cl h vs (ns.map WData.int) as → IntsAre vs ns
  | [], _, _, r => by cases r; exact .nil
  | n :: ns, _, _, r => by
    cases r with | cons a b =>
    obtain ⟨t, rfl, _⟩ := readsW_int_inv a
    exact .cons n t (reads_ints b)
theorem weight_ints {ns : List Int} : ∀ i ∈ ns, bitsOf i ≤ WData.weightAll (ns.map WData.int) := by
  induction ns with
  | nil => intro i h; cases h
  | cons n ns ih =>
    intro i h
    rw [List.map_cons, WData.weightAll]
    rcases List.mem_cons.mp h with rfl | h
    · have : WData.weight (.int i) = bitsOf i := by rw [WData.weight]; rfl
      omega
    · have := ih i h
      omega
theorem lawWalk {N : Nat} (pl : PL N) (hN : 1 ≤ N) (hN2 : N ≤ 50) : WalkO vq looseL (XL vq []) TopIn lw.row.toRowW lawDef [] fun f vs => PySem.call f vs := by
  intro w s₀ s₁ mg mb G TI a o pm cd doc dV kV ho hd hcd hD hmg hg args vals as hpre hlay hrd hwl hlo
  obtain ⟨hsh, hcond⟩ := pre_splitW hpre
  obtain ⟨d, r, rfl, h1, h2⟩ := hasAllW_cons (show WShape.hasAll _ args [.list .int] = true from hsh)
  have := hasAllW_nil h2
  subst this
  obtain ⟨xs, rfl, h3⟩ := hasW_list h1
  obtain ⟨ns, rfl⟩ := items_ints h3
  cases hrd with | cons hr hnil =>
  cases hnil
  obtain ⟨al, ol, its, k, ai, rfl, e1, e2, e3, e4, e5⟩ := readsW_list_open hr
  have hi := reads_ints e4
  have gd := gd_of G TI
  have ha : a = fnAddr 70 := by
    have h1 : mg (fnName 70) = some (.ref (fnAddr 70)) := gd.fn (by decide)
    have h2 : mg (fnName 70) = some (.ref a) := hmg
    rw [h1] at h2
    cases h2; rfl
  subst ha
  have hw : WData.weightAll (ns.map WData.int) ≤ 2 ^ 20 := by
    have : (WData.layable (.list (ns.map WData.int)) && true) = true := by simpa [WData.layableAll] using hlay
    simp only [Bool.and_true, WData.layable, Bool.and_eq_true, decide_eq_true_eq] at this
    have h := this.2
    rw [WData.weight] at h
    exact h
  have hlen : ns.length ≤ 63 := by
    have hc : WTm.holds lw.row.toRowW.records (.and (.not (.lt (.lit (.int 63)) (.len (.arg 0)))) (.lit (.bool true))) { args := [.list (ns.map WData.int)] } = true := hcond
    simp [WTm.holds, WTm.value, less?, Num.less?] at hc
    apply Decidable.byContradiction
    intro hn
    rw [show decide ((63 : Int) < (ns.length : Int)) = true from decide_eq_true (by omega)] at hc
    exact absurd hc (by simp)
  refine lawCall pl hN hN2 gd e1 e2 e3 hi ⟨hlen, fun i hi => Nat.le_trans (weight_ints i hi) hw⟩ fun h' tk st => ?_
  refine GoodW.toG ⟨.inl ⟨.bool true, .bool true, [], rfl, fun _ => rfl, .bool true, ?_, fun _ => ⟨.nil, fun _ h => nomatch h⟩⟩, st, rfl, hg⟩
  have h1 : WShape.has lw.row.toRowW.records (.bool true) .bool = true := by simp [WShape.has, WShape.arms]
  have h2 : WTm.holds lw.row.toRowW.records (.eq .res (.lit (.bool true))) { args := [.list (ns.map WData.int)], res := some (.bool true), after := [.list (ns.map WData.int)] } = true := by simp [WTm.holds, WTm.value, same]
  exact Bool.and_eq_true_iff.mpr ⟨h1, h2⟩
theorem holdsOf {N : Nat} (pl : PL N) (hN : 1 ≤ N) (hN2 : N ≤ 50) : lw.Holds := head (lawWalk pl hN hN2)
end Lr
end
section
set_option maxRecDepth 100000
namespace Lr
noncomputable def thr {α : Type} (x : Exc) : M α := fun p => some (.exn x, p)
theorem mb_ret {α β : Type} (a : α) (f : α → M β) : bnd (ret a) f = f a := rfl
theorem mb_thr {α β : Type} (x : Exc) (f : α → M β) : bnd (thr x) f = thr x := rfl
theorem mb_fail {α β : Type} (f : α → M β) : bnd fail f = fail := rfl
theorem lift_some_ret {α : Type} (a : α) : lift (some a) = ret a := rfl
theorem lift_none_fail {α : Type} : lift (none : Option α) = fail := rfl
theorem bnd_lift_some {α β : Type} (a : α) (f : α → M β) : bnd (lift (some a)) f = f a := rfl
theorem mb_assoc {α β γ : Type} (m : M α) (f : α → M β) (g : β → M γ) : bnd (bnd m f) g = bnd m fun a => bnd (f a) g := by
  funext p
  unfold bnd
  cases m p with
  | none => rfl
  | some r =>
    obtain ⟨r, q⟩ := r
    cases r <;> rfl
theorem ret_eta {α : Type} (m : M α) : bnd m ret = m := by
  funext p
  unfold bnd
  cases m p with
  | none => rfl
  | some r =>
    obtain ⟨r, q⟩ := r
    cases r <;> rfl
noncomputable def fin (t : St) : M Bd := match t.1 with
  | .ret b => ret b
  | .next => ret (.val .none)
  | .brk => fail
theorem fin_ret (b : Bd) (ρ : Fm) : fin (.ret b, ρ) = ret b := rfl
theorem fin_next (ρ : Fm) : fin (.next, ρ) = ret (.val .none) := rfl
theorem call_of {f : Nat} {F : Fn} (h : fn f = some F) (n : Nat) (args : List V) (ha : args.length = F.arity) : callN (n + 1) f args = bnd (exs (callN n) (args.map (fun v => some (.val v)) ++ List.replicate (F.nloc - F.arity) none) F.body) fin := by
  show (match fn f with | some F => _ | none => _) = _
  rw [h]
  dsimp only
  rw [if_pos ha]
  rfl
section
variable (C : Nat → List V → M Bd) (ρ : Fm)
noncomputable def loopW (t : ME) (b : MSs) (n : Nat) (ρ : Fm) : M St := iterW (fun ρ => cond C ρ t) (fun ρ => exs C ρ b) n ρ
noncomputable def loopL (x : Nat) (b : MSs) (l : List V) (ρ : Fm) : M St := iterL x (fun ρ => exs C ρ b) l ρ
noncomputable def thenS (r : MSs) (t : St) : M St := match t with
  | (.next, ρ') => exs C ρ' r
  | t => ret t
theorem exs_nil : exs C ρ .nil = ret (.next, ρ) := rfl
theorem exs_cons (s : MS) (r : MSs) : exs C ρ (.cons s r) = bnd (ex C ρ s) (thenS C r) := rfl
theorem then_next (r : MSs) : thenS C r (.next, ρ) = exs C ρ r := rfl
theorem then_ret (r : MSs) (b : Bd) : thenS C r (.ret b, ρ) = ret (.ret b, ρ) := rfl
theorem then_brk (r : MSs) : thenS C r (.brk, ρ) = ret (.brk, ρ) := rfl
theorem ex_set (x : Nat) (e : ME) : ex C ρ (.set x e) = bnd (ev C ρ e) fun v => ret (.next, put ρ x (.val v)) := rfl
theorem ex_setOwn (x f : Nat) (es : MEs) : ex C ρ (.setOwn x f es) = bnd (evs C ρ es) fun l => bnd (C f l) fun b => match b with | .own l => ret (.next, put ρ x (.own l)) | _ => fail := rfl
theorem ex_newL (x : Nat) : ex C ρ (.newL x) = ret (.next, put ρ x (.own [])) := rfl
theorem ex_set2 (x y : Nat) (e : ME) : ex C ρ (.set2 x y e) = bnd (ev C ρ e) fun v => match v with | .tup [a, b] => ret (.next, put (put ρ x (.val a)) y (.val b)) | _ => fail := rfl
theorem ex_pair (x y : Nat) (a b : ME) : ex C ρ (.pair x y a b) = bnd (ev C ρ a) fun u => bnd (ev C ρ b) fun v => ret (.next, put (put ρ x (.val u)) y (.val v)) := rfl
theorem ex_aug (x : Nat) (op : MOp) (e : ME) : ex C ρ (.aug x op e) = bnd (lift (match get ρ x with | some (.val v) => some v | _ => none)) fun u => bnd (ev C ρ e) fun v => bnd (lift (match u, v with | .int _, .int _ => binop op u v | _, _ => none)) fun r => ret (.next, put ρ x (.val r)) := rfl
theorem ex_app (x : Nat) (e : ME) : ex C ρ (.app x e) = bnd (lift (match get ρ x with | some (.own l) => some l | _ => none)) fun l => bnd (ev C ρ e) fun v => if l.length < lid then ret (.next, put ρ x (.own (l ++ [v]))) else fail := rfl
theorem ex_revs (x : Nat) : ex C ρ (.revs x) = bnd (lift (match get ρ x with | some (.own l) => some l | _ => none)) fun l => if l.length ≤ lid then ret (.next, put ρ x (.own l.reverse)) else fail := rfl
theorem ex_expr (e : ME) : ex C ρ (.expr e) = bnd (ev C ρ e) fun v => match v with | .none => ret (.next, ρ) | .int _ => ret (.next, ρ) | _ => fail := rfl
theorem ex_ite (t : ME) (a b : MSs) : ex C ρ (.ite t a b) = bnd (cond C ρ t) fun c => if c then exs C ρ a else exs C ρ b := rfl
theorem ex_while (t : ME) (b : MSs) : ex C ρ (.while_ t b) = loopW C t b loopLid ρ := rfl
theorem ex_forS (x : Nat) (e : ME) (b : MSs) : ex C ρ (.forS x e b) = bnd (ev C ρ e) fun v => match v with | .str l => loopL C x b (l.map fun c => .str [c]) ρ | _ => fail := rfl
theorem ex_forL (x : Nat) (e : ME) (b : MSs) : ex C ρ (.forL x e b) = bnd (ev C ρ e) fun v => match v with | .list l => loopL C x b l ρ | _ => fail := rfl
theorem ex_forR (x : Nat) (e : ME) (b : MSs) : ex C ρ (.forR x e b) = bnd (ev C ρ e) fun v => match v with | .int i => if i.natAbs ≤ lid then loopL C x b (intsTo i.toNat) ρ else fail | _ => fail := rfl
theorem ex_ret (e : ME) : ex C ρ (.ret e) = bnd (ev C ρ e) fun v => ret (.ret (.val v), ρ) := rfl
theorem ex_ret0 : ex C ρ .ret0 = ret (.ret (.val .none), ρ) := rfl
theorem ex_retOwn (x : Nat) : ex C ρ (.retOwn x) = bnd (lift (match get ρ x with | some (.own l) => some l | _ => none)) fun l => ret (.ret (.own l), ρ) := rfl
theorem ex_retCallOwn (f x : Nat) : ex C ρ (.retCallOwn f x) = bnd (lift (match get ρ x with | some (.own l) => some l | _ => none)) fun l => bnd (C f [.list l]) fun b => ret (.ret b, []) := rfl
theorem ex_raise (a b : ME) : ex C ρ (.raise a b) = bnd (ev C ρ a) fun x => bnd (ev C ρ b) fun y => match x with | .str l => thr ⟨1, l, y⟩ | _ => fail := rfl
theorem ex_brk : ex C ρ .brk = ret (.brk, ρ) := rfl
theorem ex_stuck : ex C ρ .stuck = fail := rfl
theorem v_v (x : Nat) : ev C ρ (.v x) = lift (match get ρ x with | some (.val v) => some v | _ => none) := rfl
theorem v_c (k : V) : ev C ρ (.c k) = ret k := rfl
theorem v_tup (es : MEs) : ev C ρ (.tup es) = bnd (evs C ρ es) fun l => if l.length ≤ lid then ret (.tup l) else fail := rfl
theorem v_lst (es : MEs) : ev C ρ (.lst es) = bnd (evs C ρ es) fun l => if l.length ≤ lid then ret (.list l) else fail := rfl
theorem v_bin (op : MOp) (a b : ME) : ev C ρ (.bin op a b) = bnd (ev C ρ a) fun x => bnd (ev C ρ b) fun y => lift (binop op x y) := rfl
theorem v_neg (a : ME) : ev C ρ (.neg a) = bnd (ev C ρ a) fun x => lift ((asInt x).map fun i => .int (-i)) := rfl
theorem v_bo (isAnd : Bool) (es : MEs) : ev C ρ (.bo isAnd es) = evB C ρ isAnd es := rfl
theorem v_not (a : ME) : ev C ρ (.not a) = bnd (ev C ρ a) fun x => bnd (lift (asBool x)) fun b => ret (.bool (!b)) := rfl
theorem v_cmp (op : COp) (a b : ME) : ev C ρ (.cmp op a b) = bnd (ev C ρ a) fun x => bnd (ev C ρ b) fun y => lift ((cmpop op x y).map .bool) := rfl
theorem v_isNone (x : Nat) : ev C ρ (.isNone x) = lift (match get ρ x with | some (.val .none) => some (.bool true) | some (.val _) => some (.bool false) | _ => none) := rfl
theorem v_notNone (x : Nat) : ev C ρ (.notNone x) = lift (match get ρ x with | some (.val .none) => some (.bool false) | some (.val _) => some (.bool true) | _ => none) := rfl
theorem v_inT (neg : Bool) (a : ME) (ks : List V) : ev C ρ (.inT neg a ks) = bnd (ev C ρ a) fun x => lift ((inConsts x ks).map fun b => .bool (b != neg)) := rfl
theorem v_inS (neg : Bool) (a b : ME) : ev C ρ (.inS neg a b) = bnd (ev C ρ a) fun x => bnd (ev C ρ b) fun y => lift (match x, y with | .str k, .str l => some (.bool (PySem.Txt.contains (tx l) (tx k) != neg)) | _, _ => none) := rfl
theorem v_ifx (t a b : ME) : ev C ρ (.ifx t a b) = bnd (ev C ρ t) fun x => bnd (lift (asBool x)) fun b' => if b' then ev C ρ a else ev C ρ b := rfl
theorem v_idx (a i : ME) : ev C ρ (.idx a i) = bnd (ev C ρ a) fun x => bnd (ev C ρ i) fun y => lift (if strOnly (isV a) x then idx x y else none) := rfl
theorem v_sl (a lo hi : ME) : ev C ρ (.sl a lo hi) = bnd (ev C ρ a) fun x => bnd (ev C ρ lo) fun y => bnd (ev C ρ hi) fun z => lift (match y, z with | .int i, .int j => if strOnly (isV a) x then slice x i (some j) else none | _, _ => none) := rfl
theorem v_slF (a lo : ME) : ev C ρ (.slF a lo) = bnd (ev C ρ a) fun x => bnd (ev C ρ lo) fun y => lift (match y with | .int i => if strOnly (isV a) x then slice x i none else none | _ => none) := rfl
theorem v_slT (a hi : ME) : ev C ρ (.slT a hi) = bnd (ev C ρ a) fun x => bnd (ev C ρ hi) fun z => lift (match z with | .int j => if strOnly (isV a) x then sliceT x j else none | _ => none) := rfl
theorem v_rev (a : ME) : ev C ρ (.rev a) = bnd (ev C ρ a) fun x => lift (match x with | .str l => if l.length ≤ lid then some (.str l.reverse) else none | _ => none) := rfl
theorem v_call (f : Nat) (es : MEs) : ev C ρ (.call f es) = bnd (evs C ρ es) fun l => bnd (C f l) fun b => match b with | .val v => ret v | .own l => ret (.list l) := rfl
theorem v_len (a : ME) : ev C ρ (.len a) = bnd (ev C ρ a) fun x => lift (lenOf x) := rfl
theorem v_lenV (x : Nat) : ev C ρ (.lenV x) = lift (match get ρ x with | some (.own l) => if l.length ≤ lid then some (.int l.length) else none | _ => none) := rfl
theorem v_max (a b : ME) : ev C ρ (.max a b) = bnd (ev C ρ a) fun x => bnd (ev C ρ b) fun y => lift (match x, y with | .int i, .int j => some (.int (if i < j then j else i)) | _, _ => none) := rfl
theorem v_min (a b : ME) : ev C ρ (.min a b) = bnd (ev C ρ a) fun x => bnd (ev C ρ b) fun y => lift (match x, y with | .int i, .int j => some (.int (if j < i then j else i)) | _, _ => none) := rfl
theorem v_str (a : ME) : ev C ρ (.str a) = bnd (ev C ρ a) fun x => lift (match x with | .int i => if i.natAbs < 10 ^ 20 then some (.str (intStr i)) else none | _ => none) := rfl
theorem v_signs (a : ME) : ev C ρ (.signs a) = bnd (ev C ρ a) fun x => lift (match x with | .str l => if l.length ≤ lid then some (.list (l.map fun c => .str [c])) else none | _ => none) := rfl
theorem v_ord (a : ME) : ev C ρ (.ord a) = bnd (ev C ρ a) fun x => lift (match x with | .str [c] => some (.int c) | _ => none) := rfl
theorem v_join (a b : ME) : ev C ρ (.join a b) = bnd (ev C ρ a) fun s => bnd (lift (asStr s)) fun s => bnd (ev C ρ b) fun x => lift (match x with | .list l => joinV (.str s) l | _ => none) := rfl
theorem v_joinV (a : ME) (x : Nat) : ev C ρ (.joinV a x) = bnd (ev C ρ a) fun s => bnd (lift (asStr s)) fun s => lift (match get ρ x with | some (.own l) => joinV (.str s) l | _ => none) := rfl
theorem v_find (a b : ME) : ev C ρ (.find a b) = bnd (ev C ρ a) fun x => bnd (lift (asStr x)) fun l => bnd (ev C ρ b) fun y => lift (match y with | .str k => some (.int (PySem.Txt.find (tx l) (tx k))) | _ => none) := rfl
theorem v_rfind (a b : ME) : ev C ρ (.rfind a b) = bnd (ev C ρ a) fun x => bnd (lift (asStr x)) fun l => bnd (ev C ρ b) fun y => lift (match y with | .str k => some (.int (PySem.Txt.rfind (tx l) (tx k))) | _ => none) := rfl
theorem v_ends (a b : ME) : ev C ρ (.ends a b) = bnd (ev C ρ a) fun x => bnd (lift (asStr x)) fun l => bnd (ev C ρ b) fun y => lift (match y with | .str k => some (.bool (PySem.Txt.endswith (tx l) (tx k))) | _ => none) := rfl
theorem v_index (a b : ME) : ev C ρ (.index a b) = bnd (ev C ρ a) fun x => bnd (lift (asStr x)) fun l => bnd (ev C ρ b) fun y => lift (match y with | .str k => if 0 ≤ PySem.Txt.find (tx l) (tx k) then some (.int (PySem.Txt.find (tx l) (tx k))) else none | _ => none) := rfl
theorem vs_nil : evs C ρ .nil = ret [] := rfl
theorem vs_cons (e : ME) (r : MEs) : evs C ρ (.cons e r) = bnd (ev C ρ e) fun x => bnd (evs C ρ r) fun l => ret (x :: l) := rfl
theorem vB_nil (isAnd : Bool) : evB C ρ isAnd .nil = ret (.bool isAnd) := rfl
theorem vB_cons (isAnd : Bool) (e : ME) (r : MEs) : evB C ρ isAnd (.cons e r) = bnd (ev C ρ e) fun x => bnd (lift (asBool x)) fun b => if b = isAnd then evB C ρ isAnd r else ret (.bool b) := rfl
theorem v_cond (e : ME) : cond C ρ e = bnd (ev C ρ e) fun x => lift (asBool x) := rfl
noncomputable def heardM (m : M St) : M St := fun p => match m p with
  | some (.exn x, q) => some (.ok (.ret (.val (.tup [.str [114, 97, 105, 115, 101, 100], .int x.code, .str x.value, x.ec])), []), q)
  | r => r
noncomputable def tryM (m : M St) : M St := fun p => match m p with
  | some (.exn _, _) => none
  | r => r
theorem ex_heard (b : MSs) : ex C ρ (.heard b) = heardM (exs C ρ b) := rfl
theorem ex_tryOk (b : MSs) : ex C ρ (.tryOk b) = tryM (exs C ρ b) := rfl
theorem heard_ret (t : St) : heardM (ret t) = ret t := rfl
theorem heard_thr (x : Exc) : heardM (thr x) = ret (.ret (.val (.tup [.str [114, 97, 105, 115, 101, 100], .int x.code, .str x.value, x.ec])), []) := rfl
theorem try_ret (t : St) : tryM (ret t) = ret t := rfl
noncomputable def penSetM (ρ : Fm) (x : Nat) (v : V) : M St := fun p => match v, get ρ x with | .int i, some (.val .pen) => some (.ok (.next, ρ), i) | _, _ => none
theorem ex_penSet (x : Nat) (e : ME) : ex C ρ (.penSet x e) = bnd (ev C ρ e) (penSetM ρ x) := rfl
theorem loopW_step (t : ME) (b : MSs) (n : Nat) : loopW C t b (n + 1) ρ = bnd (cond C ρ t) fun c => if c then bnd (exs C ρ b) fun s => match s with
      | (.next, ρ') => loopW C t b n ρ'
      | (.brk, ρ') => ret (.next, ρ')
      | (.ret v, ρ') => ret (.ret v, ρ')
    else ret (.next, ρ) := rfl
theorem loopL_nil (x : Nat) (b : MSs) : loopL C x b [] ρ = ret (.next, ρ) := rfl
theorem loopL_cons (x : Nat) (b : MSs) (v : V) (l : List V) : loopL C x b (v :: l) ρ = bnd (exs C (put ρ x (.val v)) b) fun s => match s with
      | (.next, ρ') => loopL C x b l ρ'
      | (.brk, ρ') => ret (.next, ρ')
      | (.ret v, ρ') => ret (.ret v, ρ') := rfl
end
theorem g_get (ρ : Fm) (x : Nat) : get ρ x = ρ.getD x none := rfl
theorem g_put (ρ : Fm) (x : Nat) (b : Bd) : put ρ x b = ρ.set x (some b) := rfl
theorem gd0 {α : Type} (a : α) (l : List α) (d : α) : (a :: l).getD 0 d = a := rfl
theorem gdS {α : Type} (a : α) (l : List α) (n : Nat) (d : α) : (a :: l).getD (n + 1) d = l.getD n d := rfl
theorem st0 {α : Type} (a : α) (l : List α) (b : α) : (a :: l).set 0 b = b :: l := rfl
theorem stS {α : Type} (a : α) (l : List α) (n : Nat) (b : α) : (a :: l).set (n + 1) b = a :: l.set n b := rfl
theorem a_bool (b : Bool) : asBool (.bool b) = some b := rfl
theorem a_str (l : List Nat) : asStr (.str l) = some l := rfl
theorem a_int (i : Int) : asInt (.int i) = some i := rfl
theorem isV_v (x : Nat) : isV (.v x) = true := rfl
theorem isV_idx (a b : ME) : isV (.idx a b) = false := rfl
theorem isV_c (k : V) : isV (.c k) = false := rfl
theorem so_t (x : V) : strOnly true x = true := rfl
theorem so_f (l : List Nat) : strOnly false (.str l) = true := rfl
theorem o_t (b : Bool) : (true || b) = true := rfl
theorem o_f (b : Bool) : (false || b) = b := rfl
theorem n_t : (!true) = false := rfl
theorem n_f : (!false) = true := rfl
theorem d_t (b : Bool) : (true && b) = b := rfl
theorem d_f (b : Bool) : (false && b) = false := rfl
theorem i_tt {α : Type} (a b : α) : (if true = true then a else b) = a := rfl
theorem i_tf {α : Type} (a b : α) : (if true = false then a else b) = b := rfl
theorem i_ft {α : Type} (a b : α) : (if false = true then a else b) = b := rfl
theorem i_ff {α : Type} (a b : α) : (if false = false then a else b) = a := rfl
theorem m_nil {α β : Type} (f : α → β) : List.map f [] = [] := rfl
theorem m_cons {α β : Type} (f : α → β) (a : α) (l : List α) : List.map f (a :: l) = f a :: List.map f l := rfl
theorem r_0 {α : Type} (a : α) : List.replicate 0 a = [] := rfl
theorem r_S {α : Type} (n : Nat) (a : α) : List.replicate (n + 1) a = a :: List.replicate n a := rfl
theorem ap_n {α : Type} (l : List α) : [] ++ l = l := rfl
theorem ap_c {α : Type} (a : α) (r l : List α) : (a :: r) ++ l = a :: (r ++ l) := rfl
theorem q_eq (a b : V) : cmpop .eq a b = veq a b := rfl
theorem q_ne (a b : V) : cmpop .ne a b = (veq a b).map (!·) := rfl
theorem q_lt (a b : Int) : cmpop .lt (.int a) (.int b) = some (decide (a < b)) := rfl
theorem q_le (a b : Int) : cmpop .le (.int a) (.int b) = some (decide (a ≤ b)) := rfl
theorem q_gt (a b : Int) : cmpop .gt (.int a) (.int b) = some (decide (b < a)) := rfl
theorem q_ge (a b : Int) : cmpop .ge (.int a) (.int b) = some (decide (b ≤ a)) := rfl
theorem bi_add (a b : Int) : binop .add (.int a) (.int b) = some (.int (a + b)) := rfl
theorem bi_adds (a b : List Nat) : binop .add (.str a) (.str b) = mkS (a ++ b) := rfl
theorem bi_addl (a b : List V) : binop .add (.list a) (.list b) = mkL (a ++ b) := rfl
theorem bi_sub (a b : Int) : binop .sub (.int a) (.int b) = some (.int (a - b)) := rfl
theorem bi_mul (a b : Int) : binop .mul (.int a) (.int b) = if a.natAbs < 2 ^ 200 ∧ b.natAbs < 2 ^ 200 then some (.int (a * b)) else none := rfl
theorem bi_muls (a : List Nat) (b : Int) : binop .mul (.str a) (.int b) = if b.toNat * a.length ≤ lid ∧ -2 ^ 60 ≤ b ∧ b < 2 ^ 60 then some (.str (List.replicate b.toNat a).flatten) else none := rfl
theorem bi_mull (a : List V) (b : Int) : binop .mul (.list a) (.int b) = if b.toNat * a.length ≤ lid ∧ -2 ^ 60 ≤ b ∧ b < 2 ^ 60 then some (.list (List.replicate b.toNat a).flatten) else none := rfl
theorem bi_mod (a b : Int) : binop .mod (.int a) (.int b) = if b = 0 then none else some (.int (a.fmod b)) := rfl
theorem bi_shl (a b : Int) : binop .shl (.int a) (.int b) = if a = 1 ∧ 0 ≤ b ∧ b ≤ 64 then some (.int (2 ^ b.toNat)) else none := rfl
theorem o_some {α β : Type} (f : α → β) (a : α) : Option.map f (some a) = some (f a) := rfl
theorem veq_str (a b : List Nat) : veq (.str a) (.str b) = some (a == b) := rfl
theorem veq_int (a b : Int) : veq (.int a) (.int b) = some (a == b) := rfl
theorem inConsts_nil (a : V) : inConsts a [] = some false := rfl
theorem inConsts_str (a b : List Nat) (r : List V) : inConsts (.str a) (.str b :: r) = (inConsts (.str a) r).map fun v => (a == b) || v := by
  show (match veq (.str b) (.str a), inConsts (.str a) r with | some u, some v => some (u || v) | _, _ => none) = _
  rw [veq_str, BEq.comm (a := b)]
  cases inConsts (.str a) r <;> rfl
theorem inConsts_int (a b : Int) (r : List V) : inConsts (.int a) (.int b :: r) = (inConsts (.int a) r).map fun v => (a == b) || v := by
  show (match veq (.int b) (.int a), inConsts (.int a) r with | some u, some v => some (u || v) | _, _ => none) = _
  rw [veq_int, BEq.comm (a := b)]
  cases inConsts (.int a) r <;> rfl
theorem single_eq (a b : Nat) : (([a] : List Nat) == [b]) = (a == b) := by
  simp [BEq.beq, List.beq]
theorem beq_nn : (([] : List Nat) == []) = true := rfl
theorem beq_nc (c : Nat) (r : List Nat) : (([] : List Nat) == c :: r) = false := rfl
theorem beq_cn (c : Nat) (r : List Nat) : ((c :: r : List Nat) == []) = false := rfl
theorem ite_ret_true (x : Bool) : (if x = true then ret (V.bool true) else ret (V.bool x)) = ret (V.bool x) := by cases x <;> rfl
theorem ite_ret_false (x : Bool) : (if x = false then ret (V.bool false) else ret (V.bool x)) = ret (V.bool x) := by cases x <;> rfl
theorem ite_and (h x : Bool) : (if h = true then ret (V.bool x) else ret (V.bool h)) = ret (V.bool (h && x)) := by cases h <;> rfl
theorem ite_or (h x : Bool) : (if h = false then ret (V.bool x) else ret (V.bool h)) = ret (V.bool (h || x)) := by cases h <;> rfl
noncomputable def blank (c : Nat) : Bool := c == 32 || c == 9 || c == 10 || c == 11 || c == 12 || c == 13
theorem c_blank (n : Nat) (c : Nat) : callN (n + 1) 2 [.str [c]] = ret (.val (.bool (blank c))) := by
  rw [call_of (F := f_is_blank) rfl _ _ rfl]
  simp only [f_is_blank, exs_nil, exs_cons, ex_set, ex_setOwn, ex_newL, ex_set2, ex_pair, ex_aug, ex_app, ex_revs, ex_penSet, ex_expr, ex_ite, ex_while, ex_forS, ex_forL, ex_forR, ex_ret, ex_ret0, ex_retOwn, ex_retCallOwn, ex_raise, ex_brk, ex_heard, ex_tryOk, ex_stuck, v_v, v_c, v_tup, v_lst, v_bin, v_neg, v_bo, v_not, v_cmp, v_isNone, v_notNone, v_inT, v_inS, v_ifx, v_idx, v_sl, v_slF, v_slT, v_rev, v_call, v_len, v_lenV, v_max, v_min, v_str, v_signs, v_ord, v_join, v_joinV, v_find, v_rfind, v_ends, v_index, vs_nil, vs_cons, vB_nil, vB_cons, v_cond, mb_ret, mb_assoc, bnd_lift_some, lift_some_ret, g_get, g_put, gd0, gdS, st0, stS, a_bool, a_str, a_int, isV_v, isV_idx, isV_c, so_t, so_f, ↓o_t, ↓o_f, n_t, n_f, d_t, d_f, ↓i_tt, ↓i_tf, ↓i_ft, ↓i_ff, m_nil, m_cons, r_0, r_S, ap_n, ap_c, q_eq, q_ne, q_lt, q_le, q_gt, q_ge, bi_add, bi_adds, bi_addl, bi_sub, bi_mul, bi_muls, bi_mull, bi_mod, bi_shl, o_some, veq_str, veq_int, inConsts_nil, inConsts_str, inConsts_int, ite_ret_true, ite_ret_false, ite_and, ite_or, mb_fail, mb_thr, if_true, if_false, reduceIte, lift_none_fail, fin_ret, fin_next, then_next, then_ret, then_brk, heard_ret, heard_thr, try_ret, Option.map_none, Bool.or_true, Bool.or_false, Bool.not_false, Bool.not_true, Bool.false_eq_true, Bool.true_eq_false, ret_eta, Nat.sub_self, Nat.add_one_sub_one, Nat.reduceSub, single_eq, Int.reduceLE, Int.reduceLT, Int.reduceNeg, Int.reduceAdd, Int.reduceSub, Int.reduceBEq, Nat.reduceBEq, decide_true, decide_false, beq_nn, beq_nc, beq_cn, List.cons_beq_cons, Bool.and_true, Bool.true_and, Bool.and_false, Bool.false_and, Int.reduceBNe, bne_self_eq_false, beq_self_eq_true, Bool.bne_false, Bool.bne_true, gt_iff_lt, ge_iff_le, decide_eq_true_eq, Bool.and_self, blank, Bool.or_assoc, bne, beq_false, Bool.not_not]
end Lr
end
section
set_option maxRecDepth 100000
open PySem
namespace Lr
noncomputable def nthS : MSs → Nat → MS
  | .cons s _, 0 => s
  | .cons _ r, n + 1 => nthS r n
  | .nil, _ => .stuck
noncomputable def wT : MS → ME
  | .while_ t _ => t
  | _ => .stuck
noncomputable def wB : MS → MSs
  | .while_ _ b => b
  | .forS _ _ b => b
  | .forL _ _ b => b
  | .forR _ _ b => b
  | _ => .nil
theorem nthS_0 (s : MS) (r : MSs) : nthS (.cons s r) 0 = s := rfl
theorem nthS_S (s : MS) (r : MSs) (n : Nat) : nthS (.cons s r) (n + 1) = nthS r n := rfl
theorem wT_w (t : ME) (b : MSs) : wT (.while_ t b) = t := rfl
theorem wB_w (t : ME) (b : MSs) : wB (.while_ t b) = b := rfl
theorem wB_s (x : Nat) (t : ME) (b : MSs) : wB (.forS x t b) = b := rfl
theorem wB_l (x : Nat) (t : ME) (b : MSs) : wB (.forL x t b) = b := rfl
theorem wB_r (x : Nat) (t : ME) (b : MSs) : wB (.forR x t b) = b := rfl
theorem slice_str2 (l : List Nat) (lo hi : Int) : slice (.str l) lo (some hi) = if 0 ≤ lo ∧ 0 ≤ hi ∧ l.length ≤ lid then some (.str ((l.take hi.toNat).drop lo.toNat)) else none := rfl
theorem slice_str1 (l : List Nat) (lo : Int) : slice (.str l) lo none = if 0 ≤ lo ∧ l.length ≤ lid then some (.str (l.drop lo.toNat)) else none := rfl
theorem slice_list2 (l : List V) (lo hi : Int) : slice (.list l) lo (some hi) = if 0 ≤ lo ∧ 0 ≤ hi ∧ l.length ≤ lid then some (.list ((l.take hi.toNat).drop lo.toNat)) else none := rfl
theorem slice_list1 (l : List V) (lo : Int) : slice (.list l) lo none = if 0 ≤ lo ∧ l.length ≤ lid then some (.list (l.drop lo.toNat)) else none := rfl
theorem sliceT_str (l : List Nat) (hi : Int) : sliceT (.str l) hi = if 0 ≤ hi ∧ l.length ≤ lid then some (.str (l.take hi.toNat)) else none := rfl
theorem sliceT_list (l : List V) (hi : Int) : sliceT (.list l) hi = if 0 ≤ hi ∧ l.length ≤ lid then some (.list (l.take hi.toNat)) else none := rfl
theorem cut_len {α : Type} (T b : List α) (i j : Nat) : (T.take i ++ b ++ T.drop j).length ≤ T.length + b.length + T.length := by
  rw [List.length_append, List.length_append, List.length_drop]
  exact Nat.add_le_add (Nat.add_le_add_right (List.length_take_le' _ _) _) (Nat.sub_le _ _)
noncomputable def Small (l : List Nat) : Prop := l.length ≤ 10000
theorem small_lid {l : List Nat} (h : Small l) : l.length ≤ lid := Nat.le_trans h (by decide)
theorem len_s {l : List Nat} (h : Small l) : lenOf (.str l) = some (.int l.length) := by rw [lenOf, if_pos (small_lid h)]
theorem idx_s {t : List Nat} {i : Int} {k : Nat} {c : Nat} (hi : i = k) (h : t[k]? = some c) (hs : Small t) : idx (.str t) (.int i) = some (.str [c]) := by
  subst hi
  have hk : k < t.length := (List.getElem?_eq_some_iff.mp h).1
  unfold Small at hs
  rw [idx_str, if_pos ⟨by exact Int.natCast_nonneg _, by omega⟩]
  simp [h]
theorem at_mid (pre : List Nat) (c : Nat) (tl : List Nat) : (pre ++ c :: tl)[pre.length]? = some c := by simp
theorem slice_s {t : List Nat} {lo hi : Int} {a b : Nat} (h1 : lo = a) (h2 : hi = b) (hs : Small t) : slice (.str t) lo (some hi) = some (.str ((t.take b).drop a)) := by
  subst h1 h2
  rw [slice_str2, if_pos ⟨by exact Int.natCast_nonneg _, by exact Int.natCast_nonneg _, small_lid hs⟩]
  simp
theorem cut_one (pre : List Nat) (a x : Nat) (tl : List Nat) : ((pre ++ a :: x :: tl).take (pre.length + 2)).drop (pre.length + 1) = [x] := by
  rw [List.drop_take]
  have : List.drop (pre.length + 1) pre = [] := List.drop_eq_nil_of_le (by exact Nat.le_add_right _ _)
  simp [List.drop_append, this]
noncomputable def escPairs : List (Nat × Nat) := [(93, 93), (91, 91), (36, 36), (59, 59), (32, 32), (92, 92), (34, 34), (123, 123), (125, 125), (35, 35), (110, 10)]
theorem esc_all : (escPairs.all fun q => (decide (Txt.find (tx [97, 98, 102, 110, 114, 116, 118]) (tx [q.1]) = -1) && q.1 == q.2 && [10, 120, 117, 85, 48, 49, 50, 51, 52, 53, 54, 55].all fun k => (q.1 == k) == false) || (q.1 == 110 && q.2 == 10)) = true := by decide +kernel
theorem c_bsl (n : Nat) {pre : List Nat} {x c : Nat} {tl t : List Nat} {i : Int} (hx : (x, c) ∈ escPairs) (ht : t = pre ++ 92 :: x :: tl) (hi : i = pre.length) (hs : Small t) :
    callN (n + 1) 14 [.str t, .int i] = ret (.val (.tup [.str [c], .int (i + 2)])) := by
  have hsl : slice (.str t) (i + 1) (some (i + 2)) = some (.str [x]) := by
    rw [slice_s (a := pre.length + 1) (b := pre.length + 2) (by omega) (by omega) hs, ht, cut_one]
  rw [call_of (F := f_backslash) rfl _ _ rfl]
  have h2 : (2 : Nat) ≤ lid := by decide
  have h := List.all_eq_true.mp esc_all _ hx
  simp only [Bool.or_eq_true, Bool.and_eq_true, decide_eq_true_eq, beq_iff_eq] at h
  rcases h with ⟨⟨hf, rfl⟩, h3⟩ | ⟨rfl, rfl⟩
  · have f (k : Nat) (hk : k ∈ [10, 120, 117, 85, 48, 49, 50, 51, 52, 53, 54, 55]) : (x == k) = false := beq_iff_eq.mp (List.all_eq_true.mp h3 k hk)
    simp [f_backslash, exs_nil, exs_cons, ex_set, ex_ite, ex_while, ex_ret, v_v, v_c, v_tup, v_bin, v_cmp, v_inT, v_idx, v_sl, v_find, vs_nil, vs_cons, v_cond, mb_ret, mb_assoc, lift_some_ret, g_get, g_put, a_bool, a_str, isV_v, isV_c, so_t, so_f, ↓i_ft, r_S, q_eq, q_ge, bi_add, veq_str, inConsts_nil, inConsts_str, reduceIte, fin_ret, then_next, then_ret, Nat.reduceSub, Int.reduceLE, Int.reduceNeg, decide_false, List.cons_beq_cons, Bool.and_true, Bool.bne_false, hsl, hf, h2, f 10 (by decide), f 120 (by decide), f 117 (by decide), f 85 (by decide), f 48 (by decide), f 49 (by decide), f 50 (by decide), f 51 (by decide), f 52 (by decide), f 53 (by decide), f 54 (by decide), f 55 (by decide)]
  · have hf : Txt.find (tx [97, 98, 102, 110, 114, 116, 118]) (tx [110]) = 3 := by decide +kernel
    have h7 : idx (.str [7, 8, 12, 10, 13, 9, 11]) (.int 3) = some (.str [10]) := rfl
    simp [f_backslash, exs_nil, exs_cons, ex_set, ex_ite, ex_ret, v_v, v_c, v_tup, v_bin, v_cmp, v_idx, v_sl, v_find, vs_nil, vs_cons, v_cond, mb_ret, lift_some_ret, g_get, g_put, a_bool, a_str, isV_v, isV_c, so_t, so_f, ↓i_tt, ↓i_ft, r_S, q_eq, q_ge, bi_add, veq_str, reduceIte, fin_ret, then_next, then_ret, Nat.reduceSub, decide_true, hsl, hf, h7, h2]
end Lr
end
section
set_option maxRecDepth 100000
open PySem
namespace Lr
abbrev Un := List Nat × Nat
noncomputable def plainC (c : Nat) : Prop := blank c = false ∧ c ≠ 92
noncomputable def isUn (u : Un) : Prop := (u.1 = [u.2] ∧ plainC u.2) ∨ ∃ x, u.1 = [92, x] ∧ (x, u.2) ∈ escPairs
noncomputable def uStr (us : List Un) : List Nat := us.flatMap (·.1)
noncomputable def uVal (us : List Un) : List Nat := us.map (·.2)
noncomputable def stop (rest : List Nat) : Prop := rest = [] ∨ ∃ r, rest = 32 :: r
noncomputable def signs1 (l : List Nat) : List V := l.map fun c => .str [c]
theorem lt_mid {t pre : List Nat} {c : Nat} {tl : List Nat} {i : Int} (ht : t = pre ++ c :: tl) (hi : i = pre.length) : decide (i < (t.length : Int)) = true := by
  subst ht hi
  simp
  omega
theorem idx_mid {t pre : List Nat} {c : Nat} {tl : List Nat} {i : Int} (ht : t = pre ++ c :: tl) (hi : i = pre.length) (hs : Small t) : idx (.str t) (.int i) = some (.str [c]) :=
  idx_s hi (by rw [ht]; exact at_mid _ _ _) hs
theorem app_ok {l : List V} (h : l.length ≤ 10000) : l.length < lid := Nat.lt_of_le_of_lt h (by decide)
theorem bare_loop (n : Nat) : ∀ (us : List Un) (pre rest : List Nat) (acc : List V) (t : List Nat) (i : Int) (m : Nat) (x : Option Bd), (∀ u ∈ us, isUn u) → t = pre ++ (uStr us ++ rest) → i = pre.length → Small t → stop rest → us.length < m → acc.length + us.length ≤ 10000 →
    ∃ y, loopW (callN (n + 1)) (wT (nthS f_bare_element.body 1)) (wB (nthS f_bare_element.body 1)) m [some (.val (.str t)), some (.val (.int i)), some (.own acc), x] =
      ret (.next, [some (.val (.str t)), some (.val (.int (i + (uStr us).length))), some (.own (acc ++ signs1 (uVal us))), y])
  | [], pre, rest, acc, t, i, m, x, _, ht, hi, hs, hst, hm, _ => by
    obtain ⟨m, rfl⟩ : ∃ k, m = k + 1 := ⟨m - 1, by exact (Nat.sub_add_cancel (Nat.lt_of_le_of_lt (Nat.zero_le _) ‹_›)).symm⟩
    refine ⟨x, ?_⟩
    rw [loopW_step]
    rcases hst with rfl | ⟨r, rfl⟩
    · have h1 : decide (i < (t.length : Int)) = false := by subst ht hi; simp [uStr]
      simp [nthS_0, nthS_S, wT_w, wB_w, f_bare_element, exs_nil, exs_cons, ex_set, ex_set2, ex_aug, ex_ite, v_v, v_c, v_bo, v_not, v_cmp, v_idx, v_call, v_len, vs_nil, vs_cons, vB_nil, vB_cons, v_cond, mb_ret, mb_assoc, lift_some_ret, g_get, g_put, a_bool, isV_v, so_t, ↓i_ft, q_eq, q_lt, bi_add, ite_and, reduceIte, then_next, Bool.and_true, len_s hs, h1, uStr, uVal, signs1]
    · have h1 := lt_mid (t := t) (pre := pre) (c := 32) (tl := r) (by simpa [uStr] using ht) hi
      have h2 := idx_mid (t := t) (pre := pre) (c := 32) (tl := r) (by simpa [uStr] using ht) hi hs
      simp [nthS_0, nthS_S, wT_w, wB_w, f_bare_element, exs_nil, exs_cons, ex_set, ex_set2, ex_aug, ex_app, ex_ite, v_v, v_c, v_bo, v_not, v_cmp, v_idx, v_call, v_len, vs_nil, vs_cons, vB_nil, vB_cons, v_cond, mb_ret, mb_assoc, lift_some_ret, g_get, g_put, a_bool, isV_v, so_t, ↓i_ft, q_eq, q_lt, bi_add, veq_str, ite_and, reduceIte, then_next, Bool.not_true, Nat.reduceBEq, List.cons_beq_cons, Bool.and_true, Bool.and_false, len_s hs, h1, h2, c_blank, uStr, uVal, signs1, show blank 32 = true from rfl]
  | u :: us, pre, rest, acc, t, i, m, x, hu, ht, hi, hs, hst, hm, ha => by
    obtain ⟨m, rfl⟩ : ∃ k, m = k + 1 := ⟨m - 1, by exact (Nat.sub_add_cancel (Nat.lt_of_le_of_lt (Nat.zero_le _) ‹_›)).symm⟩
    obtain ⟨ul, c⟩ := u
    have hun := hu _ (.head _)
    rw [List.length_cons] at ha hm
    have hap := app_ok (l := acc) (by exact Nat.le_trans (Nat.le_add_right _ _) ‹_›)
    have go : ∀ (i' : Int) (y : Option Bd), i' = (pre ++ ul).length → ∃ y', loopW (callN (n + 1)) (wT (nthS f_bare_element.body 1)) (wB (nthS f_bare_element.body 1)) m [some (.val (.str t)), some (.val (.int i')), some (.own (acc ++ [.str [c]])), y] = ret (.next, [some (.val (.str t)), some (.val (.int (i + (uStr ((ul, c) :: us)).length))), some (.own (acc ++ signs1 (uVal ((ul, c) :: us)))), y']) := fun i' y hi' => by
      obtain ⟨y', e⟩ := bare_loop n us (pre ++ ul) rest (acc ++ [.str [c]]) t i' m y (fun u h => hu u (.tail _ h)) (by rw [ht]; simp [uStr]) hi' hs hst (by exact Nat.le_of_succ_le_succ ‹_›) (by simp; omega)
      refine ⟨y', ?_⟩
      rw [e]
      have e1 : i' + ((uStr us).length : Int) = i + ((uStr ((ul, c) :: us)).length : Int) := by subst hi hi'; simp [uStr]; exact Int.add_assoc _ _ _
      have e2 : (acc ++ [V.str [c]]) ++ signs1 (uVal us) = acc ++ signs1 (uVal ((ul, c) :: us)) := by simp [uVal, signs1]
      rw [e1, e2]
    rcases hun with ⟨e, hp⟩ | ⟨k, e, hk⟩
    · simp only at e hp
      subst e
      have ht' : t = pre ++ c :: (uStr us ++ rest) := by rw [ht]; simp [uStr]
      have h1 := lt_mid ht' hi
      have h2 := idx_mid ht' hi hs
      obtain ⟨y, e⟩ := go (i + 1) (some (.val (.str [c]))) (by subst hi; simp)
      refine ⟨y, ?_⟩
      rw [loopW_step, ← e]
      have hc : (c == 92) = false := by simpa using hp.2
      simp [nthS_0, nthS_S, wT_w, wB_w, f_bare_element, exs_nil, exs_cons, ex_set, ex_set2, ex_aug, ex_app, ex_ite, v_v, v_c, v_bo, v_not, v_cmp, v_idx, v_call, v_len, vs_nil, vs_cons, vB_nil, vB_cons, v_cond, mb_ret, mb_assoc, lift_some_ret, g_get, g_put, a_bool, isV_v, so_t, ↓i_tt, ↓i_ft, q_eq, q_lt, bi_add, veq_str, ite_and, reduceIte, then_next, Bool.not_false, List.cons_beq_cons, Bool.and_true, len_s hs, h1, h2, c_blank, hp.1, hc, hap]
    · simp only at e hk
      subst e
      have ht' : t = pre ++ 92 :: (k :: (uStr us ++ rest)) := by rw [ht]; simp [uStr]
      have h1 := lt_mid ht' hi
      have h2 := idx_mid ht' hi hs
      obtain ⟨y, e⟩ := go (i + 2) (some (.val (.str [c]))) (by subst hi; simp)
      refine ⟨y, ?_⟩
      rw [loopW_step, ← e]
      simp [nthS_0, nthS_S, wT_w, wB_w, f_bare_element, exs_nil, exs_cons, ex_set, ex_set2, ex_aug, ex_app, ex_ite, v_v, v_c, v_bo, v_not, v_cmp, v_idx, v_call, v_len, vs_nil, vs_cons, vB_nil, vB_cons, v_cond, mb_ret, lift_some_ret, g_get, g_put, a_bool, isV_v, so_t, ↓i_tt, q_eq, q_lt, bi_add, veq_str, ite_and, reduceIte, then_next, Bool.not_false, Bool.and_true, len_s hs, h1, h2, c_blank, show blank 92 = false from rfl, c_bsl n hk ht' hi hs, hap]
end Lr
end
section
set_option maxRecDepth 100000
open PySem
namespace Lr
theorem strsOf_map : ∀ (l : List (List Nat)), strsOf (l.map V.str) = some l
  | [] => rfl
  | x :: l => by rw [List.map_cons, strsOf, strsOf_map l]; rfl
theorem signs1_str (l : List Nat) : signs1 l = (l.map fun c => [c]).map V.str := by simp [signs1]
theorem joinL_nil : ∀ (l : List (List Nat)), joinL [] l = l.flatten
  | [] => rfl
  | [x] => by simp [joinL]
  | x :: y :: r => by rw [joinL, joinL_nil (y :: r)]; simp
theorem joinV_e {l : List (List Nat)} (h : (l.map (·.length)).sum ≤ 10000) : joinV (.str []) (l.map V.str) = some (.str l.flatten) := by
  have h2 : (l.map (·.length)).sum + l.length * 0 ≤ lid := Nat.le_trans h (by decide)
  simp only [joinV, strsOf_map, joinL_nil, List.length_nil, if_pos h2]
theorem sum_ones : ∀ (l : List Nat), ((l.map fun c => [c]).map (·.length)).sum = l.length
  | [] => rfl
  | c :: l => by
    have := sum_ones l
    simp only [List.map_cons, List.sum_cons, List.length_cons, List.length_nil]
    omega
theorem flat_ones : ∀ (l : List Nat), (l.map fun c => [c]).flatten = l
  | [] => rfl
  | c :: l => by simp [flat_ones l]
theorem joinV_signs {l : List Nat} (h : l.length ≤ 10000) : joinV (.str []) (signs1 l) = some (.str l) := by
  rw [signs1_str, joinV_e, flat_ones]
  rw [sum_ones]; exact h
theorem two_lid : (2 : Nat) ≤ lid := by decide
theorem c_bare (n : Nat) {us : List Un} {pre rest t : List Nat} {i : Int} (hu : ∀ u ∈ us, isUn u) (ht : t = pre ++ (uStr us ++ rest)) (hi : i = pre.length) (hs : Small t) (hst : stop rest) (hl : us.length ≤ 10000) :
    callN (n + 2) 18 [.str t, .int i] = ret (.val (.tup [.str (uVal us), .int (i + (uStr us).length)])) := by
  rw [call_of (F := f_bare_element) rfl _ _ rfl]
  obtain ⟨y, e⟩ := bare_loop n us pre rest [] t i loopLid none hu ht hi hs hst (Nat.lt_of_le_of_lt hl (by decide)) (by simpa using hl)
  simp only [f_bare_element, nthS_0, nthS_S, wT_w, wB_w, List.nil_append] at e
  have hj : joinV (.str []) (signs1 (uVal us)) = some (.str (uVal us)) := joinV_signs (by simpa [uVal] using hl)
  simp [f_bare_element, exs_cons, ex_newL, ex_while, ex_ret, v_v, v_c, v_tup, v_joinV, vs_nil, vs_cons, mb_ret, lift_some_ret, g_get, g_put, a_str, r_S, reduceIte, fin_ret, then_next, then_ret, Nat.reduceSub, e, hj, two_lid]
inductive Bal : List Nat → Nat → Prop
  | nil : Bal [] 0
  | esc {r : List Nat} {d : Nat} (x : Nat) (h : Bal r d) : Bal (92 :: x :: r) d
  | op {r : List Nat} {d : Nat} (h : Bal r (d + 1)) : Bal (123 :: r) d
  | cl {r : List Nat} {d : Nat} (h : Bal r d) : Bal (125 :: r) (d + 1)
  | plain {r : List Nat} {d : Nat} (c : Nat) (h1 : c ≠ 92) (h2 : c ≠ 123) (h3 : c ≠ 125) (h : Bal r d) : Bal (c :: r) d
theorem c_check (n : Nat) {pre rest t : List Nat} {i : Int} {w : V} (ht : t = pre ++ rest) (hi : i = pre.length) (hs : Small t) (hst : stop rest) : callN (n + 2) 15 [.str t, .int i, w] = ret (.val .none) := by
  rw [call_of (F := f_check_behind) rfl _ _ rfl]
  rcases hst with rfl | ⟨r, rfl⟩
  · have h1 : decide ((t.length : Int) ≤ i) = true := by subst ht hi; simp
    simp [f_check_behind, exs_nil, exs_cons, ex_ite, ex_ret0, v_v, v_bo, v_cmp, v_idx, v_call, v_len, vs_nil, vs_cons, vB_nil, vB_cons, v_cond, mb_ret, mb_assoc, lift_some_ret, g_get, a_bool, isV_v, so_t, ↓i_tt, ↓i_tf, r_S, q_ge, ite_or, reduceIte, fin_ret, then_ret, Bool.or_false, Nat.reduceSub, len_s hs, h1]
  · have h1 : decide ((t.length : Int) ≤ i) = false := by subst ht hi; simp; omega
    have h2 := idx_mid ht hi hs
    simp [f_check_behind, exs_nil, exs_cons, ex_ite, ex_ret0, v_v, v_bo, v_cmp, v_idx, v_call, v_len, vs_nil, vs_cons, vB_nil, vB_cons, v_cond, mb_ret, lift_some_ret, g_get, a_bool, isV_v, so_t, ↓i_tt, r_S, q_ge, ite_or, reduceIte, fin_ret, then_ret, Bool.or_true, Bool.or_false, Nat.reduceSub, len_s hs, h1, h2, c_blank, show blank 32 = true from rfl]
theorem braced_loop (n : Nat) {rest t : List Nat} {f : Nat} (hs : Small t) (hst : stop rest) {e : List Nat} {d : Nat} (hb : Bal e d) : ∀ (pre : List Nat) (i D : Int) (m : Nat) (x : Option Bd), t = pre ++ (e ++ 125 :: rest) → i = pre.length → D = d + 1 → e.length < m →
    ∃ ρ', loopW (callN (n + 2)) (wT (nthS f_braced_element.body 1)) (wB (nthS f_braced_element.body 1)) m [some (.val (.str t)), some (.val (.int f)), some (.val (.int D)), some (.val (.int i)), x] =
      ret (.ret (.val (.tup [.str ((t.take (pre.length + e.length)).drop f), .int (i + e.length + 1)])), ρ') := by
  induction hb with
  | nil =>
    intro pre i D m x ht hi hD hm
    obtain ⟨m, rfl⟩ : ∃ k, m = k + 1 := ⟨m - 1, by exact (Nat.sub_add_cancel (Nat.lt_of_le_of_lt (Nat.zero_le _) ‹_›)).symm⟩
    have ht' : t = pre ++ 125 :: rest := by simpa using ht
    have h1 := lt_mid ht' hi
    have h2 := idx_mid ht' hi hs
    have h3 : slice (.str t) (f : Int) (some i) = some (.str ((t.take pre.length).drop f)) := slice_s rfl hi hs
    have h4 : callN (n + 2) 15 [.str t, .int (i + 1), .str [98, 114, 97, 99, 101, 115]] = ret (.val .none) := c_check n (pre := pre ++ [125]) (rest := rest) (by rw [ht']; simp) (by subst hi; simp) hs hst
    subst hD
    refine ⟨?_, ?_⟩
    rotate_left
    · rw [loopW_step]
      simp only [f_braced_element, nthS_0, nthS_S, wT_w, wB_w]
      simp [exs_nil, exs_cons, ex_set, ex_aug, ex_expr, ex_ite, ex_ret, v_v, v_c, v_tup, v_bin, v_cmp, v_idx, v_sl, v_call, v_len, vs_nil, vs_cons, v_cond, mb_ret, lift_some_ret, g_get, g_put, a_bool, isV_v, so_t, ↓i_tt, ↓i_ft, q_eq, q_lt, bi_add, bi_sub, veq_str, veq_int, reduceIte, then_next, then_ret, Int.reduceAdd, Nat.reduceBEq, List.cons_beq_cons, Bool.and_true, len_s hs, h1, h2, h3, h4, two_lid]
      rfl
  | @esc r d k h ih =>
    intro pre i D m x ht hi hD hm
    obtain ⟨m, rfl⟩ : ∃ k, m = k + 1 := ⟨m - 1, by exact (Nat.sub_add_cancel (Nat.lt_of_le_of_lt (Nat.zero_le _) ‹_›)).symm⟩
    have ht' : t = pre ++ 92 :: (k :: (r ++ 125 :: rest)) := by simpa using ht
    have h1 := lt_mid ht' hi
    have h2 := idx_mid ht' hi hs
    obtain ⟨ρ', e⟩ := ih (pre ++ [92, k]) (i + 1 + 1) D m (some (.val (.str [92]))) (by rw [ht']; simp) (by subst hi; simp; omega) hD (by simp at hm; exact Nat.le_of_lt ‹_›)
    refine ⟨ρ', ?_⟩
    have e1 : i + 1 + 1 + (r.length : Int) + 1 = i + ((92 :: k :: r).length : Int) + 1 := by simp; omega
    have e2 : (pre ++ [92, k]).length + r.length = pre.length + (92 :: k :: r).length := by simp; exact Nat.add_right_comm _ _ _
    rw [e1, e2] at e
    rw [← e, loopW_step]
    simp [f_braced_element, nthS_0, nthS_S, wT_w, wB_w, exs_nil, exs_cons, ex_set, ex_aug, ex_expr, ex_ite, v_v, v_c, v_bin, v_cmp, v_idx, v_call, v_len, vs_nil, vs_cons, v_cond, mb_ret, mb_assoc, lift_some_ret, g_get, g_put, a_bool, isV_v, so_t, ↓i_tt, ↓i_ft, q_eq, q_lt, bi_add, bi_sub, veq_str, veq_int, reduceIte, then_next, Nat.reduceBEq, List.cons_beq_cons, Bool.and_true, len_s hs, h1, h2]
  | @op r d h ih =>
    intro pre i D m x ht hi hD hm
    obtain ⟨m, rfl⟩ : ∃ k, m = k + 1 := ⟨m - 1, by exact (Nat.sub_add_cancel (Nat.lt_of_le_of_lt (Nat.zero_le _) ‹_›)).symm⟩
    have ht' : t = pre ++ 123 :: (r ++ 125 :: rest) := by simpa using ht
    have h1 := lt_mid ht' hi
    have h2 := idx_mid ht' hi hs
    obtain ⟨ρ', e⟩ := ih (pre ++ [123]) (i + 1) (D + 1) m (some (.val (.str [123]))) (by rw [ht']; simp) (by subst hi; simp) (by subst hD; simp) (by simp at hm; assumption)
    refine ⟨ρ', ?_⟩
    have e1 : i + 1 + (r.length : Int) + 1 = i + ((123 :: r).length : Int) + 1 := by simp; omega
    have e2 : (pre ++ [123]).length + r.length = pre.length + (123 :: r).length := by simp; exact Nat.add_right_comm _ _ _
    rw [e1, e2] at e
    rw [← e, loopW_step]
    simp [f_braced_element, nthS_0, nthS_S, wT_w, wB_w, exs_nil, exs_cons, ex_set, ex_aug, ex_expr, ex_ite, v_v, v_c, v_bin, v_cmp, v_idx, v_call, v_len, vs_nil, vs_cons, v_cond, mb_ret, mb_assoc, lift_some_ret, g_get, g_put, a_bool, isV_v, so_t, ↓i_tt, ↓i_ft, q_eq, q_lt, bi_add, bi_sub, veq_str, veq_int, reduceIte, then_next, Nat.reduceBEq, List.cons_beq_cons, Bool.and_true, len_s hs, h1, h2]
  | @cl r d h ih =>
    intro pre i D m x ht hi hD hm
    obtain ⟨m, rfl⟩ : ∃ k, m = k + 1 := ⟨m - 1, by exact (Nat.sub_add_cancel (Nat.lt_of_le_of_lt (Nat.zero_le _) ‹_›)).symm⟩
    have ht' : t = pre ++ 125 :: (r ++ 125 :: rest) := by simpa using ht
    have h1 := lt_mid ht' hi
    have h2 := idx_mid ht' hi hs
    obtain ⟨ρ', e⟩ := ih (pre ++ [125]) (i + 1) (D - 1) m (some (.val (.str [125]))) (by rw [ht']; simp) (by subst hi; simp) (by subst hD; simp) (by simp at hm; assumption)
    refine ⟨ρ', ?_⟩
    have e1 : i + 1 + (r.length : Int) + 1 = i + ((125 :: r).length : Int) + 1 := by simp; omega
    have e2 : (pre ++ [125]).length + r.length = pre.length + (125 :: r).length := by simp; exact Nat.add_right_comm _ _ _
    have h0 : (D - 1 == 0) = false := by subst hD; simp; omega
    rw [e1, e2] at e
    rw [← e, loopW_step]
    simp [f_braced_element, nthS_0, nthS_S, wT_w, wB_w, exs_nil, exs_cons, ex_set, ex_aug, ex_expr, ex_ite, v_v, v_c, v_bin, v_cmp, v_idx, v_call, v_len, vs_nil, vs_cons, v_cond, mb_ret, mb_assoc, lift_some_ret, g_get, g_put, a_bool, isV_v, so_t, ↓i_tt, ↓i_ft, q_eq, q_lt, bi_add, bi_sub, veq_str, veq_int, reduceIte, then_next, Nat.reduceBEq, List.cons_beq_cons, Bool.and_true, len_s hs, h1, h2, h0]
  | @plain r d c hc1 hc2 hc3 h ih =>
    intro pre i D m x ht hi hD hm
    obtain ⟨m, rfl⟩ : ∃ k, m = k + 1 := ⟨m - 1, by exact (Nat.sub_add_cancel (Nat.lt_of_le_of_lt (Nat.zero_le _) ‹_›)).symm⟩
    have ht' : t = pre ++ c :: (r ++ 125 :: rest) := by simpa using ht
    have h1 := lt_mid ht' hi
    have h2 := idx_mid ht' hi hs
    obtain ⟨ρ', e⟩ := ih (pre ++ [c]) (i + 1) D m (some (.val (.str [c]))) (by rw [ht']; simp) (by subst hi; simp) hD (by simp at hm; assumption)
    refine ⟨ρ', ?_⟩
    have e1 : i + 1 + (r.length : Int) + 1 = i + ((c :: r).length : Int) + 1 := by simp; omega
    have e2 : (pre ++ [c]).length + r.length = pre.length + (c :: r).length := by simp; exact Nat.add_right_comm _ _ _
    rw [e1, e2] at e
    have k1 : (c == 92) = false := by simpa using hc1
    have k2 : (c == 123) = false := by simpa using hc2
    have k3 : (c == 125) = false := by simpa using hc3
    rw [← e, loopW_step]
    simp [f_braced_element, nthS_0, nthS_S, wT_w, wB_w, exs_nil, exs_cons, ex_set, ex_aug, ex_expr, ex_ite, v_v, v_c, v_bin, v_cmp, v_idx, v_call, v_len, vs_nil, vs_cons, v_cond, mb_ret, mb_assoc, lift_some_ret, g_get, g_put, a_bool, isV_v, so_t, ↓i_tt, ↓i_ft, q_eq, q_lt, bi_add, bi_sub, veq_str, veq_int, reduceIte, then_next, List.cons_beq_cons, Bool.and_true, len_s hs, h1, h2, k1, k2, k3]
end Lr
end
section
set_option maxRecDepth 100000
open PySem
namespace Lr
structure Tok (q e : List Nat) : Prop where
  head : ∃ c r, q = c :: r ∧ blank c = false
  read : ∀ (n : Nat) (pre rest t : List Nat) (i : Int), t = pre ++ (q ++ rest) → i = pre.length → Small t → stop rest → callN (n + 4) 19 [.str t, .int i] = ret (.val (.tup [.str e, .int (i + q.length)]))
theorem c_braced (n : Nat) {e pre rest t : List Nat} {i : Int} (hb : Bal e 0) (ht : t = pre ++ (e ++ 125 :: rest)) (hi : i = pre.length) (hs : Small t) (hst : stop rest) :
    callN (n + 3) 16 [.str t, .int i] = ret (.val (.tup [.str e, .int (i + e.length + 1)])) := by
  rw [call_of (F := f_braced_element) rfl _ _ rfl]
  have hl : e.length < loopLid := by
    have : e.length ≤ t.length := by rw [ht]; simp; omega
    exact Nat.lt_of_le_of_lt (Nat.le_trans this hs) (by decide)
  obtain ⟨ρ', h⟩ := braced_loop n (f := pre.length) hs hst hb pre i 1 loopLid none ht hi rfl hl
  have hc : (t.take (pre.length + e.length)).drop pre.length = e := by
    rw [ht, List.take_length_add_append, List.drop_left]
    simp
  rw [hc, ← hi] at h
  simp only [f_braced_element, nthS_0, nthS_S, wT_w, wB_w] at h
  simp [f_braced_element, exs_cons, ex_pair, ex_while, v_v, v_c, mb_ret, lift_some_ret, g_get, g_put, r_S, fin_ret, then_next, then_ret, Nat.reduceSub, h]
theorem skip_none (n : Nat) {t pre : List Nat} {c : Nat} {tl : List Nat} {i : Int} (m : Nat) (ht : t = pre ++ c :: tl) (hi : i = pre.length) (hs : Small t) (hc : blank c = false) :
    loopW (callN (n + 1)) (wT (nthS f_find_element.body 0)) (wB (nthS f_find_element.body 0)) (m + 1) [some (.val (.str t)), some (.val (.int i))] = ret (.next, [some (.val (.str t)), some (.val (.int i))]) := by
  have h1 := lt_mid ht hi
  have h2 := idx_mid ht hi hs
  rw [loopW_step]
  simp [f_find_element, nthS_0, wT_w, wB_w, exs_nil, exs_cons, ex_aug, v_v, v_c, v_bo, v_cmp, v_idx, v_call, v_len, vs_nil, vs_cons, vB_nil, vB_cons, v_cond, mb_ret, lift_some_ret, g_get, g_put, a_bool, isV_v, so_t, ↓i_ft, q_lt, bi_add, ite_and, reduceIte, then_next, Bool.and_true, Bool.and_false, len_s hs, h1, h2, c_blank, hc]
theorem skip_one (n : Nat) {t pre : List Nat} {c : Nat} {tl : List Nat} {i : Int} (m : Nat) (ht : t = pre ++ 32 :: c :: tl) (hi : i = pre.length) (hs : Small t) (hc : blank c = false) :
    loopW (callN (n + 1)) (wT (nthS f_find_element.body 0)) (wB (nthS f_find_element.body 0)) (m + 2) [some (.val (.str t)), some (.val (.int i))] = ret (.next, [some (.val (.str t)), some (.val (.int (i + 1)))]) := by
  have h1 := lt_mid ht hi
  have h2 := idx_mid ht hi hs
  rw [loopW_step, ← skip_none n (i := i + 1) m (pre := pre ++ [32]) (tl := tl) (by rw [ht]; simp) (by subst hi; simp) hs hc]
  simp [f_find_element, nthS_0, wT_w, wB_w, exs_nil, exs_cons, ex_aug, v_v, v_c, v_bo, v_cmp, v_idx, v_call, v_len, vs_nil, vs_cons, vB_nil, vB_cons, v_cond, mb_ret, lift_some_ret, g_get, g_put, a_bool, isV_v, so_t, ↓i_tt, q_lt, bi_add, ite_and, reduceIte, then_next, Bool.and_true, len_s hs, h1, h2, c_blank, show blank 32 = true from rfl]
theorem find_at (n : Nat) {t pre : List Nat} {c : Nat} {tl : List Nat} {i j : Int} (hj : j = pre.length) (ht : t = pre ++ c :: tl) (hs : Small t)
    (hloop : loopW (callN (n + 1)) (wT (nthS f_find_element.body 0)) (wB (nthS f_find_element.body 0)) loopLid [some (.val (.str t)), some (.val (.int i))] = ret (.next, [some (.val (.str t)), some (.val (.int j))]))
    (h34 : c ≠ 34) {v : V} (hr : callN (n + 1) (if c = 123 then 16 else 18) [.str t, .int (if c = 123 then j + 1 else j)] = ret (.val v)) : callN (n + 2) 19 [.str t, .int i] = ret (.val v) := by
  rw [call_of (F := f_find_element) rfl _ _ rfl]
  have h1 : decide ((t.length : Int) ≤ j) = false := by subst ht hj; simp; omega
  have h2 := idx_mid ht hj hs
  simp only [f_find_element, nthS_0, wT_w, wB_w] at hloop
  have k2 : (c == 34) = false := by simpa using h34
  by_cases hc : c = 123
  · subst hc
    rw [if_pos rfl, if_pos rfl] at hr
    simp [f_find_element, exs_nil, exs_cons, ex_ite, ex_while, ex_ret, v_v, v_c, v_bin, v_cmp, v_idx, v_call, v_len, vs_nil, vs_cons, v_cond, mb_ret, lift_some_ret, g_get, a_bool, isV_v, so_t, ↓i_tt, ↓i_ft, q_eq, q_ge, bi_add, veq_str, reduceIte, fin_ret, then_next, then_ret, Nat.sub_self, hloop, len_s hs, h1, h2, hr]
  · have k1 : (c == 123) = false := by simpa using hc
    rw [if_neg hc, if_neg hc] at hr
    simp [f_find_element, exs_nil, exs_cons, ex_ite, ex_while, ex_ret, v_v, v_c, v_bin, v_cmp, v_idx, v_call, v_len, vs_nil, vs_cons, v_cond, mb_ret, mb_assoc, lift_some_ret, g_get, a_bool, isV_v, so_t, ↓i_ft, q_eq, q_ge, bi_add, veq_str, reduceIte, fin_ret, then_next, then_ret, Nat.sub_self, List.cons_beq_cons, Bool.and_true, hloop, len_s hs, h1, h2, hr, k1, k2]
theorem un_head {us : List Un} (hu : ∀ u ∈ us, isUn u) (hne : us ≠ []) : ∃ c r, uStr us = c :: r ∧ blank c = false := by
  cases us with
  | nil => exact absurd rfl hne
  | cons u us =>
    obtain ⟨ul, c⟩ := u
    rcases hu _ (.head _) with ⟨e, hp⟩ | ⟨k, e, hk⟩
    · simp only at e hp
      subst e
      exact ⟨c, uStr us, by simp [uStr], hp.1⟩
    · simp only at e
      subst e
      exact ⟨92, k :: uStr us, by simp [uStr], rfl⟩
theorem loopLid_eq : loopLid = 99998 + 2 := rfl
theorem us_len {us : List Un} (hu : ∀ u ∈ us, isUn u) : us.length ≤ (uStr us).length := by
  induction us with
  | nil => simp
  | cons u us ih =>
    have := ih fun u h => hu u (.tail _ h)
    have h1 : 1 ≤ u.1.length := by
      rcases hu _ (.head _) with ⟨e, _⟩ | ⟨k, e, _⟩ <;> rw [e] <;> simp
    simp only [uStr, List.flatMap_cons, List.length_append, List.length_cons] at this ⊢
    omega
theorem tok_bare {us : List Un} (hu : ∀ u ∈ us, isUn u) (hne : us ≠ []) (h0 : ∀ c r, uStr us = c :: r → c ≠ 123 ∧ c ≠ 34) : Tok (uStr us) (uVal us) where
  head := un_head hu hne
  read := fun n pre rest t i ht hi hs hst => by
    obtain ⟨c, r, hq, hb⟩ := un_head hu hne
    obtain ⟨h123, h34⟩ := h0 c r hq
    have ht' : t = pre ++ c :: (r ++ rest) := by rw [ht, hq]; simp
    have hl : us.length ≤ 10000 := by
      have h1 := us_len hu
      have h2 : (uStr us).length ≤ t.length := by rw [ht]; simp; omega
      exact Nat.le_trans h1 (Nat.le_trans h2 hs)
    refine find_at (n + 2) hi ht' hs ?_ h34 ?_
    · rw [loopLid_eq]
      exact skip_none (n + 2) 99999 ht' hi hs hb
    · rw [if_neg h123, if_neg h123]
      exact c_bare (n + 1) hu ht hi hs hst hl
theorem tok_brace {e : List Nat} (hb : Bal e 0) : Tok (123 :: (e ++ [125])) e where
  head := ⟨123, e ++ [125], rfl, rfl⟩
  read := fun n pre rest t i ht hi hs hst => by
    have ht' : t = pre ++ 123 :: (e ++ 125 :: rest) := by rw [ht]; simp
    refine find_at (n + 2) hi ht' hs ?_ (by decide) ?_
    · rw [loopLid_eq]
      exact skip_none (n + 2) 99999 ht' hi hs rfl
    · rw [if_pos rfl, if_pos rfl]
      have := c_braced n (pre := pre ++ [123]) (i := i + 1) hb (by rw [ht']; simp) (by subst hi; simp) hs hst
      rw [this]
      have e1 : i + 1 + (e.length : Int) + 1 = i + ((123 :: (e ++ [125])).length : Int) := by simp; omega
      rw [e1]
theorem Tok.read1 {q e : List Nat} (T : Tok q e) (n : Nat) {pre rest t : List Nat} {i : Int} (ht : t = pre ++ 32 :: (q ++ rest)) (hi : i = pre.length) (hs : Small t) (hst : stop rest) : callN (n + 4) 19 [.str t, .int i] = ret (.val (.tup [.str e, .int (i + 1 + q.length)])) := by
  obtain ⟨c, r, hq, hb⟩ := T.head
  have h := T.read n (pre ++ [32]) rest t (i + 1) (by rw [ht]; simp) (by subst hi; simp) hs hst
  rw [← h, call_of (F := f_find_element) rfl _ _ rfl, call_of (F := f_find_element) rfl _ _ rfl]
  have e1 := skip_one (n + 2) (t := t) (pre := pre) (c := c) (tl := r ++ rest) (i := i) 99998 (by rw [ht, hq]; simp) hi hs hb
  have e2 := skip_none (n + 2) (t := t) (pre := pre ++ [32]) (c := c) (tl := r ++ rest) (i := i + 1) 99999 (by rw [ht, hq]; simp) (by subst hi; simp) hs hb
  rw [show 99998 + 2 = loopLid from rfl] at e1
  rw [show 99999 + 1 = loopLid from rfl] at e2
  simp only [f_find_element, nthS_0, wT_w, wB_w] at e1 e2
  simp only [f_find_element, exs_nil, exs_cons, ex_ite, ex_while, ex_ret, v_v, v_c, v_cmp, v_len, v_cond, mb_ret, mb_assoc, lift_some_ret, g_get, gd0, gdS, m_nil, m_cons, r_0, ap_n, ap_c, then_next, then_ret, Nat.sub_self, e1, e2]
theorem find_end (n : Nat) {t : List Nat} {i : Int} (hi : i = t.length) (hs : Small t) : callN (n + 2) 19 [.str t, .int i] = ret (.val .none) := by
  rw [call_of (F := f_find_element) rfl _ _ rfl]
  have h1 : decide (i < (t.length : Int)) = false := by subst hi; simp
  have h2 : decide ((t.length : Int) ≤ i) = true := by subst hi; simp
  have e : loopW (callN (n + 1)) (wT (nthS f_find_element.body 0)) (wB (nthS f_find_element.body 0)) loopLid [some (.val (.str t)), some (.val (.int i))] = ret (.next, [some (.val (.str t)), some (.val (.int i))]) := by
    rw [loopLid_eq, loopW_step]
    simp [f_find_element, nthS_0, wT_w, wB_w, exs_nil, exs_cons, ex_aug, v_v, v_c, v_bo, v_cmp, v_idx, v_call, v_len, vs_nil, vs_cons, vB_nil, vB_cons, v_cond, mb_ret, mb_assoc, lift_some_ret, g_get, g_put, a_bool, isV_v, so_t, ↓i_ft, q_lt, bi_add, ite_and, reduceIte, then_next, Bool.and_true, len_s hs, h1]
  simp only [f_find_element, nthS_0, wT_w, wB_w] at e
  simp [f_find_element, exs_nil, exs_cons, ex_ite, ex_while, ex_ret, v_v, v_c, v_cmp, v_len, v_cond, mb_ret, lift_some_ret, g_get, a_bool, ↓i_tt, q_ge, fin_ret, then_next, then_ret, Nat.sub_self, e, len_s hs, h2]
abbrev Row := List (List Nat × List Nat)
noncomputable def tailS (l : Row) : List Nat := l.flatMap fun x => 32 :: x.1
noncomputable def elems (l : Row) : List V := l.map fun x => V.str x.2
theorem tail_stop (l : Row) : stop (tailS l) := by
  cases l with
  | nil => exact .inl rfl
  | cons x l => exact .inr ⟨x.1 ++ tailS l, by simp [tailS]⟩
theorem split_loop (n : Nat) : ∀ (l : Row) (e : List Nat) (pre t : List Nat) (j : Int) (acc : List V) (m : Nat), (∀ x ∈ l, Tok x.1 x.2) → t = pre ++ tailS l → j = pre.length → Small t → acc.length + l.length ≤ 9999 → l.length + 1 < m →
    loopW (callN (n + 4)) (wT (nthS f_split_list.body 2)) (wB (nthS f_split_list.body 2)) m [some (.val (.str t)), some (.own acc), some (.val (.tup [.str e, .int j]))] = ret (.next, [some (.val (.str t)), some (.own (acc ++ .str e :: elems l)), some (.val .none)])
  | [], e, pre, t, j, acc, m, hl, ht, hj, hs, ha, hm => by
    obtain ⟨m, rfl⟩ : ∃ k, m = k + 2 := ⟨m - 2, by simp at hm; omega⟩
    have hap := app_ok (l := acc) (by simp at ha; exact Nat.le_trans ‹_› (by decide))
    have hf := find_end (n + 2) (t := t) (i := j) (by rw [ht, hj]; simp [tailS]) hs
    rw [loopW_step]
    simp [f_split_list, nthS_0, nthS_S, wT_w, wB_w, exs_nil, exs_cons, ex_set, ex_app, v_v, v_c, v_notNone, v_idx, v_call, vs_nil, vs_cons, v_cond, mb_ret, lift_some_ret, g_get, g_put, a_bool, a_int, isV_v, so_t, ↓i_tt, reduceIte, then_next, Int.reduceLT, hap, idx, hf]
    rw [loopW_step]
    simp [exs_cons, ex_app, v_v, v_c, v_notNone, v_idx, v_cond, mb_ret, mb_assoc, lift_some_ret, g_get, g_put, a_bool, isV_v, so_t, ↓i_ft, reduceIte, elems]
  | x :: l, e, pre, t, j, acc, m, hl, ht, hj, hs, ha, hm => by
    obtain ⟨m, rfl⟩ : ∃ k, m = k + 1 := ⟨m - 1, by simp at hm; exact (Nat.sub_add_cancel (Nat.lt_of_le_of_lt (Nat.zero_le _) ‹_›)).symm⟩
    have hap := app_ok (l := acc) (by simp at ha; exact Nat.le_trans (Nat.le_trans (Nat.le_add_right _ _) ‹_›) (by decide))
    have T := hl x (.head _)
    have hf := T.read1 n (pre := pre) (rest := tailS l) (t := t) (i := j) (by rw [ht]; simp [tailS]) hj hs (tail_stop l)
    have h := split_loop n l x.2 (pre ++ 32 :: x.1) t (j + 1 + x.1.length) (acc ++ [.str e]) m (fun y hy => hl y (.tail _ hy)) (by rw [ht]; simp [tailS]) (by subst hj; simp; exact Int.add_right_comm _ _ _) hs (by simp at ha ⊢; omega) (by simp at hm; assumption)
    have e1 : acc ++ [V.str e] ++ V.str x.2 :: elems l = acc ++ V.str e :: elems (x :: l) := by simp [elems]
    rw [e1] at h
    rw [loopW_step, ← h]
    simp [f_split_list, nthS_0, nthS_S, wT_w, wB_w, exs_nil, exs_cons, ex_set, ex_app, v_v, v_c, v_notNone, v_idx, v_call, vs_nil, vs_cons, v_cond, mb_ret, lift_some_ret, g_get, g_put, a_bool, a_int, isV_v, so_t, ↓i_tt, reduceIte, then_next, Int.reduceLT, hap, idx, hf]
noncomputable def joinS : Row → List Nat
  | [] => []
  | x :: l => x.1 ++ tailS l
theorem c_split (n : Nat) {l : Row} (hl : ∀ x ∈ l, Tok x.1 x.2) (hs : Small (joinS l)) (hn : l.length ≤ 9000) : callN (n + 5) 20 [.str (joinS l)] = ret (.own (elems l)) := by
  rw [call_of (F := f_split_list) rfl _ _ rfl]
  cases l with
  | nil =>
    have hf := find_end (n + 2) (t := []) (i := 0) rfl (Nat.zero_le _)
    have e : loopW (callN (n + 4)) (wT (nthS f_split_list.body 2)) (wB (nthS f_split_list.body 2)) loopLid [some (.val (.str [])), some (.own []), some (.val .none)] = ret (.next, [some (.val (.str [])), some (.own []), some (.val .none)]) := by
      rw [loopLid_eq, loopW_step]
      simp [f_split_list, nthS_0, nthS_S, wT_w, wB_w, exs_cons, ex_app, v_v, v_c, v_notNone, v_idx, v_cond, mb_ret, mb_assoc, lift_some_ret, g_get, g_put, a_bool, isV_v, so_t, ↓i_ft, reduceIte]
    simp only [f_split_list, nthS_0, nthS_S, wT_w, wB_w] at e
    simp [f_split_list, exs_cons, ex_set, ex_newL, ex_while, ex_retOwn, v_v, v_c, v_call, vs_nil, vs_cons, mb_ret, lift_some_ret, g_get, g_put, r_S, fin_ret, then_next, then_ret, Nat.add_one_sub_one, joinS, hf, e, elems]
  | cons x l =>
    have T := hl x (.head _)
    have hf := T.read n [] (tailS l) (joinS (x :: l)) 0 (by simp [joinS]) rfl hs (tail_stop l)
    have h := split_loop n l x.2 x.1 (joinS (x :: l)) (0 + x.1.length) [] loopLid (fun y hy => hl y (.tail _ hy)) (by simp [joinS]) (by simp) hs (by simp at hn ⊢; exact Nat.le_trans ‹_› (by decide)) (by simp at hn; unfold loopLid; omega)
    simp only [f_split_list, nthS_0, nthS_S, wT_w, wB_w] at h
    simp only [f_split_list, exs_cons, ex_set, ex_newL, ex_while, ex_retOwn, v_v, v_c, v_call, vs_nil, vs_cons, mb_ret, lift_some_ret, g_get, g_put, gd0, gdS, st0, stS, m_nil, m_cons, r_0, r_S, ap_n, ap_c, fin_ret, then_next, then_ret, Nat.add_one_sub_one, hf, h]
    rfl
end Lr
end
section
set_option maxRecDepth 100000
open PySem
namespace Lr
noncomputable def lm : List Nat → Int → Bool → Bool → Bool → Option (Int × Bool × Bool × Bool)
  | [], d, b, w, k => some (d, b, w, k)
  | c :: r, d, b, w, k =>
    if c = 123 then lm r (d + 1) b w k
    else if c = 125 then (if d - 1 < 0 then none else lm r (d - 1) b w k)
    else if c = 93 ∨ c = 34 then lm r d true w true
    else if c = 92 then (match r with
      | [] => none
      | x :: r' => if x = 10 then none else if x = 123 ∨ x = 125 ∨ x = 92 then lm r' d true true k else lm (x :: r') d true true k)
    else if c = 91 ∨ c = 36 ∨ c = 59 ∨ blank c = true then lm r d true true k
    else lm r d b w k
termination_by l => l.length
theorem lm_nil (d : Int) (b w k : Bool) : lm [] d b w k = some (d, b, w, k) := by rw [lm.eq_def]
theorem lm_cons (c : Nat) (r : List Nat) (d : Int) (b w k : Bool) : lm (c :: r) d b w k =
    if c = 123 then lm r (d + 1) b w k
    else if c = 125 then (if d - 1 < 0 then none else lm r (d - 1) b w k)
    else if c = 93 ∨ c = 34 then lm r d true w true
    else if c = 92 then (match r with
      | [] => none
      | x :: r' => if x = 10 then none else if x = 123 ∨ x = 125 ∨ x = 92 then lm r' d true true k else lm (x :: r') d true true k)
    else if c = 91 ∨ c = 36 ∨ c = 59 ∨ blank c = true then lm r d true true k
    else lm r d b w k := by
  rw [lm.eq_def]
noncomputable def sBrace : List Nat := [98, 114, 97, 99, 101]
noncomputable def sEscape : List Nat := [101, 115, 99, 97, 112, 101]
noncomputable def sMask : List Nat := [109, 97, 115, 107]
noncomputable def sNone : List Nat := [110, 111, 110, 101]
noncomputable def modeEnd (n : Nat) (t : List Nat) (h bg hs : Option Bd) (y : Option Bd) (ρ : Fm) : Option (Int × Bool × Bool × Bool) → M St
  | none => ret (.ret (.val (.str sEscape)), ρ)
  | some (d, b, w, q) => ret (.next, [some (.val (.str t)), h, bg, some (.val (.bool b)), hs, some (.val (.bool w)), some (.val (.bool q)), some (.val (.int d)), some (.val (.int n)), y])
noncomputable def iA : MS → MSs
  | .ite _ a _ => a
  | _ => .nil
noncomputable def iB : MS → MSs
  | .ite _ _ b => b
  | _ => .nil
noncomputable def mLoop : MS := nthS f_mode_of.body 7
noncomputable def q2 : MS := nthS (wB mLoop) 2
noncomputable def q3 : MS := nthS (iB q2) 0
noncomputable def q4 : MS := nthS (iB q3) 0
noncomputable def q5 : MS := nthS (iB q4) 0
noncomputable def q6 : MS := nthS (iA q5) 2
theorem q2_eq : q2 = .ite (.cmp .eq (.v 9) (.c (V.str [123]))) (.cons (.aug 7 .add (.c (V.int 1))) .nil) (.cons q3 .nil) := rfl
theorem q3_eq : q3 = .ite (.cmp .eq (.v 9) (.c (V.str [125]))) (.cons (.aug 7 .sub (.c (V.int 1))) (.cons (.ite (.cmp .lt (.v 7) (.c (V.int 0))) (.cons (.ret (.c (V.str sEscape))) .nil) .nil) .nil)) (.cons q4 .nil) := rfl
theorem q4_eq : q4 = .ite (.inT false (.v 9) [V.str [93], V.str [34]]) (.cons (.set 3 (.c (V.bool true))) (.cons (.set 6 (.c (V.bool true))) .nil)) (.cons q5 .nil) := rfl
theorem q5_eq : q5 = .ite (.bo false (.cons (.inT false (.v 9) [V.str [91], V.str [36], V.str [59], V.str [92]]) (.cons (.call 2 (.cons (.v 9) .nil)) .nil))) (.cons (.set 3 (.c (V.bool true))) (.cons (.set 5 (.c (V.bool true))) (.cons q6 .nil))) .nil := rfl
theorem q6_eq : q6 = .ite (.cmp .eq (.v 9) (.c (V.str [92]))) (.cons (.ite (.bo false (.cons (.cmp .eq (.v 8) (.len (.v 0))) (.cons (.cmp .eq (.idx (.v 0) (.v 8)) (.c (V.str [10]))) .nil))) (.cons (.ret (.c (V.str sEscape))) .nil) .nil)
    (.cons (.ite (.inT false (.idx (.v 0) (.v 8)) [V.str [123], V.str [125], V.str [92]]) (.cons (.aug 8 .add (.c (V.int 1))) .nil) .nil) .nil)) .nil := rfl
theorem mLoop_eq : mLoop = .while_ (.cmp .lt (.v 8) (.len (.v 0))) (.cons (.set 9 (.idx (.v 0) (.v 8))) (.cons (.aug 8 .add (.c (V.int 1))) (.cons q2 .nil))) := rfl
abbrev f10 (t : List Nat) (h bg hs : Option Bd) (b w q : Bool) (d i : Int) (x : Option Bd) : Fm := [some (.val (.str t)), h, bg, some (.val (.bool b)), hs, some (.val (.bool w)), some (.val (.bool q)), some (.val (.int d)), some (.val (.int i)), x]
section
variable (n : Nat) {t : List Nat} {h bg hs : Option Bd} {b w q : Bool} {d i : Int} {c : Nat}
abbrev sc (c : Nat) : Option Bd := some (.val (.str [c]))
theorem q2_open : ex (callN (n + 1)) (f10 t h bg hs b w q d i (sc 123)) q2 = ret (.next, f10 t h bg hs b w q (d + 1) i (sc 123)) := by
  rw [q2_eq]; simp [exs_nil, exs_cons, ex_aug, ex_ite, v_v, v_c, v_cmp, v_cond, mb_ret, lift_some_ret, g_get, g_put, a_bool, ↓i_tt, q_eq, bi_add, veq_str, then_next]
theorem q2_else (k : (c == 123) = false) : ex (callN (n + 1)) (f10 t h bg hs b w q d i (sc c)) q2 = bnd (ex (callN (n + 1)) (f10 t h bg hs b w q d i (sc c)) q3) (thenS (callN (n + 1)) .nil) := by
  rw [q2_eq]; simp [exs_nil, exs_cons, ex_aug, ex_ite, v_v, v_c, v_cmp, v_cond, mb_ret, lift_some_ret, g_get, g_put, a_bool, ↓i_ft, q_eq, bi_add, veq_str, then_next, List.cons_beq_cons, Bool.and_true, k]
theorem q3_low (k : d - 1 < 0) : ex (callN (n + 1)) (f10 t h bg hs b w q d i (sc 125)) q3 = ret (.ret (.val (.str sEscape)), f10 t h bg hs b w q (d - 1) i (sc 125)) := by
  rw [q3_eq]; simp [exs_nil, exs_cons, ex_aug, ex_ite, ex_ret, v_v, v_c, v_cmp, v_cond, mb_ret, lift_some_ret, g_get, g_put, a_bool, ↓i_tt, q_eq, q_lt, bi_sub, veq_str, then_next, then_ret, decide_true, k]
theorem q3_close (k : ¬ d - 1 < 0) : ex (callN (n + 1)) (f10 t h bg hs b w q d i (sc 125)) q3 = ret (.next, f10 t h bg hs b w q (d - 1) i (sc 125)) := by
  rw [q3_eq]; simp [exs_nil, exs_cons, ex_aug, ex_ite, ex_ret, v_v, v_c, v_cmp, v_cond, mb_ret, lift_some_ret, g_get, g_put, a_bool, ↓i_tt, ↓i_ft, q_eq, q_lt, bi_sub, veq_str, then_next, then_ret, decide_false, k]
theorem q3_else (k : (c == 125) = false) : ex (callN (n + 1)) (f10 t h bg hs b w q d i (sc c)) q3 = bnd (ex (callN (n + 1)) (f10 t h bg hs b w q d i (sc c)) q4) (thenS (callN (n + 1)) .nil) := by
  rw [q3_eq]; simp [exs_nil, exs_cons, ex_aug, ex_ite, ex_ret, v_v, v_c, v_cmp, v_cond, mb_ret, lift_some_ret, g_get, g_put, a_bool, ↓i_ft, q_eq, q_lt, bi_sub, veq_str, then_next, then_ret, List.cons_beq_cons, Bool.and_true, decide_eq_true_eq, k]
theorem q4_in (k : c = 93 ∨ c = 34) : ex (callN (n + 1)) (f10 t h bg hs b w q d i (sc c)) q4 = ret (.next, f10 t h bg hs true w true d i (sc c)) := by
  rw [q4_eq]; rcases k with rfl | rfl <;> simp [exs_nil, exs_cons, ex_set, ex_ite, v_v, v_c, v_inT, v_cond, mb_ret, lift_some_ret, g_get, g_put, a_bool, ↓i_tt, inConsts_nil, inConsts_str, then_next, Nat.reduceBEq, List.cons_beq_cons, Bool.and_true, Bool.bne_false]
theorem q4_else (k3 : (c == 93) = false) (k4 : (c == 34) = false) : ex (callN (n + 1)) (f10 t h bg hs b w q d i (sc c)) q4 = bnd (ex (callN (n + 1)) (f10 t h bg hs b w q d i (sc c)) q5) (thenS (callN (n + 1)) .nil) := by
  rw [q4_eq]; simp [exs_nil, exs_cons, ex_set, ex_ite, v_v, v_c, v_inT, v_cond, mb_ret, lift_some_ret, g_get, g_put, a_bool, ↓i_ft, inConsts_nil, inConsts_str, then_next, List.cons_beq_cons, Bool.and_true, Bool.bne_false, k3, k4]
theorem q5_in (k : c = 91 ∨ c = 36 ∨ c = 59 ∨ c = 92 ∨ blank c = true) : ex (callN (n + 1)) (f10 t h bg hs b w q d i (sc c)) q5 = bnd (ex (callN (n + 1)) (f10 t h bg hs true true q d i (sc c)) q6) (thenS (callN (n + 1)) .nil) := by
  rw [q5_eq]
  by_cases k6 : c = 91 ∨ c = 36 ∨ c = 59 ∨ c = 92
  · rcases k6 with rfl | rfl | rfl | rfl <;> simp [exs_nil, exs_cons, ex_set, ex_ite, v_v, v_c, v_bo, v_inT, v_call, vs_nil, vs_cons, vB_nil, vB_cons, v_cond, mb_ret, mb_assoc, lift_some_ret, g_get, g_put, a_bool, ↓i_tt, ↓i_tf, inConsts_nil, inConsts_str, ite_or, then_next, Bool.or_false, Nat.reduceBEq, List.cons_beq_cons, Bool.and_true, Bool.bne_false]
  · have hb : blank c = true := by
      simp only [not_or] at k6
      rcases k with k | k | k | k | k
      · exact absurd k k6.1
      · exact absurd k k6.2.1
      · exact absurd k k6.2.2.1
      · exact absurd k k6.2.2.2
      · exact k
    simp only [not_or] at k6
    have c2 : (c == 91) = false := by simpa using k6.1
    have c3 : (c == 36) = false := by simpa using k6.2.1
    have c4 : (c == 59) = false := by simpa using k6.2.2.1
    have c5 : (c == 92) = false := by simpa using k6.2.2.2
    simp [exs_nil, exs_cons, ex_set, ex_ite, v_v, v_c, v_bo, v_inT, v_call, vs_nil, vs_cons, vB_nil, vB_cons, v_cond, mb_ret, lift_some_ret, g_get, g_put, a_bool, ↓i_tt, inConsts_nil, inConsts_str, ite_or, then_next, Bool.or_true, Bool.or_false, List.cons_beq_cons, Bool.and_true, Bool.bne_false, c2, c3, c4, c5, c_blank, hb]
theorem q5_else (c2 : (c == 91) = false) (c3 : (c == 36) = false) (c4 : (c == 59) = false) (c5 : (c == 92) = false) (hb : blank c = false) : ex (callN (n + 1)) (f10 t h bg hs b w q d i (sc c)) q5 = ret (.next, f10 t h bg hs b w q d i (sc c)) := by
  rw [q5_eq]
  simp [exs_nil, exs_cons, ex_set, ex_ite, v_v, v_c, v_bo, v_inT, v_call, vs_nil, vs_cons, vB_nil, vB_cons, v_cond, mb_ret, lift_some_ret, g_get, g_put, a_bool, ↓i_ft, inConsts_nil, inConsts_str, ite_or, then_next, Bool.or_false, List.cons_beq_cons, Bool.and_true, Bool.bne_false, c2, c3, c4, c5, c_blank, hb]
theorem q6_else (c5 : (c == 92) = false) : ex (callN (n + 1)) (f10 t h bg hs b w q d i (sc c)) q6 = ret (.next, f10 t h bg hs b w q d i (sc c)) := by
  rw [q6_eq]
  simp [exs_nil, exs_cons, ex_ite, ex_ret, v_v, v_c, v_bo, v_cmp, v_idx, v_len, vB_nil, vB_cons, v_cond, mb_ret, mb_assoc, lift_some_ret, g_get, a_bool, isV_v, so_t, ↓i_ft, q_eq, veq_str, ite_or, reduceIte, then_ret, Bool.or_false, List.cons_beq_cons, Bool.and_true, c5]
theorem q6_end (hs' : Small t) (k : (i == (t.length : Int)) = true) : ex (callN (n + 1)) (f10 t h bg hs b w q d i (sc 92)) q6 = ret (.ret (.val (.str sEscape)), f10 t h bg hs b w q d i (sc 92)) := by
  rw [q6_eq]
  simp [exs_nil, exs_cons, ex_ite, ex_ret, v_v, v_c, v_bo, v_cmp, v_idx, v_len, vB_nil, vB_cons, v_cond, mb_ret, mb_assoc, lift_some_ret, g_get, a_bool, isV_v, so_t, ↓i_tt, ↓i_tf, q_eq, veq_str, veq_int, ite_or, reduceIte, then_ret, Bool.or_false, len_s hs', k]
theorem q6_nl (hs' : Small t) (k : (i == (t.length : Int)) = false) (k2 : idx (.str t) (.int i) = some (.str [10])) : ex (callN (n + 1)) (f10 t h bg hs b w q d i (sc 92)) q6 = ret (.ret (.val (.str sEscape)), f10 t h bg hs b w q d i (sc 92)) := by
  rw [q6_eq]
  simp [exs_nil, exs_cons, ex_ite, ex_ret, v_v, v_c, v_bo, v_cmp, v_idx, v_len, vB_nil, vB_cons, v_cond, mb_ret, lift_some_ret, g_get, a_bool, isV_v, so_t, ↓i_tt, q_eq, veq_str, veq_int, ite_or, reduceIte, then_ret, Bool.or_true, Bool.or_false, len_s hs', k, k2]
theorem q6_skip {z : Nat} (hs' : Small t) (k : (i == (t.length : Int)) = false) (k2 : idx (.str t) (.int i) = some (.str [z])) (hz : z = 123 ∨ z = 125 ∨ z = 92) : ex (callN (n + 1)) (f10 t h bg hs b w q d i (sc 92)) q6 = ret (.next, f10 t h bg hs b w q d (i + 1) (sc 92)) := by
  rw [q6_eq]
  rcases hz with rfl | rfl | rfl <;> simp [exs_nil, exs_cons, ex_aug, ex_ite, ex_ret, v_v, v_c, v_bo, v_cmp, v_inT, v_idx, v_len, vB_nil, vB_cons, v_cond, mb_ret, lift_some_ret, g_get, g_put, a_bool, isV_v, so_t, ↓i_tt, ↓i_ft, q_eq, bi_add, veq_str, veq_int, inConsts_nil, inConsts_str, ite_or, reduceIte, then_next, then_ret, Bool.or_false, Nat.reduceBEq, List.cons_beq_cons, Bool.and_true, Bool.bne_false, len_s hs', k, k2]
theorem q6_on {z : Nat} (hs' : Small t) (k : (i == (t.length : Int)) = false) (k2 : idx (.str t) (.int i) = some (.str [z])) (z1 : (z == 10) = false) (z2 : (z == 123) = false) (z3 : (z == 125) = false) (z4 : (z == 92) = false) : ex (callN (n + 1)) (f10 t h bg hs b w q d i (sc 92)) q6 = ret (.next, f10 t h bg hs b w q d i (sc 92)) := by
  rw [q6_eq]
  simp [exs_nil, exs_cons, ex_aug, ex_ite, ex_ret, v_v, v_c, v_bo, v_cmp, v_inT, v_idx, v_len, vB_nil, vB_cons, v_cond, mb_ret, lift_some_ret, g_get, g_put, a_bool, isV_v, so_t, ↓i_ft, q_eq, bi_add, veq_str, veq_int, inConsts_nil, inConsts_str, ite_or, reduceIte, then_next, then_ret, Bool.or_false, List.cons_beq_cons, Bool.and_true, Bool.bne_false, len_s hs', k, k2, z1, z2, z3, z4]
noncomputable def turnK (C : Nat → List V → M Bd) (T : ME) (B : MSs) (m : Nat) : St → M St
  | (.next, ρ') => loopW C T B m ρ'
  | (.brk, ρ') => ret (.next, ρ')
  | (.ret v, ρ') => ret (.ret v, ρ')
theorem turnK_next (C : Nat → List V → M Bd) (T : ME) (B : MSs) (m : Nat) (ρ : Fm) : turnK C T B m (.next, ρ) = loopW C T B m ρ := rfl
theorem turnK_ret (C : Nat → List V → M Bd) (T : ME) (B : MSs) (m : Nat) (v : Bd) (ρ : Fm) : turnK C T B m (.ret v, ρ) = ret (.ret v, ρ) := rfl
theorem loopW_turn (C : Nat → List V → M Bd) (T : ME) (B : MSs) (m : Nat) (ρ : Fm) : loopW C T B (m + 1) ρ = bnd (cond C ρ T) fun c => if c then bnd (exs C ρ B) (turnK C T B m) else ret (.next, ρ) := by
  rw [loopW_step]
  congr 1
theorem mode_turn {pre tl : List Nat} {x : Option Bd} (m : Nat) (ht : t = pre ++ c :: tl) (hi : i = pre.length) (hs' : Small t) : loopW (callN (n + 1)) (wT mLoop) (wB mLoop) (m + 1) (f10 t h bg hs b w q d i x) =
    bnd (ex (callN (n + 1)) (f10 t h bg hs b w q d (i + 1) (sc c)) q2) fun s => bnd (thenS (callN (n + 1)) .nil s) (turnK (callN (n + 1)) (wT mLoop) (wB mLoop) m) := by
  have h1 := lt_mid ht hi
  have h2 := idx_mid ht hi hs'
  rw [loopW_turn]
  generalize turnK (callN (n + 1)) (wT mLoop) (wB mLoop) m = K
  have e1 : wT mLoop = .cmp .lt (.v 8) (.len (.v 0)) := rfl
  have e2 : wB mLoop = .cons (.set 9 (.idx (.v 0) (.v 8))) (.cons (.aug 8 .add (.c (V.int 1))) (.cons q2 .nil)) := rfl
  rw [e1, e2]
  simp [exs_cons, ex_set, ex_aug, v_v, v_c, v_cmp, v_idx, v_len, v_cond, mb_ret, mb_assoc, lift_some_ret, g_get, g_put, a_bool, isV_v, so_t, ↓i_tt, q_lt, bi_add, reduceIte, then_next, len_s hs', h1, h2]
end
theorem mode_loop (n : Nat) (h bg hs : Option Bd) : ∀ (k : Nat) (r : List Nat), r.length ≤ k → ∀ (pre t : List Nat) (i d : Int) (b w q : Bool) (m : Nat) (x : Option Bd), t = pre ++ r → i = pre.length → Small t → r.length < m →
    ∃ y ρ', loopW (callN (n + 1)) (wT mLoop) (wB mLoop) m (f10 t h bg hs b w q d i x) = modeEnd t.length t h bg hs y ρ' (lm r d b w q) := by
  intro k
  induction k with
  | zero =>
    intro r hk pre t i d b w q m x ht hi hs' hm
    have : r = [] := List.length_eq_zero_iff.mp (Nat.le_zero.mp hk)
    subst this
    obtain ⟨m, rfl⟩ : ∃ k, m = k + 1 := ⟨m - 1, by exact (Nat.sub_add_cancel (Nat.lt_of_le_of_lt (Nat.zero_le _) ‹_›)).symm⟩
    have h1 : decide (i < (t.length : Int)) = false := by subst ht hi; simp
    have h2 : i = (t.length : Int) := by subst ht hi; simp
    refine ⟨x, [], ?_⟩
    have hc : cond (callN (n + 1)) (f10 t h bg hs b w q d i x) (wT mLoop) = ret false := by
      rw [show wT mLoop = .cmp .lt (.v 8) (.len (.v 0)) from rfl]
      simp [v_v, v_cmp, v_len, v_cond, mb_ret, lift_some_ret, g_get, a_bool, q_lt, len_s hs', h1]
    rw [loopW_turn, hc, mb_ret, lm_nil, modeEnd, if_neg Bool.false_ne_true, h2]
  | succ k ih =>
    intro r hk pre t i d b w q m x ht hi hs' hm
    cases r with
    | nil => exact ih [] (Nat.zero_le _) pre t i d b w q m x ht hi hs' hm
    | cons c r =>
      obtain ⟨m, rfl⟩ : ∃ k, m = k + 1 := ⟨m - 1, by exact (Nat.sub_add_cancel (Nat.lt_of_le_of_lt (Nat.zero_le _) ‹_›)).symm⟩
      rw [List.length_cons] at hk hm
      have go : ∀ (d' : Int) (b' w' q' : Bool) (x' : Option Bd), ∃ y ρ', loopW (callN (n + 1)) (wT mLoop) (wB mLoop) m (f10 t h bg hs b' w' q' d' (i + 1) x') = modeEnd t.length t h bg hs y ρ' (lm r d' b' w' q') :=
        fun d' b' w' q' x' => ih r (by exact Nat.le_of_succ_le_succ ‹_›) (pre ++ [c]) t (i + 1) d' b' w' q' m x' (by rw [ht]; simp) (by subst hi; simp) hs' (by exact Nat.le_of_succ_le_succ ‹_›)
      have turn := mode_turn n (h := h) (bg := bg) (hs := hs) (b := b) (w := w) (q := q) (d := d) (x := x) m ht hi hs'
      rw [turn, lm_cons]
      by_cases k1 : c = 123
      · subst k1
        rw [if_pos rfl, q2_open]
        simp only [mb_ret, then_next, exs_nil, turnK_next]
        exact go (d + 1) b w q (sc 123)
      rw [if_neg k1]
      have b1 : (c == 123) = false := by simpa using k1
      rw [q2_else n b1]
      by_cases k2 : c = 125
      · subst k2
        rw [if_pos rfl]
        by_cases hd : d - 1 < 0
        · rw [if_pos hd, q3_low n hd]
          simp only [mb_ret, then_ret, turnK_ret]
          exact ⟨none, _, rfl⟩
        · rw [if_neg hd, q3_close n hd]
          simp only [mb_ret, then_next, exs_nil, turnK_next]
          exact go (d - 1) b w q (sc 125)
      rw [if_neg k2]
      have b2 : (c == 125) = false := by simpa using k2
      rw [q3_else n b2]
      by_cases k3 : c = 93 ∨ c = 34
      · rw [if_pos k3, q4_in n k3]
        simp only [mb_ret, then_next, exs_nil, turnK_next]
        exact go d true w true (sc c)
      rw [if_neg k3]
      have b3 : (c == 93) = false := by simp only [not_or] at k3; simpa using k3.1
      have b4 : (c == 34) = false := by simp only [not_or] at k3; simpa using k3.2
      rw [q4_else n b3 b4]
      by_cases k4 : c = 92
      · subst k4
        rw [if_pos rfl, q5_in n (by simp)]
        cases r with
        | nil =>
          have h5 : (i + 1 == (t.length : Int)) = true := by subst ht hi; simp
          rw [q6_end n hs' h5]
          simp only [mb_ret, then_ret, turnK_ret]
          exact ⟨none, _, rfl⟩
        | cons z r =>
          have h5 : (i + 1 == (t.length : Int)) = false := by subst ht hi; simp; omega
          have h6 := idx_mid (t := t) (pre := pre ++ [92]) (c := z) (tl := r) (i := i + 1) (by rw [ht]; simp) (by subst hi; simp) hs'
          dsimp only
          by_cases z1 : z = 10
          · subst z1
            rw [if_pos rfl, q6_nl n hs' h5 h6]
            simp only [mb_ret, then_ret, turnK_ret]
            exact ⟨none, _, rfl⟩
          rw [if_neg z1]
          have c1 : (z == 10) = false := by simpa using z1
          by_cases z2 : z = 123 ∨ z = 125 ∨ z = 92
          · rw [if_pos z2, q6_skip n hs' h5 h6 z2]
            simp only [mb_ret, then_next, exs_nil, turnK_next]
            exact ih r (by simp at hk; exact Nat.le_of_lt ‹_›) (pre ++ [92, z]) t (i + 1 + 1) d true true q m (sc 92) (by rw [ht]; simp) (by subst hi; simp; omega) hs' (by simp at hm; exact Nat.le_of_lt ‹_›)
          · rw [if_neg z2]
            simp only [not_or] at z2
            have c2 : (z == 123) = false := by simpa using z2.1
            have c3 : (z == 125) = false := by simpa using z2.2.1
            have c4 : (z == 92) = false := by simpa using z2.2.2
            rw [q6_on n hs' h5 h6 c1 c2 c3 c4]
            simp only [mb_ret, then_next, exs_nil, turnK_next]
            exact go d true true q (sc 92)
      rw [if_neg k4]
      have b5 : (c == 92) = false := by simpa using k4
      by_cases k5 : c = 91 ∨ c = 36 ∨ c = 59 ∨ blank c = true
      · rw [if_pos k5, q5_in n (by rcases k5 with k | k | k | k <;> simp [k]), q6_else n b5]
        simp only [mb_ret, then_next, exs_nil, turnK_next]
        exact go d true true q (sc c)
      · rw [if_neg k5]
        simp only [not_or] at k5
        have c2 : (c == 91) = false := by simpa using k5.1
        have c3 : (c == 36) = false := by simpa using k5.2.1
        have c4 : (c == 59) = false := by simpa using k5.2.2.1
        have hb : blank c = false := by simpa using k5.2.2.2
        rw [q5_else n c2 c3 c4 b5 hb]
        simp only [mb_ret, then_next, exs_nil, turnK_next]
        exact go d b w q (sc c)
end Lr
end
section
set_option maxRecDepth 100000
open PySem
namespace Lr
noncomputable def modeP (e : List Nat) (h : Bool) : List Nat :=
  match e with
  | [] => sBrace
  | c :: _ =>
    let b0 := c == 123 || c == 34
    let hs := h && c == 35
    match lm e 0 b0 (b0 || hs) false with
    | none => sEscape
    | some (d, b, w, q) => if 0 < d then sEscape else if b then (if q && !w then sMask else sBrace) else if hs then sBrace else sNone
theorem mbody_eq : f_mode_of.body = .cons (.ite (.cmp .eq (.v 0) (.c (V.str []))) (.cons (.ret (.c (V.str sBrace))) .nil) .nil) (.cons (.set 2 (.idx (.v 0) (.c (V.int 0)))) (.cons (.set 3 (.inT false (.v 2) [V.str [123], V.str [34]])) (.cons (.set 4 (.bo true (.cons (.v 1) (.cons (.cmp .eq (.v 2) (.c (V.str [35]))) .nil)))) (.cons (.set 5 (.bo false (.cons (.v 3) (.cons (.v 4) .nil)))) (.cons (.set 6 (.c (V.bool false))) (.cons (.pair 7 8 (.c (V.int 0)) (.c (V.int 0))) (.cons mLoop
  (.cons (.ite (.cmp .gt (.v 7) (.c (V.int 0))) (.cons (.ret (.c (V.str sEscape))) .nil) .nil) (.cons (.ite (.v 3) (.cons (.ret (.ifx (.bo true (.cons (.v 6) (.cons (.not (.v 5)) .nil))) (.c (V.str sMask)) (.c (V.str sBrace)))) .nil) .nil) (.cons (.ret (.ifx (.v 4) (.c (V.str sBrace)) (.c (V.str sNone)))) .nil)))))))))) := rfl
theorem c_mode (n : Nat) {e : List Nat} {h : Bool} (hs : Small e) : callN (n + 2) 21 [.str e, .bool h] = ret (.val (.str (modeP e h))) := by
  rw [call_of (F := f_mode_of) rfl _ _ rfl]
  cases e with
  | nil => simp [f_mode_of, exs_nil, exs_cons, ex_ite, ex_ret, v_v, v_c, v_cmp, v_cond, mb_ret, lift_some_ret, g_get, a_bool, ↓i_tt, r_S, q_eq, veq_str, fin_ret, then_ret, Nat.reduceSub, modeP, sBrace]
  | cons c r =>
    have h0 : idx (.str (c :: r)) (.int 0) = some (.str [c]) := by
      have := idx_mid (t := c :: r) (pre := []) (c := c) (tl := r) (i := 0) rfl rfl hs
      exact this
    obtain ⟨y, ρ', hl⟩ := mode_loop n (some (.val (.bool h))) (some (.val (.str [c]))) (some (.val (.bool (h && c == 35)))) (c :: r).length (c :: r) (Nat.le_refl _) [] (c :: r) 0 0 (c == 123 || c == 34) ((c == 123 || c == 34) || (h && c == 35)) false loopLid none rfl rfl hs (Nat.lt_of_le_of_lt hs (by decide))
    have hm : ∀ ρ, ex (callN (n + 1)) ρ mLoop = loopW (callN (n + 1)) (wT mLoop) (wB mLoop) loopLid ρ := fun ρ => by rw [mLoop_eq, ex_while]; rfl
    rw [show f_mode_of.nloc - f_mode_of.arity = 8 from rfl, mbody_eq]
    simp only [exs_nil, exs_cons, ex_set, ex_pair, ex_ite, ex_ret, v_v, v_c, v_bo, v_cmp, v_inT, v_idx, vB_nil, vB_cons, v_cond, mb_ret, mb_assoc, lift_some_ret, g_get, g_put, gd0, gdS, st0, stS, a_bool, isV_v, so_t, ↓i_ft, m_nil, m_cons, r_0, r_S, ap_n, ap_c, q_eq, o_some, veq_str, inConsts_nil, inConsts_str, ite_and, ite_or, if_true, then_next, then_ret, Bool.or_false, beq_cn, List.cons_beq_cons, Bool.and_true, beq_self_eq_true, Bool.bne_false, h0, hm, hl]
    cases hlm : lm (c :: r) 0 (c == 123 || c == 34) ((c == 123 || c == 34) || (h && c == 35)) false with
    | none => simp [modeEnd, modeP, hlm, mb_ret, fin_ret, then_ret]
    | some z =>
      obtain ⟨d, b, w, q⟩ := z
      simp only [modeEnd, modeP, hlm, exs_nil, exs_cons, ex_ite, ex_ret, v_v, v_c, v_cmp, v_cond, mb_ret, mb_assoc, lift_some_ret, g_get, gd0, gdS, a_bool, q_gt, o_some, then_next, then_ret, decide_eq_true_eq]
      by_cases hd : 0 < d
      · simp [hd, sEscape, mb_ret, reduceIte, fin_ret, then_ret]
      · rw [if_neg hd]
        simp only [exs_nil, exs_cons, ex_ite, ex_ret, v_v, v_c, v_bo, v_not, v_ifx, vB_nil, vB_cons, v_cond, mb_ret, mb_assoc, lift_some_ret, g_get, gd0, gdS, a_bool, ite_and, if_false, then_next, then_ret, Bool.and_true, hd]
        generalize (h && c == 35) = hh
        cases b <;> cases w <;> cases q <;> cases hh <;> rfl
end Lr
end
section
set_option maxRecDepth 100000
open PySem
namespace Lr
noncomputable def signs : List Nat := [97, 98, 123, 125, 34, 92, 91, 93, 36, 35, 59, 32, 10, 233]
noncomputable def Sg (l : List Nat) : Prop := ∀ c ∈ l, c ∈ signs
noncomputable def escF (deep : Bool) (c : Nat) : List Nat :=
  if c = 10 then [92, 110] else if c ∈ [93, 91, 36, 59, 32, 92, 34] ∨ deep = true ∧ c ∈ [123, 125] then [92, c] else [c]
theorem sg_cases {c : Nat} (h : c ∈ signs) : c = 97 ∨ c = 98 ∨ c = 123 ∨ c = 125 ∨ c = 34 ∨ c = 92 ∨ c = 91 ∨ c = 93 ∨ c = 36 ∨ c = 35 ∨ c = 59 ∨ c = 32 ∨ c = 10 ∨ c = 233 := by
  simpa only [signs, List.mem_cons, List.not_mem_nil, or_false] using h
theorem c_escaped (n : Nat) {c : Nat} (h : c ∈ signs) (deep : Bool) : callN (n + 1) 22 [.str [c], .bool deep] = ret (.val (.str (escF deep c))) := by
  rcases sg_cases h with rfl | rfl | rfl | rfl | rfl | rfl | rfl | rfl | rfl | rfl | rfl | rfl | rfl | rfl <;> cases deep <;> exact funext fun p => by kernel_rfl
theorem quote_loop (n : Nat) (t hv bm : Option Bd) (m : List Nat) : ∀ (e : List Nat) (acc : List V) (x : Option Bd), Sg e → acc.length + e.length ≤ 10000 →
    ∃ y, loopL (callN (n + 1)) 4 (wB (nthS f_quote.body 5)) (signs1 e) [t, hv, some (.val (.str m)), some (.own acc), x] = ret (.next, [t, hv, some (.val (.str m)), some (.own (acc ++ e.map fun c => V.str (escF (m == sEscape) c))), y])
  | [], acc, x, _, _ => ⟨x, by simp [signs1, loopL_nil]⟩
  | c :: e, acc, x, hg, ha => by
    have hap := app_ok (l := acc) (by simp at ha; exact Nat.le_trans (Nat.le_add_right _ _) ‹_›)
    obtain ⟨y, h⟩ := quote_loop n t hv bm m e (acc ++ [V.str (escF (m == sEscape) c)]) (some (.val (.str [c]))) (fun z hz => hg z (.tail _ hz)) (by simp at ha ⊢; omega)
    refine ⟨y, ?_⟩
    have e1 : acc ++ [V.str (escF (m == sEscape) c)] ++ e.map (fun c => V.str (escF (m == sEscape) c)) = acc ++ (c :: e).map fun c => V.str (escF (m == sEscape) c) := by simp
    rw [e1] at h
    have he := c_escaped n (hg c (.head _)) (m == sEscape)
    rw [sEscape] at he
    rw [← h, signs1, List.map_cons, loopL_cons]
    simp [f_quote, nthS_0, nthS_S, wB_s, exs_nil, exs_cons, ex_app, v_v, v_c, v_cmp, v_call, vs_nil, vs_cons, mb_ret, lift_some_ret, g_get, g_put, q_eq, veq_str, reduceIte, then_next, he, hap, sEscape, signs1]
noncomputable def isHash (e : List Nat) : Bool := match e with
  | c :: _ => c == 35
  | [] => false
noncomputable def quoteP (e : List Nat) (h : Bool) : List Nat :=
  let m := modeP e h
  if m = sNone then e else if m = sBrace then 123 :: (e ++ [125]) else (if h && isHash e then [92] else []) ++ e.flatMap (escF (m == sEscape))
theorem escF_len (deep : Bool) (c : Nat) : (escF deep c).length ≤ 2 := by
  unfold escF
  repeat' split
  all_goals simp
theorem esc_sum (deep : Bool) : ∀ (e : List Nat), (e.flatMap (escF deep)).length ≤ 2 * e.length
  | [] => by simp
  | c :: e => by
    have := esc_sum deep e
    have := escF_len deep c
    simp only [List.flatMap_cons, List.length_append, List.length_cons]
    omega
theorem quote_len (e : List Nat) (h : Bool) : (quoteP e h).length ≤ 2 * e.length + 2 := by
  unfold quoteP
  dsimp only
  split
  · omega
  · split
    · simp; omega
    · have := esc_sum (modeP e h == sEscape) e
      rw [List.length_append]
      split
      · simp only [List.length_cons, List.length_nil]; omega
      · simp only [List.length_nil]; omega
theorem map_flat (f : Nat → List Nat) : ∀ (e : List Nat), (e.map f).flatten = e.flatMap f
  | [] => rfl
  | c :: e => by rw [List.map_cons, List.flatten_cons, List.flatMap_cons, map_flat f e]
theorem mode_cons (e : List Nat) (h : Bool) : modeP e h = sBrace ∨ ∃ c r, e = c :: r := by
  cases e with
  | nil => exact .inl rfl
  | cons c r => exact .inr ⟨c, r, rfl⟩
theorem mkS_ok {l : List Nat} (h : l.length ≤ 100000) : mkS l = some (.str l) := by
  unfold mkS
  rw [if_pos (Nat.le_trans h (by decide))]
theorem flat_lens (f : Nat → List Nat) : ∀ e : List Nat, ((e.map f).map (·.length)).sum = (e.flatMap f).length
  | [] => rfl
  | c :: e => by
    have := flat_lens f e
    simp only [List.map_cons, List.sum_cons, List.flatMap_cons, List.length_append]
    omega
theorem c_quote (n : Nat) {e : List Nat} {h : Bool} (hg : Sg e) (hl : e.length ≤ 1000) : callN (n + 3) 23 [.str e, .bool h] = ret (.val (.str (quoteP e h))) := by
  have hs : Small e := Nat.le_trans hl (by decide)
  have hm := c_mode n (h := h) hs
  rw [call_of (F := f_quote) rfl _ _ rfl]
  unfold quoteP
  dsimp only
  generalize hmo : modeP e h = m at hm
  by_cases h1 : m = sNone
  · subst h1
    simp [f_quote, exs_nil, exs_cons, ex_set, ex_ite, ex_ret, v_v, v_c, v_cmp, v_call, vs_nil, vs_cons, v_cond, mb_ret, lift_some_ret, g_get, g_put, a_bool, ↓i_tt, r_S, q_eq, veq_str, reduceIte, fin_ret, then_next, then_ret, Nat.reduceSub, hm, sNone]
  by_cases h2 : m = sBrace
  · subst h2
    have k1 : mkS (123 :: e) = some (.str (123 :: e)) := mkS_ok (by simp; exact Nat.le_trans ‹_› (by decide))
    have k2 : mkS (123 :: (e ++ [125])) = some (.str (123 :: (e ++ [125]))) := mkS_ok (by simp; exact Nat.le_trans ‹_› (by decide))
    simp [f_quote, exs_nil, exs_cons, ex_set, ex_ite, ex_ret, v_v, v_c, v_bin, v_cmp, v_call, vs_nil, vs_cons, v_cond, mb_ret, lift_some_ret, g_get, g_put, a_bool, ↓i_tt, ↓i_ft, r_S, q_eq, bi_adds, veq_str, reduceIte, fin_ret, then_next, then_ret, Nat.reduceSub, Nat.reduceBEq, List.cons_beq_cons, Bool.and_self, hm, sBrace, sNone, k1, k2]
  rw [if_neg h1, if_neg h2]
  have b1 : (m == sNone) = false := by simpa using h1
  have b2 : (m == sBrace) = false := by simpa using h2
  rw [sNone] at b1
  rw [sBrace] at b2
  obtain ⟨c, r, rfl⟩ : ∃ c r, e = c :: r := by
    rcases mode_cons e h with h | h
    · exact absurd (hmo.symm.trans h) h2
    · exact h
  have h0 : idx (.str (c :: r)) (.int 0) = some (.str [c]) := idx_mid (t := c :: r) (pre := []) (c := c) (tl := r) (i := 0) rfl rfl hs
  have nl : (0 : Nat) < lid := by decide
  have J : ∀ pre : List (List Nat), pre.length ≤ 1 → (pre.map (·.length)).sum ≤ 1 → joinV (.str []) (pre.map V.str ++ (c :: r).map fun c => V.str (escF (m == sEscape) c)) = some (.str (pre.flatten ++ (c :: r).flatMap (escF (m == sEscape)))) := fun pre hp hp2 => by
    have : pre.map V.str ++ ((c :: r).map fun c => V.str (escF (m == sEscape) c)) = (pre ++ (c :: r).map (escF (m == sEscape))).map V.str := by simp
    rw [this, joinV_e, List.flatten_append, map_flat]
    rw [List.map_append, List.sum_append, flat_lens]
    have := esc_sum (m == sEscape) (c :: r)
    omega
  cases hh : (h && isHash (c :: r)) with
  | true =>
    obtain ⟨rfl, hc⟩ := Bool.and_eq_true_iff.mp hh
    have hc' : (c == 35) = true := hc
    obtain ⟨y, hq⟩ := quote_loop (n + 1) (some (.val (.str (c :: r)))) (some (.val (.bool true))) none m (c :: r) [V.str [92]] none hg (by simp at hl ⊢; omega)
    have hj := J [[92]] (by simp) (by simp)
    simp only [f_quote, nthS_0, nthS_S, wB_s, signs1] at hq
    simp only [List.map_cons, List.map_nil, List.cons_append, List.nil_append, List.flatten_cons, List.flatten_nil] at hj hq
    simp only [f_quote, exs_nil, exs_cons, ex_set, ex_newL, ex_app, ex_ite, ex_forS, ex_ret, v_v, v_c, v_bin, v_bo, v_cmp, v_idx, v_call, v_joinV, vs_nil, vs_cons, vB_nil, vB_cons, v_cond, mb_ret, mb_assoc, lift_some_ret, g_get, g_put, gd0, gdS, st0, stS, a_bool, a_str, isV_v, so_t, ↓i_tt, ↓i_ft, m_nil, m_cons, r_0, r_S, ap_n, ap_c, q_eq, bi_adds, o_some, veq_str, ite_and, if_true, fin_ret, then_next, then_ret, Nat.reduceSub, List.cons_beq_cons, Bool.and_true, beq_self_eq_true, Bool.and_self, hm, b1, b2, h0, hc', nl, List.length_nil, hq, hj]
  | false =>
    obtain ⟨y, hq⟩ := quote_loop (n + 1) (some (.val (.str (c :: r)))) (some (.val (.bool h))) none m (c :: r) [] none hg (by simp at hl ⊢; exact Nat.le_of_succ_le_succ ‹_›)
    have hj := J [] (by simp) (by simp)
    simp only [f_quote, nthS_0, nthS_S, wB_s, signs1] at hq
    have hh' : (h && (c == 35)) = false := hh
    simp only [List.map_cons, List.map_nil, List.nil_append, List.flatten_nil] at hj hq
    simp only [f_quote, exs_nil, exs_cons, ex_set, ex_newL, ex_app, ex_ite, ex_forS, ex_ret, v_v, v_c, v_bin, v_bo, v_cmp, v_idx, v_call, v_joinV, vs_nil, vs_cons, vB_nil, vB_cons, v_cond, mb_ret, mb_assoc, lift_some_ret, g_get, g_put, gd0, gdS, st0, stS, a_bool, a_str, isV_v, so_t, ↓i_ft, m_nil, m_cons, r_0, r_S, ap_n, ap_c, q_eq, bi_adds, o_some, veq_str, ite_and, if_true, fin_ret, then_next, then_ret, Nat.reduceSub, List.cons_beq_cons, Bool.and_true, beq_self_eq_true, hm, b1, b2, h0, nl, List.length_nil, hh', hq, hj]
end Lr
end
section
set_option maxRecDepth 100000
open PySem
namespace Lr
theorem bal_drop {x : Nat} {r : List Nat} {d : Nat} (h : Bal (x :: r) d) (h1 : x ≠ 92) (h2 : x ≠ 123) (h3 : x ≠ 125) : Bal r d := by
  cases h with
  | esc => exact absurd rfl h1
  | op => exact absurd rfl h2
  | cl => exact absurd rfl h3
  | plain _ _ _ _ h => exact h
theorem lm_bal : ∀ (k : Nat) (r : List Nat), r.length ≤ k → ∀ (d0 : Nat) (b0 w0 q0 : Bool) (d : Int) (b w q : Bool), lm r d0 b0 w0 q0 = some (d, b, w, q) → ¬ 0 < d → Bal r d0 := by
  intro k
  induction k with
  | zero =>
    intro r hk d0 b0 w0 q0 d b w q h hd
    have : r = [] := List.length_eq_zero_iff.mp (Nat.le_zero.mp hk)
    subst this
    rw [lm_nil] at h
    cases h
    have : d0 = 0 := by omega
    subst this
    exact .nil
  | succ k ih =>
    intro r hk d0 b0 w0 q0 d b w q h hd
    cases r with
    | nil => exact ih [] (Nat.zero_le _) d0 b0 w0 q0 d b w q h hd
    | cons c r =>
      rw [List.length_cons] at hk
      rw [lm_cons] at h
      by_cases k1 : c = 123
      · subst k1
        rw [if_pos rfl] at h
        exact .op (ih r (by exact Nat.le_of_succ_le_succ ‹_›) (d0 + 1) b0 w0 q0 d b w q h hd)
      rw [if_neg k1] at h
      by_cases k2 : c = 125
      · subst k2
        rw [if_pos rfl] at h
        split at h
        · cases h
        · rename_i hz
          obtain ⟨d1, rfl⟩ : ∃ d1, d0 = d1 + 1 := ⟨d0 - 1, by omega⟩
          have e : ((d1 + 1 : Nat) : Int) - 1 = (d1 : Int) := by omega
          rw [e] at h
          exact .cl (ih r (by exact Nat.le_of_succ_le_succ ‹_›) d1 b0 w0 q0 d b w q h hd)
      rw [if_neg k2] at h
      by_cases k3 : c = 93 ∨ c = 34
      · rw [if_pos k3] at h
        exact .plain c (by rcases k3 with rfl | rfl <;> decide) k1 k2 (ih r (by exact Nat.le_of_succ_le_succ ‹_›) d0 _ _ _ d b w q h hd)
      rw [if_neg k3] at h
      by_cases k4 : c = 92
      · subst k4
        rw [if_pos rfl] at h
        cases r with
        | nil => cases h
        | cons z r =>
          dsimp only at h
          by_cases z1 : z = 10
          · rw [if_pos z1] at h; cases h
          rw [if_neg z1] at h
          by_cases z2 : z = 123 ∨ z = 125 ∨ z = 92
          · rw [if_pos z2] at h
            exact .esc z (ih r (by simp at hk; exact Nat.le_of_lt ‹_›) d0 _ _ _ d b w q h hd)
          · rw [if_neg z2] at h
            have := ih (z :: r) (by simpa using hk) d0 _ _ _ d b w q h hd
            simp only [not_or] at z2
            exact .esc z (bal_drop this z2.2.2 z2.1 z2.2.1)
      rw [if_neg k4] at h
      split at h
      · exact .plain c k4 k1 k2 (ih r (by exact Nat.le_of_succ_le_succ ‹_›) d0 _ _ _ d b w q h hd)
      · exact .plain c k4 k1 k2 (ih r (by exact Nat.le_of_succ_le_succ ‹_›) d0 _ _ _ d b w q h hd)
theorem lm_plain : ∀ (k : Nat) (r : List Nat), r.length ≤ k → ∀ (d0 : Int) (b0 w0 q0 : Bool) (d : Int) (b w q : Bool), lm r d0 b0 w0 q0 = some (d, b, w, q) →
    (w = false → w0 = false) ∧ (b = false → b0 = false ∧ ∀ c ∈ r, plainC c) := by
  intro k
  induction k with
  | zero =>
    intro r hk d0 b0 w0 q0 d b w q h
    have : r = [] := List.length_eq_zero_iff.mp (Nat.le_zero.mp hk)
    subst this
    rw [lm_nil] at h
    cases h
    exact ⟨id, fun e => ⟨e, fun _ h => nomatch h⟩⟩
  | succ k ih =>
    intro r hk d0 b0 w0 q0 d b w q h
    cases r with
    | nil => exact ih [] (Nat.zero_le _) d0 b0 w0 q0 d b w q h
    | cons c r =>
      rw [List.length_cons] at hk
      rw [lm_cons] at h
      have on : ∀ {d1 q1}, lm r d1 b0 w0 q1 = some (d, b, w, q) → plainC c → (w = false → w0 = false) ∧ (b = false → b0 = false ∧ ∀ z ∈ c :: r, plainC z) := fun {d1 q1} h hp => by
        obtain ⟨a1, a2⟩ := ih r (by exact Nat.le_of_succ_le_succ ‹_›) _ _ _ _ d b w q h
        exact ⟨a1, fun e => ⟨(a2 e).1, fun z hz => (List.mem_cons.mp hz).elim (fun e => e ▸ hp) ((a2 e).2 z)⟩⟩
      have off : ∀ {r' d1 w1 q1}, r'.length ≤ k → lm r' d1 true w1 q1 = some (d, b, w, q) → (w = false → w1 = false) ∧ b ≠ false := fun {r' d1 w1 q1} hl h => by
        obtain ⟨a1, a2⟩ := ih r' hl _ _ _ _ d b w q h
        exact ⟨a1, fun e => absurd (a2 e).1 (by decide)⟩
      by_cases k1 : c = 123
      · subst k1
        rw [if_pos rfl] at h
        exact on h ⟨rfl, by decide⟩
      rw [if_neg k1] at h
      by_cases k2 : c = 125
      · subst k2
        rw [if_pos rfl] at h
        split at h
        · cases h
        · exact on h ⟨rfl, by decide⟩
      rw [if_neg k2] at h
      by_cases k3 : c = 93 ∨ c = 34
      · rw [if_pos k3] at h
        obtain ⟨a1, a2⟩ := off (by exact Nat.le_of_succ_le_succ ‹_›) h
        exact ⟨a1, fun e => absurd e a2⟩
      rw [if_neg k3] at h
      by_cases k4 : c = 92
      · rw [if_pos k4] at h
        cases r with
        | nil => cases h
        | cons z r =>
          dsimp only at h
          split at h
          · cases h
          · split at h
            · obtain ⟨a1, a2⟩ := off (by simp at hk; exact Nat.le_of_lt ‹_›) h
              exact ⟨fun e => absurd (a1 e) (by decide), fun e => absurd e a2⟩
            · obtain ⟨a1, a2⟩ := off (by simpa using hk) h
              exact ⟨fun e => absurd (a1 e) (by decide), fun e => absurd e a2⟩
      rw [if_neg k4] at h
      split at h
      · obtain ⟨a1, a2⟩ := off (by exact Nat.le_of_succ_le_succ ‹_›) h
        exact ⟨fun e => absurd (a1 e) (by decide), fun e => absurd e a2⟩
      · rename_i k5
        simp only [not_or] at k5
        exact on h ⟨by simpa using k5.2.2.2, k4⟩
theorem esc_un (deep : Bool) {c : Nat} (h : c ∈ signs) : isUn (escF deep c, c) := by
  have hd : ∀ deep ∈ [true, false], ∀ c ∈ signs, (escF deep c = [c] ∧ blank c = false ∧ c ≠ 92) ∨ ∃ p ∈ escPairs, escF deep c = [92, p.1] ∧ p.2 = c := by decide
  rcases hd deep (by cases deep <;> simp) c h with ⟨a, b, d⟩ | ⟨⟨x, y⟩, hp, a, b⟩
  · exact .inl ⟨a, b, d⟩
  · simp only at a b
    subst b
    exact .inr ⟨x, a, hp⟩
noncomputable def eUs (deep : Bool) (e : List Nat) : List Un := e.map fun c => (escF deep c, c)
theorem eUs_str (deep : Bool) (e : List Nat) : uStr (eUs deep e) = e.flatMap (escF deep) := by
  induction e with
  | nil => rfl
  | cons c e ih =>
    simp only [eUs, uStr, List.map_cons, List.flatMap_cons] at ih ⊢
    rw [ih]
theorem eUs_val (deep : Bool) (e : List Nat) : uVal (eUs deep e) = e := by
  unfold uVal eUs
  rw [List.map_map]
  exact List.map_id e
theorem eUs_un {deep : Bool} {e : List Nat} (h : Sg e) : ∀ u ∈ eUs deep e, isUn u := fun u hu => by
  obtain ⟨c, hc, rfl⟩ := List.mem_map.mp hu
  exact esc_un deep (h c hc)
theorem tok_quote {e : List Nat} (h : Bool) (hg : Sg e) : Tok (quoteP e h) e := by
  cases e with
  | nil =>
    have : quoteP [] h = 123 :: ([] ++ [125]) := by cases h <;> rfl
    rw [this]
    exact tok_brace .nil
  | cons c r =>
    have hcs := hg c (.head _)
    have whole : ∀ (deep : Bool), (deep = true ∨ (c ≠ 123 ∧ c ≠ 34)) → ∀ pre : List Nat, (pre = [] ∨ (pre = [92] ∧ c = 35)) → Tok (pre ++ (c :: r).flatMap (escF deep)) (c :: r) := fun deep hd pre hp => by
      have hh : ∀ z y, (c :: r).flatMap (escF deep) = z :: y → z ≠ 123 ∧ z ≠ 34 := fun z y e => by
        rw [List.flatMap_cons] at e
        have key : ∀ deep ∈ [true, false], ∀ c ∈ signs, (deep = true ∨ (c ≠ 123 ∧ c ≠ 34)) → (escF deep c).head? ≠ some 123 ∧ (escF deep c).head? ≠ some 34 ∧ escF deep c ≠ [] := by decide
        obtain ⟨a1, a2, a3⟩ := key deep (by cases deep <;> simp) c hcs hd
        cases hq : escF deep c with
        | nil => exact absurd hq a3
        | cons z' y' =>
          rw [hq] at e a1 a2
          simp only [List.cons_append, List.cons.injEq] at e
          simp only [List.head?_cons, ne_eq, Option.some.injEq] at a1 a2
          exact ⟨e.1 ▸ a1, e.1 ▸ a2⟩
      rcases hp with rfl | ⟨rfl, rfl⟩
      · have := tok_bare (us := eUs deep (c :: r)) (eUs_un hg) (by simp [eUs]) (fun z y e => hh z y (by rw [← eUs_str]; exact e))
        rw [eUs_str, eUs_val] at this
        exact this
      · have h35 : escF deep 35 = [35] := by cases deep <;> rfl
        have := tok_bare (us := ([92, 35], 35) :: eUs deep r) (fun u hu => (List.mem_cons.mp hu).elim (fun e => e ▸ .inr ⟨35, rfl, by decide⟩) (eUs_un (fun z hz => hg z (.tail _ hz)) u)) (by simp) (fun z y e => by
          simp only [uStr, List.flatMap_cons, List.cons_append, List.cons.injEq] at e
          rw [← e.1]; decide)
        have e1 : uStr (([92, 35], 35) :: eUs deep r) = [92] ++ (35 :: r).flatMap (escF deep) := by
          have := eUs_str deep r
          simp only [uStr, List.flatMap_cons, h35] at this ⊢
          rw [this]; rfl
        have e2 : uVal (([92, 35], 35) :: eUs deep r) = 35 :: r := by
          have := eUs_val deep r
          simp only [uVal, List.map_cons] at this ⊢
          rw [this]
        rw [e1, e2] at this
        exact this
    have pre : ∀ hs : Bool, hs = (h && isHash (c :: r)) → (if hs then [92] else []) = [] ∨ ((if hs then [92] else []) = [92] ∧ c = 35) := fun hs e => by
      cases hs with
      | false => exact .inl rfl
      | true =>
        have := (Bool.and_eq_true_iff.mp e.symm).2
        exact .inr ⟨rfl, by simpa [isHash] using this⟩
    have deepCase : modeP (c :: r) h = sEscape → Tok (quoteP (c :: r) h) (c :: r) := fun hm => by
      unfold quoteP
      rw [hm]
      have : (sEscape == sEscape) = true := by decide
      simp only [show ¬ sEscape = sNone by decide, show ¬ sEscape = sBrace by decide, if_false, this]
      exact whole true (.inl rfl) _ (by
        have := pre (h && isHash (c :: r)) rfl
        simpa using this)
    have braceCase : modeP (c :: r) h = sBrace → Bal (c :: r) 0 → Tok (quoteP (c :: r) h) (c :: r) := fun hm hb => by
      unfold quoteP
      rw [hm]
      simp only [show ¬ sBrace = sNone by decide, if_false, if_true]
      exact tok_brace hb
    cases hl : lm (c :: r) 0 (c == 123 || c == 34) ((c == 123 || c == 34) || (h && c == 35)) false with
    | none => exact deepCase (by simp [modeP, hl])
    | some z =>
      obtain ⟨d, b, w, q⟩ := z
      by_cases hd : 0 < d
      · exact deepCase (by simp [modeP, hl, hd])
      have hbal : Bal (c :: r) 0 := lm_bal _ (c :: r) (Nat.le_refl _) 0 _ _ _ d b w q hl hd
      obtain ⟨p1, p2⟩ := lm_plain _ (c :: r) (Nat.le_refl _) 0 _ _ _ d b w q hl
      cases b with
      | true =>
        cases hqw : (q && !w) with
        | false => exact braceCase (by simp only [modeP, hl, if_neg hd, hqw]; rfl) hbal
        | true =>
          have hm : modeP (c :: r) h = sMask := by simp only [modeP, hl, if_neg hd, hqw]; rfl
          have hw : w = false := by
            have := (Bool.and_eq_true_iff.mp hqw).2
            simpa using this
          have hw0 := p1 hw
          simp only [Bool.or_eq_false_iff] at hw0
          have c1 : c ≠ 123 := by simpa using hw0.1.1
          have c2 : c ≠ 34 := by simpa using hw0.1.2
          have hh : (h && isHash (c :: r)) = false := hw0.2
          unfold quoteP
          rw [hm]
          have : (sMask == sEscape) = false := by decide
          simp only [show ¬ sMask = sNone by decide, show ¬ sMask = sBrace by decide, if_false, this, hh]
          exact whole false (.inr ⟨c1, c2⟩) [] (.inl rfl)
      | false =>
        obtain ⟨b0, hp⟩ := p2 rfl
        simp only [Bool.or_eq_false_iff] at b0
        have c1 : c ≠ 123 := by simpa using b0.1
        have c2 : c ≠ 34 := by simpa using b0.2
        cases hhs : (h && c == 35) with
        | true => exact braceCase (by simp only [modeP, hl]; rw [if_neg hd, hhs]; rfl) hbal
        | false =>
          have hm : modeP (c :: r) h = sNone := by simp only [modeP, hl]; rw [if_neg hd, hhs]; rfl
          unfold quoteP
          rw [hm]
          simp only [if_true]
          have := tok_bare (us := (c :: r).map fun z => ([z], z)) (fun u hu => by
            obtain ⟨z, hz, rfl⟩ := List.mem_map.mp hu
            exact .inl ⟨rfl, hp z hz⟩) (by simp) (fun z y e => by
            simp only [uStr, List.map_cons, List.flatMap_cons, List.cons_append, List.cons.injEq] at e
            rw [← e.1]; exact ⟨c1, c2⟩)
          have e1 : ∀ l : List Nat, uStr (l.map fun z => ([z], z)) = l := fun l => by induction l with
            | nil => rfl
            | cons z l ih => simp only [uStr, List.map_cons, List.flatMap_cons] at ih ⊢; rw [ih]; rfl
          have e2 : ∀ l : List Nat, uVal (l.map fun z => ([z], z)) = l := fun l => by
            unfold uVal
            rw [List.map_map]
            exact List.map_id l
          rw [e1, e2] at this
          exact this
end Lr
end
section
set_option maxRecDepth 100000
open PySem
namespace Lr
theorem tx_len (l : List Nat) : (tx l).length = l.length := by simp [tx, PySem.Str.length]
theorem sub_at (pre : List Nat) (c k : Nat) (tl : List Nat) : Builtin.Str.subAt (tx (pre ++ c :: tl)) (tx [k]) pre.length = (c == k) := by
  have e : (tx (pre ++ c :: tl)).cps.extract pre.length (pre.length + (tx [k]).length) = #[c] := by
    apply Array.ext'
    rw [tx_len]
    simp [tx, List.extract_eq_take_drop]
  unfold Builtin.Str.subAt
  rw [e]
  show (#[c] == #[k]) = _
  simp
theorem forIn_if {c : Nat → Prop} [DecidablePred c] : ∀ (l : List Nat) (a : Option Nat), (forIn (m := Id) l a fun i s => if c i then pure (ForInStep.yield (some i)) else pure (ForInStep.yield s)).run = l.foldl (fun last i => if c i then some i else last) a
  | [], a => rfl
  | x :: l, a => by
    rw [List.forIn_cons, List.foldl_cons]
    by_cases h : c x
    · rw [if_pos h, if_pos h]
      exact forIn_if l (some x)
    · rw [if_neg h, if_neg h]
      exact forIn_if l a
theorem last_fold (s y : PySem.Str) (n : Nat) : Builtin.Str.lastOccurrence s y 0 n = (List.range (n + 1)).foldl (fun last i => if i + y.length ≤ n ∧ Builtin.Str.subAt s y i = true then some i else last) none := by
  unfold Builtin.Str.lastOccurrence
  simp [List.range_eq_range']
  exact forIn_if (c := fun i => i + y.length ≤ n ∧ Builtin.Str.subAt s y i = true) _ none
theorem rfind_end (pre : List Nat) : Txt.rfind (tx (pre ++ [92])) (tx [92]) = pre.length := by
  unfold Txt.rfind
  have : Builtin.Str.lastOccurrence (tx (pre ++ [92])) (tx [92]) 0 (tx (pre ++ [92])).length = some pre.length := by
    rw [last_fold, tx_len, tx_len, (by simp : (pre ++ ([92] : List Nat)).length = pre.length + 1), List.range_succ, List.range_succ, List.foldl_append, List.foldl_append]
    simp only [List.foldl_cons, List.foldl_nil]
    rw [if_neg (fun h => by have := h.1; simp only [List.length_cons, List.length_nil] at this; omega), if_pos]
    exact ⟨by simp, by rw [sub_at]; rfl⟩
  rw [this]
theorem rfind_end2 (pre : List Nat) : Txt.rfind (tx (pre ++ [92, 32])) (tx [92]) = pre.length := by
  unfold Txt.rfind
  have : Builtin.Str.lastOccurrence (tx (pre ++ [92, 32])) (tx [92]) 0 (tx (pre ++ [92, 32])).length = some pre.length := by
    rw [last_fold, tx_len, tx_len, (by simp : (pre ++ ([92, 32] : List Nat)).length = pre.length + 1 + 1), List.range_succ, List.range_succ, List.range_succ, List.foldl_append, List.foldl_append, List.foldl_append]
    simp only [List.foldl_cons, List.foldl_nil]
    rw [if_neg (fun h => by have := h.1; simp only [List.length_cons, List.length_nil] at this; omega), if_neg, if_pos]
    · exact ⟨by simp, by rw [sub_at]; rfl⟩
    · rintro ⟨_, h⟩
      have e : pre ++ [92, 32] = (pre ++ [92]) ++ 32 :: [] := by simp
      have e2 : pre.length + 1 = (pre ++ [92]).length := by simp
      rw [e, e2, sub_at] at h
      exact absurd h (by decide)
  rw [this]
theorem ends_at (pre : List Nat) (c : Nat) : Txt.endswith (tx (pre ++ [c])) (tx [92]) = (c == 92) := by
  unfold Txt.endswith
  rw [tx_len, tx_len, (by simp : (pre ++ [c]).length - ([92] : List Nat).length = pre.length), sub_at]
  simp
noncomputable def EndOk (t : List Nat) : Prop := (∃ t' c, t = t' ++ [c] ∧ blank c = false) ∨ ∃ t', t = t' ++ [92, 32]
theorem trim_lead (n : Nat) {t : List Nat} {c : Nat} {r : List Nat} (ht : t = c :: r) (hc : blank c = false) (hs : Small t) (m : Nat) : loopW (callN (n + 1)) (wT (nthS f_trim.body 1)) (wB (nthS f_trim.body 1)) (m + 1) [some (.val (.str t)), some (.val (.int 0)), some (.val (.int t.length))] = ret (.next, [some (.val (.str t)), some (.val (.int 0)), some (.val (.int t.length))]) := by
  have h1 : decide ((0 : Int) < (t.length : Int)) = true := decide_eq_true (by subst ht; simp only [List.length_cons]; exact Int.ofNat_lt.mpr (Nat.succ_pos _))
  have h2 : idx (.str t) (.int 0) = some (.str [c]) := idx_mid (pre := []) (tl := r) ht rfl hs
  rw [loopW_turn]
  generalize turnK _ _ _ m = K
  simp only [nthS_0, nthS_S, wT_w, wB_w, f_trim]
  simp [exs_nil, exs_cons, ex_aug, v_v, v_c, v_bo, v_cmp, v_idx, v_call, vs_nil, vs_cons, vB_nil, vB_cons, v_cond, mb_ret, lift_some_ret, g_get, g_put, a_bool, isV_v, so_t, ↓i_ft, q_lt, bi_add, ite_and, reduceIte, then_next, Bool.and_true, Bool.and_false, h2, c_blank, hc]
theorem trim_stop (n : Nat) {t pre : List Nat} {c : Nat} {r : List Nat} {j : Int} (ht : t = pre ++ c :: r) (hj : j = pre.length + 1) (hc : blank c = false) (hs : Small t) (m : Nat) : loopW (callN (n + 1)) (wT (nthS f_trim.body 2)) (wB (nthS f_trim.body 2)) (m + 1) [some (.val (.str t)), some (.val (.int 0)), some (.val (.int j))] = ret (.next, [some (.val (.str t)), some (.val (.int 0)), some (.val (.int j))]) := by
  have h1 : decide ((0 : Int) < j) = true := decide_eq_true (by omega)
  have h2 : idx (.str t) (.int (j - 1)) = some (.str [c]) := idx_mid ht (by omega) hs
  rw [loopW_turn]
  generalize turnK _ _ _ m = K
  simp only [nthS_0, nthS_S, wT_w, wB_w, f_trim]
  simp [exs_nil, exs_cons, ex_aug, v_v, v_c, v_bin, v_bo, v_cmp, v_idx, v_call, vs_nil, vs_cons, vB_nil, vB_cons, v_cond, mb_ret, lift_some_ret, g_get, g_put, a_bool, isV_v, so_t, ↓i_ft, q_lt, bi_sub, ite_and, reduceIte, then_next, Bool.and_true, Bool.and_false, h1, h2, c_blank, hc]
theorem trim_turn (n : Nat) {t pre : List Nat} {c : Nat} {r : List Nat} {j : Int} (ht : t = pre ++ c :: r) (hj : j = pre.length + 1) (hc : blank c = true) (hs : Small t) (m : Nat) : loopW (callN (n + 1)) (wT (nthS f_trim.body 2)) (wB (nthS f_trim.body 2)) (m + 1) [some (.val (.str t)), some (.val (.int 0)), some (.val (.int j))] = loopW (callN (n + 1)) (wT (nthS f_trim.body 2)) (wB (nthS f_trim.body 2)) m [some (.val (.str t)), some (.val (.int 0)), some (.val (.int (j - 1)))] := by
  have h1 : decide ((0 : Int) < j) = true := decide_eq_true (by omega)
  have h2 : idx (.str t) (.int (j - 1)) = some (.str [c]) := idx_mid ht (by omega) hs
  rw [loopW_turn, ← turnK_next]
  generalize turnK _ _ _ m = K
  simp only [nthS_0, nthS_S, wT_w, wB_w, f_trim]
  simp [exs_nil, exs_cons, ex_aug, v_v, v_c, v_bin, v_bo, v_cmp, v_idx, v_call, vs_nil, vs_cons, vB_nil, vB_cons, v_cond, mb_ret, lift_some_ret, g_get, g_put, a_bool, isV_v, so_t, ↓i_tt, q_lt, bi_sub, ite_and, reduceIte, then_next, Bool.and_true, h1, h2, c_blank, hc]
theorem c_trim (n : Nat) {t : List Nat} {c : Nat} {r : List Nat} (ht : t = c :: r) (hc : blank c = false) (hs : Small t) {u : List Nat} {b : List Nat} (hu : t = u ++ b) (hne : ∃ u' z, u = u' ++ [z] ∧ blank z = false) (hb : b = [] ∨ b = [32]) : callN (n + 2) 25 [.str t] = ret (.val (.str u)) := by
  obtain ⟨u', z, rfl, hz⟩ := hne
  have l1 := trim_lead n ht hc hs 99999
  have l2 : loopW (callN (n + 1)) (wT (nthS f_trim.body 2)) (wB (nthS f_trim.body 2)) loopLid [some (.val (.str t)), some (.val (.int 0)), some (.val (.int t.length))] = ret (.next, [some (.val (.str t)), some (.val (.int 0)), some (.val (.int (u' ++ [z]).length))]) := by
    rcases hb with rfl | rfl
    · rw [loopLid_eq]
      have := trim_stop n (t := t) (pre := u') (c := z) (r := []) (j := t.length) (by rw [hu]; simp) (by rw [hu]; simp) hz hs 99999
      rw [this, hu]
      simp
    · rw [loopLid_eq, trim_turn n (t := t) (pre := u' ++ [z]) (c := 32) (r := []) (by rw [hu]) (by rw [hu]; simp; exact rfl) rfl hs 99999]
      have := trim_stop n (t := t) (pre := u') (c := z) (r := [32]) (j := (t.length : Int) - 1) (by rw [hu]; simp) (by rw [hu]; simp; omega) hz hs 99998
      rw [this]
      have e : (t.length : Int) - 1 = ((u' ++ [z]).length : Int) := by rw [hu]; simp; omega
      rw [e]
  rw [show 99999 + 1 = loopLid from rfl] at l1
  have l3 : slice (.str t) (0 : Int) (some ((u' ++ [z]).length : Int)) = some (.str (u' ++ [z])) := by
    rw [slice_s (t := t) (lo := 0) (hi := ((u' ++ [z]).length : Int)) (a := 0) (b := (u' ++ [z]).length) rfl rfl hs, hu, List.take_left, List.drop_zero]
  rw [call_of (F := f_trim) rfl _ _ rfl]
  simp only [f_trim, nthS_0, nthS_S, wT_w, wB_w] at l1 l2
  simp only [f_trim, exs_cons, ex_pair, ex_while, ex_ret, v_v, v_c, v_sl, v_len, mb_ret, lift_some_ret, g_get, g_put, gd0, gdS, st0, stS, isV_v, so_t, m_nil, m_cons, r_0, r_S, ap_n, ap_c, if_true, fin_ret, then_next, then_ret, Nat.add_one_sub_one, len_s hs, l1, l2, l3]
theorem c_part (n : Nat) {t : List Nat} {c : Nat} {r : List Nat} (ht : t = c :: r) (hc : blank c = false) (hs : Small t) (he : EndOk t) : callN (n + 3) 26 [.str t] = ret (.val (.str t)) := by
  rw [call_of (F := f_concat_part) rfl _ _ rfl]
  have mk : mkS t = some (.str t) := mkS_ok (Nat.le_trans hs (by decide))
  rcases he with ⟨t', z, rfl, hz⟩ | ⟨t', rfl⟩
  · have h1 := c_trim n ht hc hs (u := t' ++ [z]) (b := []) (by simp) ⟨t', z, rfl, hz⟩ (.inl rfl)
    have h2 := ends_at t' z
    by_cases k : z = 92
    · subst k
      have h3 := rfind_end t'
      have h4 : slice (.str (t' ++ [92])) ((t'.length : Int) + 1) (some ((t'.length : Int) + 1 + 1)) = some (.str []) := by
        rw [slice_s (lo := (t'.length : Int) + 1) (hi := (t'.length : Int) + 1 + 1) (a := t'.length + 1) (b := t'.length + 2) (by exact rfl) (by exact rfl) hs]
        simp
      simp [f_concat_part, exs_nil, exs_cons, ex_set, ex_ite, ex_ret, v_v, v_c, v_bin, v_sl, v_call, v_rfind, v_ends, vs_nil, vs_cons, v_cond, mb_ret, lift_some_ret, g_get, g_put, a_bool, a_str, isV_v, so_t, ↓i_tt, r_S, bi_add, bi_adds, reduceIte, fin_ret, then_next, then_ret, Nat.add_one_sub_one, h1, h2, h3, h4, mk]
    · have k' : (z == 92) = false := by simpa using k
      rw [k'] at h2
      simp only [f_concat_part, exs_nil, exs_cons, ex_set, ex_ite, ex_ret, v_v, v_c, v_bin, v_sl, v_call, v_rfind, v_ends, vs_nil, vs_cons, v_cond, mb_ret, mb_assoc, lift_some_ret, g_get, g_put, gd0, gdS, st0, stS, a_bool, a_str, isV_v, so_t, ↓i_ft, m_nil, m_cons, r_0, r_S, ap_n, ap_c, bi_add, if_true, fin_ret, then_next, then_ret, Nat.add_one_sub_one, h1, h2]
  · have h1 := c_trim n ht hc hs (u := t' ++ [92]) (b := [32]) (by simp) ⟨t', 92, rfl, rfl⟩ (.inr rfl)
    have h2 := ends_at t' 92
    have h3 := rfind_end2 t'
    have h4 : slice (.str (t' ++ [92, 32])) ((t'.length : Int) + 1) (some ((t'.length : Int) + 1 + 1)) = some (.str [32]) := by
      rw [slice_s (lo := (t'.length : Int) + 1) (hi := (t'.length : Int) + 1 + 1) (a := t'.length + 1) (b := t'.length + 2) (by exact rfl) (by exact rfl) hs, cut_one]
    simp [f_concat_part, exs_nil, exs_cons, ex_set, ex_ite, ex_ret, v_v, v_c, v_bin, v_sl, v_call, v_rfind, v_ends, vs_nil, vs_cons, v_cond, mb_ret, lift_some_ret, g_get, g_put, a_bool, a_str, isV_v, so_t, ↓i_tt, r_S, bi_add, bi_adds, reduceIte, fin_ret, then_next, then_ret, Nat.add_one_sub_one, h1, h2, h3, h4, mk]
end Lr
end
section
set_option maxRecDepth 100000
open PySem
namespace Lr
noncomputable def qrow : Bool → List (List Nat) → Row
  | _, [] => []
  | h, e :: l => (quoteP e h, e) :: qrow false l
noncomputable def joinQ (l : List (List Nat)) : List Nat := joinS (qrow true l)
structure Fine (l : List (List Nat)) : Prop where
  len : l.length ≤ 60
  sg : ∀ e ∈ l, Sg e
  sz : ∀ e ∈ l, e.length ≤ 20
theorem Fine.tail {e : List Nat} {l : List (List Nat)} (h : Fine (e :: l)) : Fine l := ⟨by have := h.len; simp at this; exact Nat.le_trans ‹_› (by decide), fun x hx => h.sg x (.tail _ hx), fun x hx => h.sz x (.tail _ hx)⟩
theorem qrow_len : ∀ (h : Bool) (l : List (List Nat)), (qrow h l).length = l.length
  | _, [] => rfl
  | h, e :: l => by rw [qrow, List.length_cons, List.length_cons, qrow_len]
theorem qrow_tok : ∀ (h : Bool) (l : List (List Nat)), (∀ e ∈ l, Sg e) → ∀ x ∈ qrow h l, Tok x.1 x.2
  | _, [], _, x, hx => nomatch hx
  | h, e :: l, hg, x, hx => by
    rcases List.mem_cons.mp hx with rfl | hx
    · exact tok_quote h (hg e (.head _))
    · exact qrow_tok false l (fun z hz => hg z (.tail _ hz)) x hx
theorem qrow_elems : ∀ (h : Bool) (l : List (List Nat)), elems (qrow h l) = l.map V.str
  | _, [] => rfl
  | h, e :: l => by
    have := qrow_elems false l
    simp only [elems] at this
    simp only [elems, qrow, List.map_cons, this]
theorem tail_len : ∀ (h : Bool) (l : List (List Nat)), (∀ e ∈ l, e.length ≤ 20) → (tailS (qrow h l)).length ≤ 43 * l.length
  | _, [], _ => by simp [qrow, tailS]
  | h, e :: l, hz => by
    have h1 := tail_len false l fun x hx => hz x (.tail _ hx)
    have h2 := quote_len e h
    have h3 := hz e (.head _)
    simp only [qrow, tailS, List.flatMap_cons, List.length_append, List.length_cons] at h1 ⊢
    omega
theorem joinS_tail (l : Row) : (joinS l).length ≤ (tailS l).length := by
  cases l with
  | nil => simp [joinS]
  | cons x l => simp only [joinS, tailS, List.flatMap_cons, List.length_append, List.length_cons]; omega
theorem joinQ_len {l : List (List Nat)} (h : Fine l) : (joinQ l).length ≤ 43 * l.length := Nat.le_trans (joinS_tail _) (tail_len true l h.sz)
theorem joinQ_small {l : List (List Nat)} (h : Fine l) : Small (joinQ l) := by
  have := joinQ_len h
  have := h.len
  unfold Small; omega
theorem split_join (n : Nat) {l : List (List Nat)} (h : Fine l) : callN (n + 5) 20 [.str (joinQ l)] = ret (.own (l.map V.str)) := by
  rw [joinQ, c_split n (qrow_tok true l h.sg) (joinQ_small h) (by rw [qrow_len]; have := h.len; exact Nat.le_trans ‹_› (by decide)), qrow_elems]
theorem joinL_row : ∀ (l : Row), joinL [32] (l.map (·.1)) = joinS l
  | [] => rfl
  | [x] => by simp [joinL, joinS, tailS]
  | x :: y :: r => by
    have := joinL_row (y :: r)
    simp only [List.map_cons] at this ⊢
    rw [joinL, this]
    simp [joinS, tailS]
noncomputable def quotes (l : Row) : List V := l.map fun x => V.str x.1
theorem join_loop (n : Nat) (it : Option Bd) : ∀ (l : List (List Nat)) (acc : List V) (x : Option Bd), Fine l → acc.length + l.length ≤ 10000 →
    ∃ y, loopL (callN (n + 3)) 2 (wB (nthS f_join_list.body 1)) (l.map V.str) [it, some (.own acc), x] = ret (.next, [it, some (.own (acc ++ quotes (qrow (acc.length == 0) l))), y])
  | [], acc, x, _, _ => ⟨x, by simp [loopL_nil, qrow, quotes]⟩
  | e :: l, acc, x, hf, ha => by
    have hap := app_ok (l := acc) (by simp at ha; exact Nat.le_trans (Nat.le_add_right _ _) ‹_›)
    obtain ⟨y, h⟩ := join_loop n it l (acc ++ [V.str (quoteP e (acc.length == 0))]) (some (.val (.str e))) hf.tail (by simp at ha ⊢; omega)
    refine ⟨y, ?_⟩
    have e0 : ((acc ++ [V.str (quoteP e (acc.length == 0))]).length == 0) = false := by simp
    have e1 : acc ++ [V.str (quoteP e (acc.length == 0))] ++ quotes (qrow false l) = acc ++ quotes (qrow (acc.length == 0) (e :: l)) := by simp [qrow, quotes]
    rw [e0, e1] at h
    have hq := c_quote n (h := acc.length == 0) (hf.sg e (.head _)) (Nat.le_trans (hf.sz e (.head _)) (by decide))
    have hl : acc.length ≤ lid := Nat.le_of_lt hap
    have e2 : ((acc.length : Int) == 0) = (acc.length == 0) := by cases acc <;> rfl
    rw [← h, List.map_cons, loopL_cons]
    simp only [f_join_list, nthS_0, nthS_S, wB_l, exs_nil, exs_cons, ex_app, v_v, v_c, v_cmp, v_call, v_lenV, vs_nil, vs_cons, mb_ret, lift_some_ret, g_get, g_put, gd0, gdS, st0, stS, q_eq, o_some, veq_int, if_true, then_next, hl, e2, hq, hap]
theorem row_sum : ∀ (l : Row), ((l.map (·.1)).map (·.length)).sum + l.length = (tailS l).length
  | [] => rfl
  | x :: l => by
    have := row_sum l
    simp only [List.map_cons, List.sum_cons, List.length_cons, tailS, List.flatMap_cons, List.length_append] at this ⊢
    omega
theorem joinV_row {l : Row} (h : (tailS l).length ≤ 10000) : joinV (.str [32]) (quotes l) = some (.str (joinS l)) := by
  have e : quotes l = (l.map (·.1)).map V.str := by simp [quotes]
  have := row_sum l
  have h2 : ((l.map (·.1)).map (·.length)).sum + (l.map (·.1)).length * [32].length ≤ lid := by
    simp only [List.length_map, List.length_cons, List.length_nil]
    unfold lid; omega
  rw [e]
  simp only [joinV, strsOf_map, if_pos h2, joinL_row]
theorem c_join (n : Nat) {l : List (List Nat)} (hf : Fine l) : callN (n + 4) 24 [.list (l.map V.str)] = ret (.val (.str (joinQ l))) := by
  obtain ⟨y, h⟩ := join_loop n (some (.val (.list (l.map V.str)))) l [] none hf (by have := hf.len; simp; exact Nat.le_trans ‹_› (by decide))
  have hj := joinV_row (l := qrow true l) (by have := tail_len true l hf.sz; have := hf.len; omega)
  rw [call_of (F := f_join_list) rfl _ _ rfl]
  simp only [f_join_list, nthS_0, nthS_S, wB_l, List.length_nil, Nat.reduceBEq, List.nil_append] at h
  simp only [f_join_list, exs_cons, ex_newL, ex_forL, ex_ret, v_v, v_c, v_joinV, mb_ret, lift_some_ret, g_get, g_put, gd0, gdS, st0, stS, a_str, m_nil, m_cons, r_0, r_S, ap_n, ap_c, fin_ret, then_next, then_ret, Nat.add_one_sub_one, h, hj, joinQ]
theorem end_quote {e : List Nat} (h : Bool) (hg : Sg e) : EndOk (quoteP e h) := by
  have esc : ∀ deep, ∀ c ∈ signs, ∃ u z, escF deep c = u ++ [z] ∧ (blank z = false ∨ (u = [92] ∧ z = 32)) := fun deep c hc => by
    have key : ∀ deep ∈ [true, false], ∀ c ∈ signs, ∃ p ∈ [([], c), ([92], c), ([92], 110)], escF deep c = p.1 ++ [p.2] ∧ (blank p.2 = false ∨ (p.1 = [92] ∧ p.2 = 32)) := by decide
    obtain ⟨⟨u, z⟩, _, a, b⟩ := key deep (by cases deep <;> simp) c hc
    exact ⟨u, z, a, b⟩
  have lastCase : ∀ deep (pre : List Nat), e ≠ [] → EndOk (pre ++ e.flatMap (escF deep)) := fun deep pre hne => by
    obtain ⟨e', c, rfl⟩ : ∃ e' c, e = e' ++ [c] := ⟨e.dropLast, e.getLast hne, (List.dropLast_concat_getLast hne).symm⟩
    obtain ⟨u, z, hu, hz⟩ := esc deep c (hg c (by simp))
    have e1 : pre ++ (e' ++ [c]).flatMap (escF deep) = (pre ++ e'.flatMap (escF deep) ++ u) ++ [z] := by simp [hu]
    rw [e1]
    rcases hz with hz | ⟨rfl, rfl⟩
    · exact .inl ⟨_, z, rfl, hz⟩
    · exact .inr ⟨pre ++ e'.flatMap (escF deep), by simp⟩
  have hne : modeP e h ≠ sBrace → e ≠ [] := fun h1 h2 => h1 (by rw [h2]; rfl)
  unfold quoteP
  dsimp only
  by_cases h1 : modeP e h = sNone
  · rw [if_pos h1]
    have hne' := hne (by rw [h1]; decide)
    cases e with
    | nil => exact absurd rfl hne'
    | cons c r =>
      have hp : ∀ z ∈ c :: r, plainC z := by
        cases hl : lm (c :: r) 0 (c == 123 || c == 34) ((c == 123 || c == 34) || (h && c == 35)) false with
        | none => simp only [modeP, hl] at h1; exact absurd h1 (by decide)
        | some y =>
          obtain ⟨d, b, w, q⟩ := y
          simp only [modeP, hl] at h1
          cases b with
          | false => exact ((lm_plain _ (c :: r) (Nat.le_refl _) 0 _ _ _ d false w q hl).2 rfl).2
          | true =>
            simp only [if_true] at h1
            exfalso
            revert h1
            repeat' split
            all_goals decide
      have hn : c :: r ≠ [] := by simp
      have hm := (c :: r).getLast_mem hn
      refine .inl ⟨(c :: r).dropLast, (c :: r).getLast hn, (List.dropLast_concat_getLast hn).symm, (hp _ hm).1⟩
  rw [if_neg h1]
  by_cases h2 : modeP e h = sBrace
  · rw [if_pos h2]
    exact .inl ⟨123 :: e, 125, by simp, rfl⟩
  rw [if_neg h2]
  exact lastCase _ _ (hne h2)
theorem end_app {u t : List Nat} (h : EndOk t) : EndOk (u ++ t) := by
  rcases h with ⟨t', c, rfl, hc⟩ | ⟨t', rfl⟩
  · exact .inl ⟨u ++ t', c, by simp, hc⟩
  · exact .inr ⟨u ++ t', by simp⟩
theorem end_tail : ∀ (h : Bool) (l : List (List Nat)), l ≠ [] → (∀ e ∈ l, Sg e) → EndOk (tailS (qrow h l))
  | _, [], hn, _ => absurd rfl hn
  | h, [e], _, hg => by
    have := end_app (u := [32]) (end_quote h (hg e (.head _)))
    simpa [qrow, tailS] using this
  | h, e :: f :: l, _, hg => by
    have := end_app (u := 32 :: quoteP e h) (end_tail false (f :: l) (by simp) fun x hx => hg x (.tail _ hx))
    simpa [qrow, tailS] using this
theorem end_join {l : List (List Nat)} (hn : l ≠ []) (hg : ∀ e ∈ l, Sg e) : EndOk (joinQ l) := by
  cases l with
  | nil => exact absurd rfl hn
  | cons e l =>
    cases l with
    | nil =>
      have := end_quote true (hg e (.head _))
      simpa [joinQ, qrow, joinS, tailS] using this
    | cons f l =>
      have := end_app (u := quoteP e true) (end_tail false (f :: l) (by simp) fun x hx => hg x (.tail _ hx))
      simpa [joinQ, qrow, joinS] using this
theorem head_join {l : List (List Nat)} (hn : l ≠ []) (hg : ∀ e ∈ l, Sg e) : ∃ c r, joinQ l = c :: r ∧ blank c = false := by
  cases l with
  | nil => exact absurd rfl hn
  | cons e l =>
    obtain ⟨c, r, h, hc⟩ := (tok_quote true (hg e (.head _))).head
    exact ⟨c, r ++ tailS (qrow false l), by simp [joinQ, qrow, joinS, h], hc⟩
theorem part_join (n : Nat) {l : List (List Nat)} (hn : l ≠ []) (hf : Fine l) : callN (n + 3) 26 [.str (joinQ l)] = ret (.val (.str (joinQ l))) := by
  obtain ⟨c, r, h, hc⟩ := head_join hn hf.sg
  exact c_part n h hc (joinQ_small hf) (end_join hn hf.sg)
theorem part_nil (n : Nat) : callN (n + 3) 26 [.str []] = ret (.val (.str [])) := by
  have hs : Small [] := Nat.zero_le _
  have l1 : loopW (callN (n + 1)) (wT (nthS f_trim.body 1)) (wB (nthS f_trim.body 1)) loopLid [some (.val (.str [])), some (.val (.int 0)), some (.val (.int 0))] = ret (.next, [some (.val (.str [])), some (.val (.int 0)), some (.val (.int 0))]) := by
    rw [loopLid_eq, loopW_turn]
    generalize turnK _ _ _ _ = K
    simp only [nthS_0, nthS_S, wT_w, wB_w, f_trim]
    simp [exs_nil, exs_cons, ex_aug, v_v, v_c, v_bo, v_cmp, v_idx, v_call, vs_nil, vs_cons, vB_nil, vB_cons, v_cond, mb_ret, mb_assoc, lift_some_ret, g_get, g_put, a_bool, isV_v, so_t, ↓i_ft, q_lt, bi_add, ite_and, reduceIte, then_next, decide_false, Bool.and_true]
  have l2 : loopW (callN (n + 1)) (wT (nthS f_trim.body 2)) (wB (nthS f_trim.body 2)) loopLid [some (.val (.str [])), some (.val (.int 0)), some (.val (.int 0))] = ret (.next, [some (.val (.str [])), some (.val (.int 0)), some (.val (.int 0))]) := by
    rw [loopLid_eq, loopW_turn]
    generalize turnK _ _ _ _ = K
    simp only [nthS_0, nthS_S, wT_w, wB_w, f_trim]
    simp [exs_nil, exs_cons, ex_aug, v_v, v_c, v_bin, v_bo, v_cmp, v_idx, v_call, vs_nil, vs_cons, vB_nil, vB_cons, v_cond, mb_ret, mb_assoc, lift_some_ret, g_get, g_put, a_bool, isV_v, so_t, ↓i_ft, q_lt, bi_sub, ite_and, reduceIte, then_next, Int.reduceNeg, decide_false, Bool.and_true]
  have l3 : lenOf (.str []) = some (.int 0) := rfl
  have l4 : slice (.str []) 0 (some 0) = some (.str []) := rfl
  have h1 : callN (n + 2) 25 [.str []] = ret (.val (.str [])) := by
    rw [call_of (F := f_trim) rfl _ _ rfl]
    simp only [f_trim, nthS_0, nthS_S, wT_w, wB_w] at l1 l2
    simp only [f_trim, exs_cons, ex_pair, ex_while, ex_ret, v_v, v_c, v_sl, v_len, mb_ret, lift_some_ret, g_get, g_put, gd0, gdS, st0, stS, isV_v, so_t, m_nil, m_cons, r_0, r_S, ap_n, ap_c, if_true, fin_ret, then_next, then_ret, Nat.add_one_sub_one, l1, l2, l3, l4]
  have h2 : Txt.endswith (tx []) (tx [92]) = false := by decide +kernel
  rw [call_of (F := f_concat_part) rfl _ _ rfl]
  simp only [f_concat_part, exs_nil, exs_cons, ex_set, ex_ite, ex_ret, v_v, v_c, v_bin, v_sl, v_call, v_rfind, v_ends, vs_nil, vs_cons, v_cond, mb_ret, mb_assoc, lift_some_ret, g_get, g_put, gd0, gdS, st0, stS, a_bool, a_str, isV_v, so_t, ↓i_ft, m_nil, m_cons, r_0, r_S, ap_n, ap_c, bi_add, if_true, fin_ret, then_next, then_ret, Nat.add_one_sub_one, h1, h2]
end Lr
end
section
set_option maxRecDepth 100000
open PySem
namespace Lr
theorem len1 (a : V) : lenOf (.list [a]) = some (.int 1) := rfl
theorem len2 (a b : V) : lenOf (.list [a, b]) = some (.int 2) := rfl
theorem len3 (a b c : V) : lenOf (.list [a, b, c]) = some (.int 3) := rfl
theorem len4 (a b c d : V) : lenOf (.list [a, b, c, d]) = some (.int 4) := rfl
theorem len5 (a b c d e : V) : lenOf (.list [a, b, c, d, e]) = some (.int 5) := rfl
theorem len6 (a b c d e f : V) : lenOf (.list [a, b, c, d, e, f]) = some (.int 6) := rfl
theorem idl0 (a : V) (l : List V) : idx (.list (a :: l)) (.int 0) = some a := rfl
theorem idl1 (a b : V) (l : List V) : idx (.list (a :: b :: l)) (.int 1) = some b := rfl
theorem idl2 (a b c : V) (l : List V) : idx (.list (a :: b :: c :: l)) (.int 2) = some c := rfl
theorem idl3 (a b c d : V) (l : List V) : idx (.list (a :: b :: c :: d :: l)) (.int 3) = some d := rfl
theorem idl4 (a b c d e : V) (l : List V) : idx (.list (a :: b :: c :: d :: e :: l)) (.int 4) = some e := rfl
theorem idl5 (a b c d e f : V) (l : List V) : idx (.list (a :: b :: c :: d :: e :: f :: l)) (.int 5) = some f := rfl
theorem idt0 (a : V) (l : List V) : idx (.tup (a :: l)) (.int 0) = some a := rfl
theorem idt1 (a b : V) (l : List V) : idx (.tup (a :: b :: l)) (.int 1) = some b := rfl
theorem k1 : (1 : Nat) ≤ lid := by decide
theorem k2 : (2 : Nat) ≤ lid := by decide
theorem k3 : (3 : Nat) ≤ lid := by decide
theorem k4 : (4 : Nat) ≤ lid := by decide
theorem k5 : (5 : Nat) ≤ lid := by decide
theorem k6 : (6 : Nat) ≤ lid := by decide
theorem k0 : (0 : Nat) ≤ lid := by decide
theorem sl21 (a b : V) : slice (.list [a, b]) 1 none = some (.list [b]) := rfl
theorem sl41 (a b c d : V) : slice (.list [a, b, c, d]) 1 none = some (.list [b, c, d]) := rfl
theorem sl52 (a b c d e : V) : slice (.list [a, b, c, d, e]) 2 none = some (.list [c, d, e]) := rfl
theorem sl32 (a b c : V) : slice (.list [a, b, c]) 2 none = some (.list [c]) := rfl
theorem sl43 (a b c d : V) : slice (.list [a, b, c, d]) 3 none = some (.list [d]) := rfl
theorem sl44 (a b c d : V) : slice (.list [a, b, c, d]) 4 none = some (.list []) := rfl
theorem sl54 (a b c d e : V) : slice (.list [a, b, c, d, e]) 4 none = some (.list [e]) := rfl
noncomputable def ones (T : List Nat) : List (List Nat) := T.map fun c => [c]
theorem ones_len (T : List Nat) : (ones T).length = T.length := by simp [ones]
theorem ones_flat (T : List Nat) : (ones T).flatten = T := flat_ones T
theorem fine_ones {T : List Nat} (hg : Sg T) (hl : T.length ≤ 20) : Fine (ones T) where
  len := by rw [ones_len]; exact Nat.le_trans ‹_› (by decide)
  sg := fun e he => by
    obtain ⟨c, hc, rfl⟩ := List.mem_map.mp he
    intro z hz
    simp only [List.mem_cons, List.not_mem_nil, or_false] at hz
    exact hz ▸ hg c hc
  sz := fun e he => by
    obtain ⟨c, hc, rfl⟩ := List.mem_map.mp he
    simp
theorem fine_one {b : List Nat} (hg : Sg b) (hl : b.length ≤ 20) : Fine [b] := ⟨by simp, fun e he => by simp at he; exact he ▸ hg, fun e he => by simp at he; exact he ▸ hl⟩
theorem fine_rev {l : List (List Nat)} (h : Fine l) : Fine l.reverse := ⟨by rw [List.length_reverse]; exact h.len, fun e he => h.sg e (List.mem_reverse.mp he), fun e he => h.sz e (List.mem_reverse.mp he)⟩
theorem sum_bound : ∀ {l : List (List Nat)}, (∀ e ∈ l, e.length ≤ 20) → (l.map (·.length)).sum ≤ 20 * l.length
  | [], _ => by simp
  | e :: l, h => by
    have := sum_bound (l := l) fun x hx => h x (.tail _ hx)
    have := h e (.head _)
    simp only [List.map_cons, List.sum_cons, List.length_cons]
    omega
theorem joinV_fine {l : List (List Nat)} (h : Fine l) : joinV (.str []) (l.map V.str) = some (.str l.flatten) := joinV_e (by have := sum_bound h.sz; have := h.len; omega)
noncomputable def Reads (t : List Nat) (l : List (List Nat)) : Prop := ∀ n, callN (n + 5) 20 [.str t] = ret (.own (l.map V.str))
theorem reads_join {l : List (List Nat)} (h : Fine l) : Reads (joinQ l) l := fun n => split_join n h
theorem natAbs_small {n : Nat} (h : n ≤ 100000) : ((n : Nat) : Int).natAbs < 10 ^ 20 := by
  rw [Int.natAbs_natCast]
  have : (100000 : Nat) < 10 ^ 20 := by decide
  exact Nat.lt_of_le_of_lt ‹_› (by decide)
theorem c_dojoin (n : Nat) {t : List Nat} {l : List (List Nat)} (w : V) (h : Fine l) (hr : Reads t l) : callN (n + 6) 36 [.none, .list [w, .str t, .str []]] = ret (.val (.str l.flatten)) := by
  rw [call_of (F := f_do_join) rfl _ _ rfl]
  simp only [f_do_join, exs_nil, exs_cons, ex_set, ex_ite, ex_ret, ex_stuck, v_v, v_c, v_cmp, v_inT, v_ifx, v_idx, v_call, v_len, v_join, vs_nil, vs_cons, v_cond, mb_ret, lift_some_ret, g_get, g_put, gd0, gdS, st0, stS, a_bool, a_str, isV_v, so_t, ↓o_t, ↓o_f, n_t, ↓i_tt, ↓i_ft, m_nil, m_cons, r_0, r_S, ap_n, ap_c, q_eq, o_some, veq_int, inConsts_nil, inConsts_int, mb_fail, if_true, fin_ret, then_next, then_ret, Nat.reduceSub, Int.reduceBEq, beq_self_eq_true, Bool.bne_true, len3, idl1, idl2, hr n, joinV_fine h]
theorem c_strlen (n : Nat) {T : List Nat} (a b : V) (hs : Small T) : callN (n + 1) 48 [.none, .list [a, b, .str T]] = ret (.val (.str (intStr T.length))) := by
  rw [call_of (F := f_string_length) rfl _ _ rfl]
  have := natAbs_small (n := T.length) (Nat.le_trans hs (by decide))
  simp only [f_string_length, exs_nil, exs_cons, ex_ite, ex_ret, ex_stuck, v_v, v_c, v_cmp, v_idx, v_len, v_str, v_cond, mb_ret, lift_some_ret, g_get, gd0, gdS, a_bool, isV_v, so_t, n_t, ↓i_ft, m_nil, m_cons, r_0, ap_n, ap_c, q_ne, o_some, veq_int, mb_fail, if_true, fin_ret, then_next, then_ret, Nat.sub_self, beq_self_eq_true, len3, idl2, len_s hs, this]
theorem own_len {l : List (List Nat)} (h : Fine l) : lenOf (.list (l.map V.str)) = some (.int l.length) := by
  have : (l.map V.str).length ≤ lid := by rw [List.length_map]; exact Nat.le_trans h.len (by decide)
  rw [lenOf, if_pos this, List.length_map]
theorem c_llength (n : Nat) {t : List Nat} {l : List (List Nat)} (w : V) (h : Fine l) (hr : Reads t l) : callN (n + 6) 32 [.none, .list [w, .str t]] = ret (.val (.str (intStr l.length))) := by
  rw [call_of (F := f_do_llength) rfl _ _ rfl]
  have := natAbs_small (n := l.length) (Nat.le_trans h.len (by decide))
  simp only [f_do_llength, exs_nil, exs_cons, ex_ite, ex_ret, ex_stuck, v_v, v_c, v_cmp, v_idx, v_call, v_len, v_str, vs_nil, vs_cons, v_cond, mb_ret, lift_some_ret, g_get, gd0, gdS, a_bool, isV_v, so_t, n_t, ↓i_ft, m_nil, m_cons, r_0, ap_n, ap_c, q_ne, o_some, veq_int, mb_fail, if_true, fin_ret, then_next, then_ret, Nat.sub_self, beq_self_eq_true, len2, idl1, hr n, own_len h, this]
theorem c_lrev (n : Nat) {l : List (List Nat)} (w : V) (h : Fine l) : callN (n + 6) 39 [.none, .list [w, .str (joinQ l)]] = ret (.val (.str (joinQ l.reverse))) := by
  rw [call_of (F := f_do_lreverse) rfl _ _ rfl]
  have hl : (l.map V.str).length ≤ lid := by rw [List.length_map]; exact Nat.le_trans h.len (by decide)
  have hr := split_join n h
  have hj := c_join (n + 1) (fine_rev h)
  rw [List.map_reverse] at hj
  cases l with
  | nil => simp [f_do_lreverse, exs_nil, exs_cons, ex_setOwn, ex_ite, ex_ret, ex_stuck, v_v, v_c, v_cmp, v_idx, v_len, v_lenV, vs_nil, vs_cons, v_cond, mb_ret, lift_some_ret, g_get, g_put, a_bool, isV_v, so_t, ↓i_tt, ↓i_ft, r_S, q_eq, q_ne, veq_int, mb_fail, reduceIte, fin_ret, then_next, then_ret, Bool.not_true, Nat.reduceSub, len2, idl1, hr]
  | cons e l =>
    have e0 : (((List.map V.str (e :: l)).length : Int) == 0) = false := by simp; omega
    simp only [List.map_cons] at hl hr hj e0
    simp only [f_do_lreverse, exs_nil, exs_cons, ex_setOwn, ex_revs, ex_ite, ex_ret, ex_retCallOwn, ex_stuck, v_v, v_c, v_cmp, v_idx, v_len, v_lenV, vs_nil, vs_cons, v_cond, mb_ret, lift_some_ret, g_get, g_put, gd0, gdS, st0, stS, a_bool, isV_v, so_t, n_t, ↓i_ft, m_nil, m_cons, r_0, r_S, ap_n, ap_c, q_eq, q_ne, o_some, veq_int, mb_fail, if_true, fin_ret, then_next, then_ret, Nat.reduceSub, beq_self_eq_true, len2, idl1, hr, hl, e0, hj]
theorem c_strrev (n : Nat) {T : List Nat} (a b : V) (hs : Small T) : callN (n + 1) 54 [.none, .list [a, b, .str T]] = ret (.val (.str T.reverse)) := by
  rw [call_of (F := f_string_reverse) rfl _ _ rfl]
  simp only [f_string_reverse, exs_nil, exs_cons, ex_ite, ex_ret, ex_stuck, v_v, v_c, v_cmp, v_idx, v_rev, v_len, v_cond, mb_ret, lift_some_ret, g_get, gd0, gdS, a_bool, isV_v, so_t, n_t, ↓i_ft, m_nil, m_cons, r_0, ap_n, ap_c, q_ne, o_some, veq_int, mb_fail, if_true, fin_ret, then_next, then_ret, Nat.sub_self, beq_self_eq_true, len3, idl2, small_lid hs]
theorem c_dolist (n : Nat) {b : List Nat} (w : V) (h : Fine [b]) : callN (n + 5) 31 [.none, .list [w, .str b]] = ret (.val (.str (joinQ [b]))) := by
  rw [call_of (F := f_do_list) rfl _ _ rfl]
  have := c_join n h
  simp only [List.map_cons, List.map_nil] at this
  simp only [f_do_list, exs_cons, ex_ret, v_v, v_c, v_slF, v_call, vs_nil, vs_cons, mb_ret, lift_some_ret, g_get, gd0, gdS, isV_v, so_t, m_nil, m_cons, r_0, ap_n, ap_c, if_true, fin_ret, then_ret, Nat.sub_self, sl21, this]
theorem c_strcat (n : Nat) {T b : List Nat} (x y : V) (hT : T.length ≤ 20) (hb : b.length ≤ 20) : callN (n + 1) 50 [.none, .list [x, y, .str T, .str b, .str T]] = ret (.val (.str (T ++ (b ++ T)))) := by
  rw [call_of (F := f_string_cat) rfl _ _ rfl]
  have := joinV_e (l := [T, b, T]) (by simp; omega)
  simp only [List.map_cons, List.map_nil, List.flatten_cons, List.flatten_nil, List.append_nil] at this
  simp only [f_string_cat, exs_cons, ex_ret, v_v, v_c, v_slF, v_join, mb_ret, lift_some_ret, g_get, gd0, gdS, a_str, isV_v, so_t, m_nil, m_cons, r_0, ap_n, ap_c, if_true, fin_ret, then_ret, Nat.sub_self, sl52, this]
theorem c_split1 (n : Nat) {T : List Nat} (w : V) (hg : Sg T) (hl : T.length ≤ 20) : callN (n + 5) 37 [.none, .list [w, .str T, .str []]] = ret (.val (.str (joinQ (ones T)))) := by
  have hs : Small T := Nat.le_trans hl (by decide)
  have hj := c_join n (fine_ones hg hl)
  have h1 : callN (n + 4) 30 [.str T, .str []] = ret (.val (.list (T.map fun c => .str [c]))) := by
    rw [call_of (F := f_split_text) rfl _ _ rfl]
    cases T with
    | nil => simp only [f_split_text, exs_nil, exs_cons, ex_ite, ex_ret, v_v, v_c, v_lst, v_cmp, vs_nil, v_cond, mb_ret, lift_some_ret, g_get, gd0, a_bool, ↓i_tt, m_nil, m_cons, r_0, r_S, ap_n, ap_c, q_eq, o_some, veq_str, if_true, fin_ret, then_ret, Nat.reduceSub, beq_self_eq_true, k0, List.length_nil]
    | cons c r => simp only [f_split_text, exs_nil, exs_cons, ex_ite, ex_ret, v_v, v_c, v_lst, v_cmp, v_signs, vs_nil, v_cond, mb_ret, mb_assoc, lift_some_ret, g_get, gd0, gdS, a_bool, ↓i_tt, ↓i_ft, m_nil, m_cons, r_0, r_S, ap_n, ap_c, q_eq, o_some, veq_str, if_true, fin_ret, then_next, then_ret, Nat.reduceSub, beq_cn, beq_self_eq_true, small_lid hs]
  have e : (ones T).map V.str = T.map fun c => V.str [c] := by simp [ones]
  rw [e] at hj
  rw [call_of (F := f_do_split) rfl _ _ rfl]
  simp only [f_do_split, exs_nil, exs_cons, ex_set, ex_ite, ex_ret, ex_stuck, v_v, v_c, v_cmp, v_inT, v_ifx, v_idx, v_call, v_len, vs_nil, vs_cons, v_cond, mb_ret, lift_some_ret, g_get, g_put, gd0, gdS, st0, stS, a_bool, isV_v, so_t, ↓o_t, ↓o_f, n_t, ↓i_tt, ↓i_ft, m_nil, m_cons, r_0, r_S, ap_n, ap_c, q_eq, o_some, veq_int, inConsts_nil, inConsts_int, mb_fail, if_true, fin_ret, then_next, then_ret, Nat.reduceSub, Int.reduceBEq, beq_self_eq_true, Bool.bne_true, len3, idl1, idl2, h1, hj]
end Lr
end
section
set_option maxRecDepth 100000
open PySem
namespace Lr
theorem joinV_sp {l : List (List Nat)} (h : (l.map (·.length)).sum + l.length ≤ 10000) : joinV (.str [32]) (l.map V.str) = some (.str (joinL [32] l)) := by
  have h2 : (l.map (·.length)).sum + l.length * [32].length ≤ lid := by
    simp only [List.length_cons, List.length_nil]
    unfold lid; omega
  simp only [joinV, strsOf_map, if_pos h2]
theorem k0' : (0 : Nat) < lid := by decide
theorem k1' : (1 : Nat) < lid := by decide
theorem k2' : (2 : Nat) < lid := by decide
theorem concat_full (n : Nat) {a b : List Nat} (ha : callN (n + 3) 26 [.str a] = ret (.val (.str a))) (hb : callN (n + 3) 26 [.str b] = ret (.val (.str b))) (na : a ≠ []) (nb : b ≠ []) (la : a.length ≤ 3000) (lb : b.length ≤ 3000) :
    callN (n + 4) 27 [.list [.str a, .str b, .str a]] = ret (.val (.str (a ++ 32 :: (b ++ 32 :: a)))) := by
  rw [call_of (F := f_concat) rfl _ _ rfl]
  have ea : (a == []) = false := by simpa using na
  have eb : (b == []) = false := by simpa using nb
  have hj := joinV_sp (l := [a, b, a]) (by simp; omega)
  simp only [List.map_cons, List.map_nil, joinL, List.append_assoc, List.cons_append, List.nil_append] at hj
  simp only [f_concat, exs_nil, exs_cons, ex_set, ex_newL, ex_app, ex_ite, ex_forL, ex_ret, v_v, v_c, v_cmp, v_call, v_joinV, vs_nil, vs_cons, v_cond, mb_ret, mb_assoc, lift_some_ret, g_get, g_put, gd0, gdS, st0, stS, a_bool, a_str, n_f, ↓i_tt, m_nil, m_cons, r_0, r_S, ap_n, ap_c, q_ne, o_some, veq_str, if_true, fin_ret, then_next, then_ret, Nat.add_one_sub_one, loopL_cons, loopL_nil, ha, hb, ea, eb, k0', k1', k2', List.length_nil, List.length_cons, Nat.zero_add, Nat.reduceAdd, hj]
theorem concat_none (n : Nat) {b : List Nat} (ha : callN (n + 3) 26 [.str []] = ret (.val (.str []))) (hb : callN (n + 3) 26 [.str b] = ret (.val (.str b))) (nb : b ≠ []) (lb : b.length ≤ 3000) :
    callN (n + 4) 27 [.list [.str [], .str b, .str []]] = ret (.val (.str b)) := by
  rw [call_of (F := f_concat) rfl _ _ rfl]
  have eb : (b == []) = false := by simpa using nb
  have hj := joinV_sp (l := [b]) (by simp; exact Nat.le_trans ‹_› (by decide))
  simp only [List.map_cons, List.map_nil, joinL] at hj
  simp only [f_concat, exs_nil, exs_cons, ex_set, ex_newL, ex_app, ex_ite, ex_forL, ex_ret, v_v, v_c, v_cmp, v_call, v_joinV, vs_nil, vs_cons, v_cond, mb_ret, mb_assoc, lift_some_ret, g_get, g_put, gd0, gdS, st0, stS, a_bool, a_str, n_t, n_f, ↓i_tt, ↓i_ft, m_nil, m_cons, r_0, r_S, ap_n, ap_c, q_ne, o_some, veq_str, if_true, fin_ret, then_next, then_ret, Nat.add_one_sub_one, beq_self_eq_true, loopL_cons, loopL_nil, ha, hb, eb, k0', k1', List.length_nil, List.length_cons, Nat.zero_add, hj]
theorem joinQ_ne {l : List (List Nat)} (hn : l ≠ []) (hf : Fine l) : joinQ l ≠ [] := by
  obtain ⟨c, r, h, _⟩ := head_join hn hf.sg
  rw [h]; simp
theorem fine_mid {a : List (List Nat)} {b : List Nat} (ha : Fine a) (hl : a.length ≤ 20) (hb : Fine [b]) : Fine (a ++ b :: a) where
  len := by simp; omega
  sg := fun e he => by
    rcases List.mem_append.mp he with h | h
    · exact ha.sg e h
    · rcases List.mem_cons.mp h with rfl | h
      · exact hb.sg e (.head _)
      · exact ha.sg e h
  sz := fun e he => by
    rcases List.mem_append.mp he with h | h
    · exact ha.sz e h
    · rcases List.mem_cons.mp h with rfl | h
      · exact hb.sz e (.head _)
      · exact ha.sz e h
theorem tailS_app (a b : Row) : tailS (a ++ b) = tailS a ++ tailS b := by simp [tailS]
theorem c_concat (n : Nat) {a : List (List Nat)} {b : List Nat} (w : V) (ha : Fine a) (hl : a.length ≤ 20) (hb : Fine [b]) :
    ∃ t, callN (n + 5) 35 [.none, .list [w, .str (joinQ a), .str (joinQ [b]), .str (joinQ a)]] = ret (.val (.str t)) ∧ Reads t (a ++ b :: a) := by
  have pb := part_join n (by simp) hb
  have nb := joinQ_ne (by simp) hb
  have lb := joinQ_len hb
  have hdo : ∀ r, callN (n + 4) 27 [.list [.str (joinQ a), .str (joinQ [b]), .str (joinQ a)]] = ret (.val r) → callN (n + 5) 35 [.none, .list [w, .str (joinQ a), .str (joinQ [b]), .str (joinQ a)]] = ret (.val r) := fun r h => by
    rw [call_of (F := f_do_concat) rfl _ _ rfl]
    simp only [f_do_concat, exs_cons, ex_ret, v_v, v_c, v_slF, v_call, vs_nil, vs_cons, mb_ret, lift_some_ret, g_get, gd0, gdS, isV_v, so_t, m_nil, m_cons, r_0, ap_n, ap_c, if_true, fin_ret, then_ret, Nat.sub_self, sl41, h]
  cases a with
  | nil =>
    refine ⟨joinQ [b], hdo _ (concat_none n (part_nil n) pb nb (by simp at lb; exact Nat.le_trans ‹_› (by decide))), ?_⟩
    exact reads_join hb
  | cons x a =>
    have pa := part_join n (l := x :: a) (by simp) ha
    have na := joinQ_ne (l := x :: a) (by simp) ha
    have la := joinQ_len ha
    refine ⟨_, hdo _ (concat_full n pa pb na nb (by have := ha.len; omega) (by simp at lb; exact Nat.le_trans ‹_› (by decide))), fun m => ?_⟩
    have hR : joinQ (x :: a) ++ 32 :: (joinQ [b] ++ 32 :: joinQ (x :: a)) = joinS (qrow true (x :: a) ++ (qrow true [b] ++ qrow true (x :: a))) := by
      simp [joinQ, qrow, joinS, tailS]
    rw [hR, c_split m]
    · simp only [elems, List.map_append]
      have e1 := qrow_elems true (x :: a)
      simp only [elems] at e1
      rw [e1]
      rfl
    · intro z hz
      rcases List.mem_append.mp hz with h | h
      · exact qrow_tok true _ ha.sg z h
      · rcases List.mem_append.mp h with h | h
        · exact qrow_tok true _ hb.sg z h
        · exact qrow_tok true _ ha.sg z h
    · rw [← hR]
      unfold Small
      simp only [List.length_append, List.length_cons] at la lb ⊢
      simp at hl lb
      have : (joinQ [b]).length ≤ 43 := by simpa using joinQ_len hb
      omega
    · simp only [List.length_append, qrow_len]
      have := ha.len
      simp at hl ⊢; omega
theorem c_whole (n : Nat) {T b : List Nat} (hT : Sg T) (lT : T.length ≤ 6) (hb : Sg b) (lb : b.length ≤ 3) : callN (n + 7) 65 [.str T, .str (joinQ (ones T)), .str b] = ret (.val (.bool true)) := by
  have hf := fine_ones hT (by exact Nat.le_trans ‹_› (by decide))
  have hfb := fine_one hb (by exact Nat.le_trans ‹_› (by decide))
  have hs : Small T := Nat.le_trans lT (by decide)
  have r1 := c_dojoin n (.str [106, 111, 105, 110]) hf (reads_join hf)
  rw [ones_flat] at r1
  have r2 := c_strlen (n + 5) (.str [115, 116, 114, 105, 110, 103]) (.str [108, 101, 110, 103, 116, 104]) hs
  have r3 := c_llength n (.str [108, 108, 101, 110, 103, 116, 104]) hf (reads_join hf)
  rw [ones_len] at r3
  have r4 := c_lrev n (.str [108, 114, 101, 118, 101, 114, 115, 101]) hf
  have hfr := fine_rev hf
  have r5 := c_dojoin n (.str [106, 111, 105, 110]) hfr (reads_join hfr)
  have e5 : (ones T).reverse.flatten = T.reverse := by
    have : (ones T).reverse = ones T.reverse := by simp [ones]
    rw [this, ones_flat]
  rw [e5] at r5
  have r6 := c_strrev (n + 5) (.str [115, 116, 114, 105, 110, 103]) (.str [114, 101, 118, 101, 114, 115, 101]) hs
  have r7 := c_lrev n (.str [108, 114, 101, 118, 101, 114, 115, 101]) hfr
  rw [List.reverse_reverse] at r7
  have r8 := c_dolist (n + 1) (.str [108, 105, 115, 116]) hfb
  obtain ⟨t, r9, hrd⟩ := c_concat (n + 1) (.str [99, 111, 110, 99, 97, 116]) hf (by rw [ones_len]; omega) hfb
  have hfm := fine_mid hf (by rw [ones_len]; omega) hfb
  have r10 := c_llength n (.str [108, 108, 101, 110, 103, 116, 104]) hfm hrd
  have r11 := c_dojoin n (.str [106, 111, 105, 110]) hfm hrd
  have r12 := c_strcat (n + 5) (T := T) (b := b) (.str [115, 116, 114, 105, 110, 103]) (.str [99, 97, 116]) (by omega) (by exact Nat.le_trans ‹_› (by decide))
  have e10 : ((ones T ++ b :: ones T).length : Int) = 2 * (T.length : Int) + 1 := by simp [ones_len]; omega
  have e11 : (ones T ++ b :: ones T).flatten = T ++ (b ++ T) := by simp [ones_flat]
  rw [e11] at r11
  have q1 := natAbs_small (n := T.length) (by exact Nat.le_trans ‹_› (by decide))
  have q2 : (2 * (T.length : Int) + 1).natAbs < 10 ^ 20 := by
    have : (100000 : Nat) < 10 ^ 20 := by decide
    omega
  have q3 : (2 : Int).natAbs < 2 ^ 200 ∧ (T.length : Int).natAbs < 2 ^ 200 := ⟨by decide, by
    rw [Int.natAbs_natCast]
    have : (6 : Nat) < 2 ^ 200 := by decide
    exact Nat.le_trans ‹_› (by decide)⟩
  rw [e10] at r10
  rw [call_of (F := f_law_whole_right) rfl _ _ rfl]
  simp only [f_law_whole_right, exs_nil, exs_cons, ex_set, ex_ite, ex_ret, v_v, v_c, v_lst, v_bin, v_bo, v_cmp, v_call, v_len, v_str, vs_nil, vs_cons, vB_nil, vB_cons, v_cond, mb_ret, lift_some_ret, g_get, g_put, gd0, gdS, st0, stS, a_bool, n_t, ↓i_ft, m_nil, m_cons, r_0, r_S, ap_n, ap_c, q_eq, q_ne, bi_add, bi_mul, o_some, veq_str, ite_or, if_true, fin_ret, then_next, then_ret, Bool.or_false, Nat.reduceSub, beq_self_eq_true, k2, k3, k4, k5, List.length_cons, List.length_nil, Nat.zero_add, Nat.reduceAdd, r1, r2, r3, r4, r5, r6, r7, r8, r9, r10, r11, r12, len_s hs, q1, q2, if_pos q3]
end Lr
end
section
set_option maxRecDepth 1000000
open PySem
namespace Lr
noncomputable def valsOf (o : Option (Res Bd × Int)) : List V := match o with
  | some (.ok (.val (.list l)), _) => l
  | _ => []
noncomputable def headsV : List V := valsOf (callN 1 56 [] 0)
noncomputable def stepsV : List V := valsOf (callN 1 57 [] 0)
noncomputable def heads : List (List Nat) := (strsOf headsV).getD []
noncomputable def steps : List (List Nat) := (strsOf stepsV).getD []
noncomputable def words : List (List Nat) := heads.flatMap fun h => steps.map fun s => h ++ s
noncomputable def goodT : List (List Nat × Nat × Int) := [
  ([43, 49], 0, 1),
  ([45, 49], 0, -1),
  ([45, 50], 0, -2),
  ([43, 48], 0, 0),
  ([43, 52], 0, 4),
  ([45, 48], 0, 0),
  ([101, 110, 100], 1, 0),
  ([101, 110, 100, 43, 49], 2, 1),
  ([101, 110, 100, 45, 49], 3, 1),
  ([101, 110, 100, 45, 50], 3, 2),
  ([101, 110, 100, 43, 48], 2, 0),
  ([101, 110, 100, 43, 52], 2, 4),
  ([101, 110, 100, 45, 48], 3, 0),
  ([48], 0, 0),
  ([48, 43, 49], 0, 1),
  ([48, 45, 49], 0, -1),
  ([48, 45, 50], 0, -2),
  ([48, 43, 48], 0, 0),
  ([48, 43, 52], 0, 4),
  ([48, 32], 0, 0),
  ([48, 45, 48], 0, 0),
  ([49], 0, 1),
  ([49, 43, 49], 0, 2),
  ([49, 45, 49], 0, 0),
  ([49, 45, 50], 0, -1),
  ([49, 43, 48], 0, 1),
  ([49, 43, 52], 0, 5),
  ([49, 32], 0, 1),
  ([49, 45, 48], 0, 1),
  ([50], 0, 2),
  ([50, 43, 49], 0, 3),
  ([50, 45, 49], 0, 1),
  ([50, 45, 50], 0, 0),
  ([50, 43, 48], 0, 2),
  ([50, 43, 52], 0, 6),
  ([50, 32], 0, 2),
  ([50, 45, 48], 0, 2),
  ([45, 49, 43, 49], 0, 0),
  ([45, 49, 45, 49], 0, -2),
  ([45, 49, 45, 50], 0, -3),
  ([45, 49, 43, 48], 0, -1),
  ([45, 49, 43, 52], 0, 3),
  ([45, 49, 32], 0, -1),
  ([45, 49, 45, 48], 0, -1),
  ([43, 50], 0, 2),
  ([43, 50, 43, 49], 0, 3),
  ([43, 50, 45, 49], 0, 1),
  ([43, 50, 45, 50], 0, 0),
  ([43, 50, 43, 48], 0, 2),
  ([43, 50, 43, 52], 0, 6),
  ([43, 50, 32], 0, 2),
  ([43, 50, 45, 48], 0, 2),
  ([48, 120, 49], 0, 1),
  ([48, 120, 49, 43, 49], 0, 2),
  ([48, 120, 49, 45, 49], 0, 0),
  ([48, 120, 49, 45, 50], 0, -1),
  ([48, 120, 49, 43, 48], 0, 1),
  ([48, 120, 49, 43, 52], 0, 5),
  ([48, 120, 49, 32], 0, 1),
  ([48, 120, 49, 45, 48], 0, 1),
  ([48, 98, 49, 49], 0, 3),
  ([48, 98, 49, 49, 43, 49], 0, 4),
  ([48, 98, 49, 49, 45, 49], 0, 2),
  ([48, 98, 49, 49, 45, 50], 0, 1),
  ([48, 98, 49, 49, 43, 48], 0, 3),
  ([48, 98, 49, 49, 43, 52], 0, 7),
  ([48, 98, 49, 49, 32], 0, 3),
  ([48, 98, 49, 49, 45, 48], 0, 3),
  ([32, 51], 0, 3),
  ([32, 51, 43, 49], 0, 4),
  ([32, 51, 45, 49], 0, 2),
  ([32, 51, 45, 50], 0, 1),
  ([32, 51, 43, 48], 0, 3),
  ([32, 51, 43, 52], 0, 7),
  ([32, 51, 32], 0, 3),
  ([32, 51, 45, 48], 0, 3),
  ([57, 50, 50, 51, 51, 55, 50, 48, 51, 54, 56, 53, 52, 55, 55, 53, 56, 48, 56], 0, 9223372036854775808),
  ([57, 50, 50, 51, 51, 55, 50, 48, 51, 54, 56, 53, 52, 55, 55, 53, 56, 48, 56, 43, 49], 0, 9223372036854775809),
  ([57, 50, 50, 51, 51, 55, 50, 48, 51, 54, 56, 53, 52, 55, 55, 53, 56, 48, 56, 45, 49], 0, 9223372036854775807),
  ([57, 50, 50, 51, 51, 55, 50, 48, 51, 54, 56, 53, 52, 55, 55, 53, 56, 48, 56, 45, 50], 0, 9223372036854775806),
  ([57, 50, 50, 51, 51, 55, 50, 48, 51, 54, 56, 53, 52, 55, 55, 53, 56, 48, 56, 43, 48], 0, 9223372036854775808),
  ([57, 50, 50, 51, 51, 55, 50, 48, 51, 54, 56, 53, 52, 55, 55, 53, 56, 48, 56, 43, 52], 0, 9223372036854775812),
  ([57, 50, 50, 51, 51, 55, 50, 48, 51, 54, 56, 53, 52, 55, 55, 53, 56, 48, 56, 32], 0, 9223372036854775808),
  ([57, 50, 50, 51, 51, 55, 50, 48, 51, 54, 56, 53, 52, 55, 55, 53, 56, 48, 56, 45, 48], 0, 9223372036854775808),
  ([48, 48], 0, 0),
  ([48, 48, 43, 49], 0, 1),
  ([48, 48, 45, 49], 0, -1),
  ([48, 48, 45, 50], 0, -2),
  ([48, 48, 43, 48], 0, 0),
  ([48, 48, 43, 52], 0, 4),
  ([48, 48, 32], 0, 0),
  ([48, 48, 45, 48], 0, 0)]
noncomputable def badL : List (List Nat) := [
  [],
  [45],
  [45, 45, 49],
  [43, 120],
  [32],
  [101, 110, 100, 45],
  [101, 110, 100, 45, 45, 49],
  [101, 110, 100, 43, 120],
  [101, 110, 100, 32],
  [48, 45],
  [48, 45, 45, 49],
  [48, 43, 120],
  [49, 45],
  [49, 45, 45, 49],
  [49, 43, 120],
  [50, 45],
  [50, 45, 45, 49],
  [50, 43, 120],
  [45, 49, 45],
  [45, 49, 45, 45, 49],
  [45, 49, 43, 120],
  [43, 50, 45],
  [43, 50, 45, 45, 49],
  [43, 50, 43, 120],
  [48, 120, 49, 45],
  [48, 120, 49, 45, 45, 49],
  [48, 120, 49, 43, 120],
  [48, 98, 49, 49, 45],
  [48, 98, 49, 49, 45, 45, 49],
  [48, 98, 49, 49, 43, 120],
  [32, 51, 45],
  [32, 51, 45, 45, 49],
  [32, 51, 43, 120],
  [57, 50, 50, 51, 51, 55, 50, 48, 51, 54, 56, 53, 52, 55, 55, 53, 56, 48, 56, 45],
  [57, 50, 50, 51, 51, 55, 50, 48, 51, 54, 56, 53, 52, 55, 55, 53, 56, 48, 56, 45, 45, 49],
  [57, 50, 50, 51, 51, 55, 50, 48, 51, 54, 56, 53, 52, 55, 55, 53, 56, 48, 56, 43, 120],
  [101],
  [101, 43, 49],
  [101, 45, 49],
  [101, 45, 50],
  [101, 43, 48],
  [101, 43, 52],
  [101, 45],
  [101, 45, 45, 49],
  [101, 43, 120],
  [101, 32],
  [101, 45, 48],
  [48, 48, 45],
  [48, 48, 45, 45, 49],
  [48, 48, 43, 120]]
noncomputable def valT (k : Nat) (i last : Int) : Int := match k with
  | 0 => i
  | 1 => last
  | 2 => last + i
  | _ => last - i
noncomputable def xOf (w : List Nat) : Exc := ⟨1, [98, 97, 100, 32, 105, 110, 100, 101, 120, 32, 34] ++ w ++ [34, 58, 32, 109, 117, 115, 116, 32, 98, 101, 32, 105, 110, 116, 101, 103, 101, 114, 63, 91, 43, 45, 93, 105, 110, 116, 101, 103, 101, 114, 63, 32, 111, 114, 32, 101, 110, 100, 63, 91, 43, 45, 93, 105, 110, 116, 101, 103, 101, 114, 63], .tup [.str [84, 67, 76], .str [86, 65, 76, 85, 69], .str [73, 78, 68, 69, 88]]⟩
theorem ix_good (n : Nat) (last p : Int) : (goodT.map fun z => callN (n + 4) 9 [.str z.1, .int last] p) = goodT.map fun z => some (.ok (.val (.int (valT z.2.1 z.2.2 last))), p) := by kernel_rfl
theorem ix_bad (n : Nat) (last p : Int) : (badL.map fun w => callN (n + 4) 9 [.str w, .int last] p) = badL.map fun w => some (.exn (xOf w), p) := by kernel_rfl
theorem words_all : (words.all fun w => goodT.any (fun z => z.1 == w) || badL.any (· == w)) = true := by kernel_rfl
theorem split_words (n : Nat) (p : Int) : ((words.filter fun w => !(w == []) && !w.contains 32).map fun w => callN (n + 5) 20 [.str w] p) = (words.filter fun w => !(w == []) && !w.contains 32).map fun w => some (.ok (.own [.str w]), p) := by kernel_rfl
end Lr
end
section
set_option maxRecDepth 100000
open PySem
namespace Lr
inductive Ix where
  | good (f : Int → Int)
  | bad (x : Exc)
noncomputable def Ix.run : Ix → Int → M Bd
  | .good f, last => ret (.val (.int (f last)))
  | .bad x, _ => thr x
noncomputable def IxIs (w : List Nat) (r : Ix) : Prop := ∀ n last, callN (n + 4) 9 [.str w, .int last] = r.run last
theorem ix_of {w : List Nat} (h : w ∈ words) : ∃ r, IxIs w r ∧ ∀ x, r = .bad x → x = xOf w := by
  have := List.all_eq_true.mp words_all w h
  rw [Bool.or_eq_true] at this
  rcases this with h1 | h1
  · obtain ⟨z, hz, e⟩ := List.any_eq_true.mp h1
    have e : z.1 = w := by simpa using e
    refine ⟨.good (valT z.2.1 z.2.2), fun n last => ?_, fun x e => nomatch e⟩
    funext p
    rw [← e]
    exact List.map_inj_left.mp (ix_good n last p) z hz
  · obtain ⟨z, hz, e⟩ := List.any_eq_true.mp h1
    have e : z = w := by simpa using e
    refine ⟨.bad (xOf w), fun n last => ?_, fun x e => (Ix.bad.inj e).symm⟩
    funext p
    rw [← e]
    exact List.map_inj_left.mp (ix_bad n last p) z hz
theorem reads_word {w : List Nat} (h : w ∈ words) (h0 : (w == []) = false) (h1 : w.contains 32 = false) : Reads w [w] := fun n => by
  funext p
  exact List.map_inj_left.mp (split_words n p) w (List.mem_filter.mpr ⟨h, by rw [h0, h1]; rfl⟩)
inductive Oc where
  | ok (s : List Nat)
  | ex (x : Exc)
noncomputable def Oc.run : Oc → M Bd
  | .ok s => ret (.val (.str s))
  | .ex x => thr x
inductive Lc where
  | ok (l : List (List Nat))
  | ex (x : Exc)
noncomputable def Lc.run : Lc → M Bd
  | .ok l => ret (.val (.str (joinQ l)))
  | .ex x => thr x
noncomputable def Lc.Fine : Lc → Prop
  | .ok l => Lr.Fine l
  | .ex _ => True
noncomputable def Lc.flat : Lc → Oc
  | .ok l => .ok l.flatten
  | .ex x => .ex x
noncomputable def lastOf (T : List Nat) : Int := (T.length : Int) - 1
noncomputable def charAt (T : List Nat) (i : Int) : List Nat := if i < 0 then [] else (T.drop i.toNat).take 1
noncomputable def ocIndex (T : List Nat) : Ix → Oc
  | .good f => .ok (charAt T (f (lastOf T)))
  | .bad x => .ex x
theorem idx_get {T : List Nat} {i : Int} (h0 : ¬ i < 0) (h1 : ¬ (T.length : Int) ≤ i) (hs : Small T) : idx (.str T) (.int i) = some (.str ((T.drop i.toNat).take 1)) := by
  have hk : i.toNat < T.length := by exact (Int.toNat_lt (Int.not_lt.mp ‹_›)).mpr (Int.not_le.mp ‹_›)
  rw [idx_s (k := i.toNat) (c := T[i.toNat]) (by exact (Int.toNat_of_nonneg (Int.not_lt.mp ‹_›)).symm) (List.getElem?_eq_getElem hk) hs]
  rw [List.drop_eq_getElem_cons hk]
  rfl
theorem charAt_out {T : List Nat} {i : Int} (h : i < 0 ∨ (T.length : Int) ≤ i) : charAt T i = [] := by
  unfold charAt
  split
  · rfl
  · rw [List.drop_eq_nil_of_le (by omega)]; rfl
theorem c_strindex (m : Nat) {T w : List Nat} {r : Ix} (a b : V) (hw : IxIs w r) (hs : Small T) : callN (m + 5) 47 [.none, .list [a, b, .str T, .str w]] = (ocIndex T r).run := by
  rw [call_of (F := f_string_index) rfl _ _ rfl]
  have h := hw m (lastOf T)
  unfold lastOf at h
  cases r with
  | bad x =>
    simp only [Ix.run] at h
    simp only [f_string_index, exs_nil, exs_cons, ex_set, ex_ite, ex_stuck, v_v, v_c, v_bin, v_cmp, v_idx, v_call, v_len, vs_nil, vs_cons, v_cond, mb_ret, lift_some_ret, g_get, g_put, gd0, gdS, st0, stS, a_bool, isV_v, so_t, n_t, ↓i_ft, m_nil, m_cons, r_0, r_S, ap_n, ap_c, q_ne, bi_sub, o_some, veq_int, mb_fail, mb_thr, if_true, then_next, Nat.reduceSub, beq_self_eq_true, len4, idl2, idl3, len_s hs, h, ocIndex, Oc.run]
  | good f =>
    simp only [Ix.run] at h
    simp only [ocIndex, Oc.run, lastOf]
    by_cases h0 : f ((T.length : Int) - 1) < 0
    · rw [charAt_out (.inl h0)]
      simp only [f_string_index, exs_nil, exs_cons, ex_set, ex_ite, ex_ret, ex_stuck, v_v, v_c, v_bin, v_bo, v_cmp, v_idx, v_call, v_len, vs_nil, vs_cons, vB_nil, vB_cons, v_cond, mb_ret, lift_some_ret, g_get, g_put, gd0, gdS, st0, stS, a_bool, isV_v, so_t, ↓o_t, n_t, ↓i_tt, ↓i_ft, m_nil, m_cons, r_0, r_S, ap_n, ap_c, q_ne, q_lt, q_ge, bi_sub, o_some, veq_int, ite_or, mb_fail, if_true, fin_ret, then_next, then_ret, Bool.or_false, Nat.reduceSub, decide_true, beq_self_eq_true, len4, idl2, idl3, len_s hs, h, h0]
    · by_cases h1 : (T.length : Int) ≤ f ((T.length : Int) - 1)
      · rw [charAt_out (.inr h1)]
        simp only [f_string_index, exs_nil, exs_cons, ex_set, ex_ite, ex_ret, ex_stuck, v_v, v_c, v_bin, v_bo, v_cmp, v_idx, v_call, v_len, vs_nil, vs_cons, vB_nil, vB_cons, v_cond, mb_ret, lift_some_ret, g_get, g_put, gd0, gdS, st0, stS, a_bool, isV_v, so_t, n_t, ↓i_tt, ↓i_ft, m_nil, m_cons, r_0, r_S, ap_n, ap_c, q_ne, q_lt, q_ge, bi_sub, o_some, veq_int, ite_or, mb_fail, if_true, fin_ret, then_next, then_ret, Bool.or_true, Bool.or_false, Nat.reduceSub, decide_true, decide_false, beq_self_eq_true, len4, idl2, idl3, len_s hs, h, h0, h1]
      · have hi := idx_get h0 h1 hs
        simp only [f_string_index, exs_nil, exs_cons, ex_set, ex_ite, ex_ret, ex_stuck, v_v, v_c, v_bin, v_bo, v_cmp, v_idx, v_call, v_len, vs_nil, vs_cons, vB_nil, vB_cons, v_cond, mb_ret, lift_some_ret, g_get, g_put, gd0, gdS, st0, stS, a_bool, isV_v, isV_idx, so_t, so_f, n_t, ↓i_ft, m_nil, m_cons, r_0, r_S, ap_n, ap_c, q_ne, q_lt, q_ge, bi_sub, o_some, veq_int, ite_or, mb_fail, if_true, if_false, fin_ret, then_next, then_ret, Bool.or_false, Nat.reduceSub, decide_false, beq_self_eq_true, len4, idl2, idl3, len_s hs, h, h0, h1, hi, charAt]
theorem own_len1 {T : List Nat} (hl : T.length ≤ 20) : lenOf (.list ((ones T).map V.str)) = some (.int T.length) := by
  have h := (ones_len T)
  have : ((ones T).map V.str).length ≤ lid := by rw [List.length_map, h]; exact Nat.le_trans hl (by decide)
  rw [lenOf, if_pos this, List.length_map, h]
theorem idx_ones {T : List Nat} {i : Int} (h0 : ¬ i < 0) (h1 : ¬ (T.length : Int) ≤ i) (hl : T.length ≤ 20) : idx (.list ((ones T).map V.str)) (.int i) = some (.str ((T.drop i.toNat).take 1)) := by
  have hk : i.toNat < T.length := by exact (Int.toNat_lt (Int.not_lt.mp ‹_›)).mpr (Int.not_le.mp ‹_›)
  rw [idx_list, if_pos ⟨by exact Int.not_lt.mp ‹_›, by omega⟩]
  simp [ones, List.getElem?_eq_getElem hk]
  rw [List.drop_eq_getElem_cons hk]
  rfl
theorem intsTo1 : intsTo 1 = [.int 0] := rfl
theorem c_lindex (m : Nat) {T w : List Nat} {r : Ix} (a : V) (hT : Sg T) (hl : T.length ≤ 20) (hw : IxIs w r) (hr : Reads w [w]) : callN (m + 7) 33 [.none, .list [a, .str (joinQ (ones T)), .str w]] = (ocIndex T r).run := by
  have hf := fine_ones hT hl
  have h1 : callN (m + 6) 28 [.list [.str w]] = ret (.val (.list [.str w])) := by
    rw [call_of (F := f_indices_of) rfl _ _ rfl]
    have := hr m
    simp only [List.map_cons, List.map_nil] at this
    simp only [f_indices_of, exs_nil, exs_cons, ex_ite, ex_ret, ex_tryOk, v_v, v_c, v_cmp, v_idx, v_call, v_len, vs_nil, vs_cons, v_cond, mb_ret, lift_some_ret, g_get, gd0, a_bool, isV_v, so_t, n_t, ↓i_ft, m_nil, m_cons, r_0, ap_n, ap_c, q_ne, o_some, veq_int, if_true, fin_ret, then_next, then_ret, try_ret, Nat.sub_self, beq_self_eq_true, len1, idl0, this, try_ret]
  have h2 : callN (m + 6) 29 [.str (joinQ (ones T)), .list [.str w]] = (ocIndex T r).run := by
    rw [call_of (F := f_at_path) rfl _ _ rfl]
    have h := hw (m + 1) (lastOf T)
    have hsp := split_join m hf
    have hlen := own_len1 hl
    unfold lastOf at h
    cases r with
    | bad x =>
      simp only [Ix.run] at h
      simp only [f_at_path, exs_cons, ex_set, ex_forR, v_v, v_c, v_bin, v_idx, v_call, v_len, vs_nil, vs_cons, mb_ret, lift_some_ret, g_get, g_put, gd0, gdS, st0, stS, isV_v, so_t, m_nil, m_cons, r_0, r_S, ap_n, ap_c, bi_sub, mb_thr, if_true, then_next, Nat.reduceSub, len1, idl0, h, ocIndex, Oc.run, show (1 : Int).natAbs ≤ lid by decide, show (1 : Int).toNat = 1 from rfl, intsTo1, loopL_cons, loopL_nil, hsp, hlen]
    | good f =>
      simp only [Ix.run] at h
      simp only [ocIndex, Oc.run, lastOf]
      by_cases h0 : f ((T.length : Int) - 1) < 0
      · rw [charAt_out (.inl h0)]
        have hsl : slice (.list [V.str w]) (0 + 1) none = some (.list []) := rfl
        simp only [f_at_path, exs_nil, exs_cons, ex_set, ex_ite, ex_forL, ex_forR, ex_ret, v_v, v_c, v_bin, v_bo, v_cmp, v_idx, v_slF, v_call, v_len, vs_nil, vs_cons, vB_nil, vB_cons, v_cond, mb_ret, lift_some_ret, g_get, g_put, gd0, gdS, st0, stS, a_bool, isV_v, so_t, ↓o_t, ↓i_tt, m_nil, m_cons, r_0, r_S, ap_n, ap_c, q_lt, q_ge, bi_add, bi_sub, o_some, ite_or, if_true, fin_ret, then_next, then_ret, Bool.or_false, Nat.reduceSub, decide_true, len1, idl0, h, show (1 : Int).natAbs ≤ lid by decide, show (1 : Int).toNat = 1 from rfl, intsTo1, loopL_cons, loopL_nil, hsp, hlen, h0, Int.zero_add, show slice (.list [V.str w]) 1 none = some (.list []) from rfl]
      · by_cases h1 : (T.length : Int) ≤ f ((T.length : Int) - 1)
        · rw [charAt_out (.inr h1)]
          simp only [f_at_path, exs_nil, exs_cons, ex_set, ex_ite, ex_forL, ex_forR, ex_ret, v_v, v_c, v_bin, v_bo, v_cmp, v_idx, v_slF, v_call, v_len, vs_nil, vs_cons, vB_nil, vB_cons, v_cond, mb_ret, lift_some_ret, g_get, g_put, gd0, gdS, st0, stS, a_bool, isV_v, so_t, ↓i_tt, m_nil, m_cons, r_0, r_S, ap_n, ap_c, q_lt, q_ge, bi_add, bi_sub, o_some, ite_or, if_true, fin_ret, then_next, then_ret, Bool.or_true, Bool.or_false, Nat.reduceSub, decide_true, decide_false, len1, idl0, h, show (1 : Int).natAbs ≤ lid by decide, show (1 : Int).toNat = 1 from rfl, intsTo1, loopL_cons, loopL_nil, hsp, hlen, h0, h1, Int.zero_add, show slice (.list [V.str w]) 1 none = some (.list []) from rfl]
        · have hi := idx_ones h0 h1 hl
          simp only [f_at_path, exs_nil, exs_cons, ex_set, ex_ite, ex_forL, ex_forR, ex_ret, v_v, v_c, v_bin, v_bo, v_cmp, v_idx, v_slF, v_call, v_len, vs_nil, vs_cons, vB_nil, vB_cons, v_cond, mb_ret, mb_assoc, lift_some_ret, g_get, g_put, gd0, gdS, st0, stS, a_bool, isV_v, so_t, ↓i_ft, m_nil, m_cons, r_0, r_S, ap_n, ap_c, q_lt, q_ge, bi_add, bi_sub, o_some, ite_or, if_true, if_false, fin_ret, then_next, then_ret, Bool.or_false, Nat.reduceSub, Int.reduceAdd, decide_false, len1, idl0, h, show (1 : Int).natAbs ≤ lid by decide, show (1 : Int).toNat = 1 from rfl, intsTo1, loopL_cons, loopL_nil, hsp, hlen, h0, h1, hi, charAt]
  rw [call_of (F := f_do_lindex) rfl _ _ rfl]
  cases r with
  | bad x =>
    simp only [ocIndex, Oc.run] at h2 ⊢
    simp only [f_do_lindex, exs_nil, exs_cons, ex_ite, ex_ret, ex_stuck, v_v, v_c, v_cmp, v_idx, v_slF, v_call, v_len, vs_nil, vs_cons, v_cond, mb_ret, lift_some_ret, g_get, gd0, gdS, a_bool, isV_v, so_t, ↓i_ft, m_nil, m_cons, r_0, ap_n, ap_c, q_lt, o_some, mb_fail, mb_thr, if_true, then_next, Nat.sub_self, Int.reduceLT, decide_false, len3, idl1, sl32, h1, h2]
  | good f =>
    simp only [ocIndex, Oc.run] at h2 ⊢
    simp only [f_do_lindex, exs_nil, exs_cons, ex_ite, ex_ret, ex_stuck, v_v, v_c, v_cmp, v_idx, v_slF, v_call, v_len, vs_nil, vs_cons, v_cond, mb_ret, lift_some_ret, g_get, gd0, gdS, a_bool, isV_v, so_t, ↓i_ft, m_nil, m_cons, r_0, ap_n, ap_c, q_lt, o_some, mb_fail, if_true, fin_ret, then_next, then_ret, Nat.sub_self, Int.reduceLT, decide_false, len3, idl1, sl32, h1, h2]
noncomputable def mx (i j : Int) : Int := if i < j then j else i
noncomputable def mn (i j : Int) : Int := if j < i then j else i
theorem mx_eq (i j : Int) : (if i < j then j else i) = mx i j := rfl
theorem mn_eq (i j : Int) : (if j < i then j else i) = mn i j := rfl
theorem mx_max (i j : Int) : mx i j = max i j := by unfold mx; omega
theorem mn_min (i j : Int) : mn i j = min i j := by unfold mn; omega
theorem slice_l {l : List V} {lo hi : Int} (h1 : 0 ≤ lo) (h2 : 0 ≤ hi) (h3 : l.length ≤ lid) : slice (.list l) lo (some hi) = some (.list ((l.take hi.toNat).drop lo.toNat)) := by
  rw [slice_list2, if_pos ⟨h1, h2, h3⟩]
theorem ones_map (T : List Nat) : (ones T).map V.str = T.map fun c => V.str [c] := by simp [ones]
theorem ones_cut (T : List Nat) (a b : Nat) : (((ones T).map V.str).take a).drop b = (ones ((T.take a).drop b)).map V.str := by
  rw [ones_map, ones_map, List.map_drop, List.map_take]
theorem sg_cut {T : List Nat} (h : Sg T) (a b : Nat) : Sg ((T.take a).drop b) := fun c hc => h c (List.mem_of_mem_take (List.mem_of_mem_drop hc))
theorem ones_lid {T : List Nat} (hl : T.length ≤ 20) : ((ones T).map V.str).length ≤ lid := by
  rw [List.length_map, ones_len]; exact Nat.le_trans hl (by decide)
noncomputable def cutR (T : List Nat) (i j : Int) : List Nat := (T.take (mx (-1) (mn j (lastOf T)) + 1).toNat).drop (mx 0 (mn i (lastOf T + 1))).toNat
noncomputable def lcRange (T : List Nat) : Ix → Ix → Lc
  | .bad x, _ => .ex x
  | .good _, .bad x => .ex x
  | .good f, .good g => .ok (ones (cutR T (f (lastOf T)) (g (lastOf T))))
theorem c_lrange (m : Nat) {T w v : List Nat} {r q : Ix} (a : V) (hT : Sg T) (hl : T.length ≤ 20) (hw : IxIs w r) (hv : IxIs v q) : callN (m + 6) 34 [.none, .list [a, .str (joinQ (ones T)), .str w, .str v]] = (lcRange T r q).run ∧ (lcRange T r q).Fine := by
  have hf := fine_ones hT hl
  have hsp := split_join m hf
  have hlen := own_len1 hl
  have h1 := hw m (lastOf T)
  have h2 := hv m (lastOf T)
  unfold lastOf at h1 h2
  rw [call_of (F := f_do_lrange) rfl _ _ rfl]
  cases r with
  | bad x =>
    have h3 : callN (m + 5) 11 [.str w, .str v, .int ((T.length : Int) - 1)] = thr x := by
      rw [call_of (F := f_need_index_pair) rfl _ _ rfl]
      simp only [Ix.run] at h1
      simp only [f_need_index_pair, exs_cons, ex_set, v_v, v_call, vs_nil, vs_cons, mb_ret, lift_some_ret, g_get, g_put, gd0, gdS, st0, stS, m_nil, m_cons, r_0, r_S, ap_n, ap_c, mb_thr, Nat.reduceSub, h1]
    exact ⟨by simp only [f_do_lrange, exs_nil, exs_cons, ex_set, ex_set2, ex_ite, ex_stuck, v_v, v_c, v_bin, v_cmp, v_idx, v_call, v_len, vs_nil, vs_cons, v_cond, mb_ret, lift_some_ret, g_get, g_put, gd0, gdS, st0, stS, a_bool, isV_v, so_t, n_t, ↓i_ft, m_nil, m_cons, r_0, r_S, ap_n, ap_c, q_ne, bi_sub, o_some, veq_int, mb_fail, mb_thr, if_true, then_next, Nat.reduceSub, beq_self_eq_true, len4, idl1, idl2, idl3, hsp, hlen, h3, lcRange, Lc.run], trivial⟩
  | good f =>
    cases q with
    | bad x =>
      have h3 : callN (m + 5) 11 [.str w, .str v, .int ((T.length : Int) - 1)] = thr x := by
        rw [call_of (F := f_need_index_pair) rfl _ _ rfl]
        simp only [Ix.run] at h1 h2
        simp only [f_need_index_pair, exs_cons, ex_set, v_v, v_call, vs_nil, vs_cons, mb_ret, lift_some_ret, g_get, g_put, gd0, gdS, st0, stS, m_nil, m_cons, r_0, r_S, ap_n, ap_c, mb_thr, then_next, Nat.reduceSub, h1, h2]
      exact ⟨by simp only [f_do_lrange, exs_nil, exs_cons, ex_set, ex_set2, ex_ite, ex_stuck, v_v, v_c, v_bin, v_cmp, v_idx, v_call, v_len, vs_nil, vs_cons, v_cond, mb_ret, lift_some_ret, g_get, g_put, gd0, gdS, st0, stS, a_bool, isV_v, so_t, n_t, ↓i_ft, m_nil, m_cons, r_0, r_S, ap_n, ap_c, q_ne, bi_sub, o_some, veq_int, mb_fail, mb_thr, if_true, then_next, Nat.reduceSub, beq_self_eq_true, len4, idl1, idl2, idl3, hsp, hlen, h3, lcRange, Lc.run], trivial⟩
    | good g =>
      simp only [Ix.run] at h1 h2
      have h3 : callN (m + 5) 11 [.str w, .str v, .int ((T.length : Int) - 1)] = ret (.val (.tup [.int (mx 0 (mn (f (lastOf T)) (lastOf T + 1))), .int (mx (-1) (mn (g (lastOf T)) (lastOf T)))])) := by
        rw [call_of (F := f_need_index_pair) rfl _ _ rfl]
        simp only [f_need_index_pair, exs_cons, ex_set, ex_ret, v_v, v_c, v_tup, v_bin, v_neg, v_call, v_max, v_min, vs_nil, vs_cons, mb_ret, lift_some_ret, g_get, g_put, gd0, gdS, st0, stS, a_int, m_nil, m_cons, r_0, r_S, ap_n, ap_c, bi_add, o_some, if_true, fin_ret, then_next, then_ret, Nat.reduceSub, Int.reduceNeg, h1, h2, mx_eq, mn_eq, k2, List.length_cons, List.length_nil, Nat.zero_add, Nat.reduceAdd, lastOf]
      have p1 : 0 ≤ mx 0 (mn (f (lastOf T)) (lastOf T + 1)) := by unfold mx; omega
      have p2 : 0 ≤ mx (-1) (mn (g (lastOf T)) (lastOf T)) + 1 := by unfold mx; omega
      have hc := slice_l (l := (ones T).map V.str) p1 p2 (ones_lid hl)
      rw [ones_cut] at hc
      have hf2 : Fine (ones (cutR T (f (lastOf T)) (g (lastOf T)))) := fine_ones (sg_cut hT _ _) (by unfold cutR; rw [List.length_drop, List.length_take]; omega)
      have hj := c_join (m + 1) hf2
      rw [cutR] at hj hf2
      refine ⟨?_, by show Fine _; rw [cutR]; exact hf2⟩
      simp only [f_do_lrange, exs_nil, exs_cons, ex_set, ex_set2, ex_ite, ex_ret, ex_stuck, v_v, v_c, v_bin, v_cmp, v_idx, v_sl, v_call, v_len, vs_nil, vs_cons, v_cond, mb_ret, lift_some_ret, g_get, g_put, gd0, gdS, st0, stS, a_bool, isV_v, so_t, n_t, ↓i_ft, m_nil, m_cons, r_0, r_S, ap_n, ap_c, q_ne, bi_add, bi_sub, o_some, veq_int, mb_fail, if_true, fin_ret, then_next, then_ret, Nat.reduceSub, Int.reduceNeg, beq_self_eq_true, len4, idl1, idl2, idl3, hsp, hlen, h3, lcRange, Lc.run, hc, hj, cutR]
noncomputable def cutS (T : List Nat) (i j : Int) : List Nat := if j < mx i 0 then [] else (T.take (j + 1).toNat).drop (mx i 0).toNat
noncomputable def ocRange (T : List Nat) : Ix → Ix → Oc
  | .bad x, _ => .ex x
  | .good _, .bad x => .ex x
  | .good f, .good g => .ok (cutS T (f (lastOf T)) (g (lastOf T)))
theorem slice_st {l : List Nat} {lo hi : Int} (h1 : 0 ≤ lo) (h2 : 0 ≤ hi) (h3 : Small l) : slice (.str l) lo (some hi) = some (.str ((l.take hi.toNat).drop lo.toNat)) := by
  rw [slice_str2, if_pos ⟨h1, h2, small_lid h3⟩]
theorem c_strrange (m : Nat) {T w v : List Nat} {r q : Ix} (a b : V) (hs : Small T) (hw : IxIs w r) (hv : IxIs v q) : callN (m + 5) 49 [.none, .list [a, b, .str T, .str w, .str v]] = (ocRange T r q).run := by
  have h1 : callN (m + 4) 9 [.str w, .int ((T.length : Int) - 1)] = r.run (lastOf T) := hw m (lastOf T)
  have h2 : callN (m + 4) 9 [.str v, .int ((T.length : Int) - 1)] = q.run (lastOf T) := hv m (lastOf T)
  rw [call_of (F := f_string_range) rfl _ _ rfl]
  cases r with
  | bad x =>
    simp only [Ix.run] at h1
    simp only [f_string_range, exs_nil, exs_cons, ex_set, ex_ite, ex_stuck, v_v, v_c, v_bin, v_cmp, v_idx, v_call, v_len, vs_nil, vs_cons, v_cond, mb_ret, lift_some_ret, g_get, g_put, gd0, gdS, st0, stS, a_bool, isV_v, so_t, n_t, ↓i_ft, m_nil, m_cons, r_0, r_S, ap_n, ap_c, q_ne, bi_sub, o_some, veq_int, mb_fail, mb_thr, if_true, then_next, Nat.reduceSub, beq_self_eq_true, len5, idl2, idl3, len_s hs, h1, ocRange, Oc.run]
  | good f =>
    cases q with
    | bad x =>
      simp only [Ix.run] at h1 h2
      simp only [f_string_range, exs_nil, exs_cons, ex_set, ex_ite, ex_stuck, v_v, v_c, v_bin, v_cmp, v_idx, v_call, v_len, vs_nil, vs_cons, v_cond, mb_ret, lift_some_ret, g_get, g_put, gd0, gdS, st0, stS, a_bool, isV_v, so_t, n_t, ↓i_ft, m_nil, m_cons, r_0, r_S, ap_n, ap_c, q_ne, bi_sub, o_some, veq_int, mb_fail, mb_thr, if_true, then_next, Nat.reduceSub, beq_self_eq_true, len5, idl2, idl3, idl4, len_s hs, h1, h2, ocRange, Oc.run]
    | good g =>
      simp only [Ix.run] at h1 h2
      simp only [ocRange, Oc.run]
      generalize f (lastOf T) = i at h1 ⊢
      generalize g (lastOf T) = j at h2 ⊢
      unfold cutS
      by_cases h0 : i < 0
      · have e : mx i 0 = 0 := by unfold mx; exact if_pos ‹_›
        rw [e]
        by_cases h3 : j < 0
        · simp only [f_string_range, exs_nil, exs_cons, ex_set, ex_ite, ex_ret, ex_stuck, v_v, v_c, v_bin, v_cmp, v_idx, v_call, v_len, vs_nil, vs_cons, v_cond, mb_ret, lift_some_ret, g_get, g_put, gd0, gdS, st0, stS, a_bool, isV_v, so_t, n_t, ↓i_tt, ↓i_ft, m_nil, m_cons, r_0, r_S, ap_n, ap_c, q_ne, q_lt, bi_sub, o_some, veq_int, mb_fail, if_true, fin_ret, then_next, then_ret, Nat.reduceSub, decide_true, beq_self_eq_true, len5, idl2, idl3, idl4, len_s hs, h1, h2, h0, h3]
        · have hc := slice_st (l := T) (lo := 0) (hi := j + 1) (by exact Int.le_refl _) (by exact Int.le_of_lt (Int.not_le.mp ‹_›)) hs
          simp only [f_string_range, exs_nil, exs_cons, ex_set, ex_ite, ex_ret, ex_stuck, v_v, v_c, v_bin, v_cmp, v_idx, v_sl, v_call, v_len, vs_nil, vs_cons, v_cond, mb_ret, lift_some_ret, g_get, g_put, gd0, gdS, st0, stS, a_bool, isV_v, isV_idx, so_t, so_f, n_t, ↓i_tt, ↓i_ft, m_nil, m_cons, r_0, r_S, ap_n, ap_c, q_ne, q_lt, bi_add, bi_sub, o_some, veq_int, mb_fail, if_true, if_false, fin_ret, then_next, then_ret, Nat.reduceSub, decide_true, decide_false, beq_self_eq_true, len5, idl2, idl3, idl4, len_s hs, h1, h2, h0, h3, hc]
      · have e : mx i 0 = i := by unfold mx; exact if_neg ‹_›
        rw [e]
        by_cases h3 : j < i
        · simp only [f_string_range, exs_nil, exs_cons, ex_set, ex_ite, ex_ret, ex_stuck, v_v, v_c, v_bin, v_cmp, v_idx, v_call, v_len, vs_nil, vs_cons, v_cond, mb_ret, lift_some_ret, g_get, g_put, gd0, gdS, st0, stS, a_bool, isV_v, so_t, n_t, ↓i_tt, ↓i_ft, m_nil, m_cons, r_0, r_S, ap_n, ap_c, q_ne, q_lt, bi_sub, o_some, veq_int, mb_fail, if_true, fin_ret, then_next, then_ret, Nat.reduceSub, decide_true, decide_false, beq_self_eq_true, len5, idl2, idl3, idl4, len_s hs, h1, h2, h0, h3]
        · have hc := slice_st (l := T) (lo := i) (hi := j + 1) (by exact Int.not_lt.mp ‹_›) (by omega) hs
          simp only [f_string_range, exs_nil, exs_cons, ex_set, ex_ite, ex_ret, ex_stuck, v_v, v_c, v_bin, v_cmp, v_idx, v_sl, v_call, v_len, vs_nil, vs_cons, v_cond, mb_ret, lift_some_ret, g_get, g_put, gd0, gdS, st0, stS, a_bool, isV_v, isV_idx, so_t, so_f, n_t, ↓i_ft, m_nil, m_cons, r_0, r_S, ap_n, ap_c, q_ne, q_lt, bi_add, bi_sub, o_some, veq_int, mb_fail, if_true, if_false, fin_ret, then_next, then_ret, Nat.reduceSub, decide_false, beq_self_eq_true, len5, idl2, idl3, idl4, len_s hs, h1, h2, h0, h3, hc]
end Lr
end
section
set_option maxRecDepth 100000
open PySem
namespace Lr
theorem mkL_ok {l : List V} (h : l.length ≤ 100000) : mkL l = some (.list l) := by
  unfold mkL
  rw [if_pos (Nat.le_trans h (by decide))]
theorem sliceT_l {l : List V} {hi : Int} (h2 : 0 ≤ hi) (h3 : l.length ≤ lid) : sliceT (.list l) hi = some (.list (l.take hi.toNat)) := by
  rw [sliceT_list, if_pos ⟨h2, h3⟩]
theorem sliceF_l {l : List V} {lo : Int} (h2 : 0 ≤ lo) (h3 : l.length ≤ lid) : slice (.list l) lo none = some (.list (l.drop lo.toNat)) := by
  rw [slice_list1, if_pos ⟨h2, h3⟩]
theorem sliceT_s {l : List Nat} {hi : Int} (h2 : 0 ≤ hi) (h3 : Small l) : sliceT (.str l) hi = some (.str (l.take hi.toNat)) := by
  rw [sliceT_str, if_pos ⟨h2, small_lid h3⟩]
theorem sliceF_s {l : List Nat} {lo : Int} (h2 : 0 ≤ lo) (h3 : Small l) : slice (.str l) lo none = some (.str (l.drop lo.toNat)) := by
  rw [slice_str1, if_pos ⟨h2, small_lid h3⟩]
noncomputable def pB (n i : Int) : Int := mx 0 (mn i n)
noncomputable def pE (n i j : Int) : Int := mx (pB n i) (mn (j + 1) n)
theorem c_replaced (m : Nat) {L M : List V} (i j : Int) (hL : L.length ≤ 1000) (hM : M.length ≤ 1000) : callN (m + 1) 40 [.list L, .int i, .int j, .list M] =
    ret (.val (.list (L.take (pB L.length i).toNat ++ M ++ L.drop (pE L.length i j).toNat))) := by
  have hl : L.length ≤ lid := Nat.le_trans hL (by decide)
  have hlen : lenOf (.list L) = some (.int L.length) := by rw [lenOf, if_pos hl]
  have p1 : 0 ≤ pB L.length i := by unfold pB mx; omega
  have p2 : 0 ≤ pE L.length i j := by unfold pE mx; omega
  have h1 := sliceT_l (l := L) p1 hl
  have h2 := sliceF_l (l := L) p2 hl
  have h3 : mkL (L.take (pB L.length i).toNat ++ M) = some (.list (L.take (pB L.length i).toNat ++ M)) := mkL_ok (by rw [List.length_append, List.length_take]; omega)
  have h4 : mkL (L.take (pB L.length i).toNat ++ M ++ L.drop (pE L.length i j).toNat) = some (.list (L.take (pB L.length i).toNat ++ M ++ L.drop (pE L.length i j).toNat)) := mkL_ok (Nat.le_trans (cut_len _ _ _ _) (by omega))
  unfold pE at h2 h4 ⊢
  unfold pB at h1 h2 h3 h4 ⊢
  rw [call_of (F := f_replaced) rfl _ _ rfl]
  simp only [f_replaced, exs_cons, ex_set, ex_ret, v_v, v_c, v_bin, v_slF, v_slT, v_len, v_max, v_min, mb_ret, lift_some_ret, g_get, g_put, gd0, gdS, st0, stS, isV_v, so_t, m_nil, m_cons, r_0, r_S, ap_n, ap_c, bi_add, bi_addl, if_true, fin_ret, then_next, then_ret, Nat.reduceSub, hlen, mx_eq, mn_eq, h1, h2, h3, h4]
noncomputable def replL (T : List Nat) (Ml : List (List Nat)) (i j : Int) : List (List Nat) := ones (T.take (pB T.length i).toNat) ++ Ml ++ ones (T.drop (pE T.length i j).toNat)
theorem ones_take (T : List Nat) (a : Nat) : ((ones T).map V.str).take a = (ones (T.take a)).map V.str := by
  rw [ones_map, ones_map, List.map_take]
theorem ones_drop (T : List Nat) (a : Nat) : ((ones T).map V.str).drop a = (ones (T.drop a)).map V.str := by
  rw [ones_map, ones_map, List.map_drop]
theorem c_repl (m : Nat) {T : List Nat} {Ml : List (List Nat)} (i j : Int) (hl : T.length ≤ 20) (hM : Ml.length ≤ 10) : callN (m + 1) 40 [.list ((ones T).map V.str), .int i, .int j, .list (Ml.map V.str)] = ret (.val (.list ((replL T Ml i j).map V.str))) := by
  have h0 : ((ones T).map V.str).length = T.length := by rw [List.length_map, ones_len]
  rw [c_replaced m i j (by omega) (by rw [List.length_map]; exact Nat.le_trans ‹_› (by decide)), h0, ones_take, ones_drop, ← List.map_append, ← List.map_append]
  rfl
theorem fine_app {a b : List (List Nat)} (ha : Fine a) (hb : Fine b) (h : a.length + b.length ≤ 60) : Fine (a ++ b) where
  len := by rw [List.length_append]; exact h
  sg := fun e he => (List.mem_append.mp he).elim (ha.sg e) (hb.sg e)
  sz := fun e he => (List.mem_append.mp he).elim (ha.sz e) (hb.sz e)
theorem sg_take {T : List Nat} (h : Sg T) (a : Nat) : Sg (T.take a) := fun c hc => h c (List.mem_of_mem_take hc)
theorem sg_drop {T : List Nat} (h : Sg T) (a : Nat) : Sg (T.drop a) := fun c hc => h c (List.mem_of_mem_drop hc)
theorem fine_repl {T : List Nat} {Ml : List (List Nat)} (hT : Sg T) (hl : T.length ≤ 20) (hM : Fine Ml) (hM2 : Ml.length ≤ 10) (i j : Int) : Fine (replL T Ml i j) := by
  have h1 := fine_ones (sg_take hT (pB T.length i).toNat) (by rw [List.length_take]; exact Nat.le_trans (Nat.min_le_right _ _) ‹_›)
  have h2 := fine_ones (sg_drop hT (pE T.length i j).toNat) (by rw [List.length_drop]; exact Nat.le_trans (Nat.sub_le _ _) ‹_›)
  have l1 : (T.take (pB T.length i).toNat).length ≤ 20 := by rw [List.length_take]; exact Nat.le_trans (Nat.min_le_right _ _) ‹_›
  have l2 : (T.drop (pE T.length i j).toNat).length ≤ 20 := by rw [List.length_drop]; exact Nat.le_trans (Nat.sub_le _ _) ‹_›
  refine fine_app (fine_app h1 hM ?_) h2 ?_
  · rw [ones_len]; exact Nat.le_trans (Nat.add_le_add ‹_› ‹_›) (by decide)
  · rw [List.length_append, ones_len, ones_len]; omega
noncomputable def lcInsert (T b : List Nat) : Ix → Lc
  | .bad x => .ex x
  | .good f => .ok (replL T [b] (f T.length) (f T.length - 1))
theorem c_linsert (m : Nat) {T w b : List Nat} {r : Ix} (a : V) (hT : Sg T) (hl : T.length ≤ 20) (hw : IxIs w r) (hb : Fine [b]) : callN (m + 6) 42 [.none, .list [a, .str (joinQ (ones T)), .str w, .str b]] = (lcInsert T b r).run ∧ (lcInsert T b r).Fine := by
  have hsp := split_join m (fine_ones hT hl)
  have hlen := own_len1 hl
  have h1 : callN (m + 5) 9 [.str w, .int (T.length : Int)] = r.run T.length := hw (m + 1) T.length
  rw [call_of (F := f_do_linsert) rfl _ _ rfl]
  cases r with
  | bad x =>
    simp only [Ix.run] at h1
    exact ⟨by simp only [f_do_linsert, exs_nil, exs_cons, ex_set, ex_ite, ex_stuck, v_v, v_c, v_cmp, v_idx, v_call, v_len, vs_nil, vs_cons, v_cond, mb_ret, lift_some_ret, g_get, g_put, gd0, gdS, st0, stS, a_bool, isV_v, so_t, ↓i_ft, m_nil, m_cons, r_0, r_S, ap_n, ap_c, q_lt, o_some, mb_fail, mb_thr, if_true, then_next, Nat.reduceSub, Int.reduceLT, decide_false, len4, idl1, idl2, hsp, hlen, h1, lcInsert, Lc.run], trivial⟩
  | good f =>
    simp only [Ix.run] at h1
    have hf := fine_repl hT hl hb (by simp) (f T.length) (f T.length - 1)
    refine ⟨?_, hf⟩
    have h2 := c_repl (m + 3) (T := T) (Ml := [b]) (f T.length) (f T.length - 1) hl (by simp)
    have h3 : callN (m + 5) 41 [.list ((ones T).map V.str), .int (f T.length), .list [.str b]] = ret (.val (.list ((replL T [b] (f T.length) (f T.length - 1)).map V.str))) := by
      rw [call_of (F := f_inserted) rfl _ _ rfl]
      simp only [List.map_cons, List.map_nil] at h2
      simp only [f_inserted, exs_cons, ex_ret, v_v, v_c, v_bin, v_call, vs_nil, vs_cons, mb_ret, lift_some_ret, g_get, gd0, gdS, m_nil, m_cons, r_0, ap_n, ap_c, bi_sub, fin_ret, then_ret, Nat.sub_self, h2]
    have hj := c_join (m + 1) hf
    simp only [f_do_linsert, exs_nil, exs_cons, ex_set, ex_ite, ex_ret, ex_stuck, v_v, v_c, v_cmp, v_idx, v_slF, v_call, v_len, vs_nil, vs_cons, v_cond, mb_ret, lift_some_ret, g_get, g_put, gd0, gdS, st0, stS, a_bool, isV_v, so_t, ↓i_ft, m_nil, m_cons, r_0, r_S, ap_n, ap_c, q_lt, o_some, mb_fail, if_true, fin_ret, then_next, then_ret, Nat.reduceSub, Int.reduceLT, decide_false, len4, idl1, idl2, sl43, hsp, hlen, h1, h3, hj, lcInsert, Lc.run]
noncomputable def insS (T b : List Nat) (i : Int) : List Nat := T.take (mx i 0).toNat ++ b ++ T.drop (mx i 0).toNat
noncomputable def ocInsert (T b : List Nat) : Ix → Oc
  | .bad x => .ex x
  | .good f => .ok (insS T b (f T.length))
theorem c_strinsert (m : Nat) {T w b : List Nat} {r : Ix} (x y : V) (hl : T.length ≤ 20) (hb : b.length ≤ 20) (hw : IxIs w r) : callN (m + 5) 51 [.none, .list [x, y, .str T, .str w, .str b]] = (ocInsert T b r).run := by
  have hs : Small T := Nat.le_trans hl (by decide)
  have h1 : callN (m + 4) 9 [.str w, .int (T.length : Int)] = r.run T.length := hw m T.length
  rw [call_of (F := f_string_insert) rfl _ _ rfl]
  cases r with
  | bad x =>
    simp only [Ix.run] at h1
    simp only [f_string_insert, exs_nil, exs_cons, ex_set, ex_ite, ex_stuck, v_v, v_c, v_cmp, v_idx, v_call, v_len, vs_nil, vs_cons, v_cond, mb_ret, lift_some_ret, g_get, g_put, gd0, gdS, st0, stS, a_bool, isV_v, so_t, n_t, ↓i_ft, m_nil, m_cons, r_0, r_S, ap_n, ap_c, q_ne, o_some, veq_int, mb_fail, mb_thr, if_true, then_next, Nat.reduceSub, beq_self_eq_true, len5, idl2, idl3, len_s hs, h1, ocInsert, Oc.run]
  | good f =>
    simp only [Ix.run] at h1
    simp only [ocInsert, Oc.run]
    generalize f T.length = i at h1 ⊢
    unfold insS
    have p : 0 ≤ mx i 0 := by unfold mx; omega
    have q1 := sliceT_s (l := T) p hs
    have q2 := sliceF_s (l := T) p hs
    have q3 : mkS (T.take (mx i 0).toNat ++ b) = some (.str (T.take (mx i 0).toNat ++ b)) := mkS_ok (by rw [List.length_append, List.length_take]; omega)
    have q4 : mkS (T.take (mx i 0).toNat ++ b ++ T.drop (mx i 0).toNat) = some (.str (T.take (mx i 0).toNat ++ b ++ T.drop (mx i 0).toNat)) := mkS_ok (Nat.le_trans (cut_len _ _ _ _) (by omega))
    by_cases h0 : i < 0
    · have e : mx i 0 = 0 := by unfold mx; exact if_pos ‹_›
      rw [e] at q1 q2 q3 q4 ⊢
      simp only [f_string_insert, exs_nil, exs_cons, ex_set, ex_ite, ex_ret, ex_stuck, v_v, v_c, v_bin, v_cmp, v_idx, v_slF, v_slT, v_call, v_len, vs_nil, vs_cons, v_cond, mb_ret, lift_some_ret, g_get, g_put, gd0, gdS, st0, stS, a_bool, isV_v, so_t, n_t, ↓i_tt, ↓i_ft, m_nil, m_cons, r_0, r_S, ap_n, ap_c, q_ne, q_lt, bi_adds, o_some, veq_int, mb_fail, if_true, fin_ret, then_next, then_ret, Nat.reduceSub, decide_true, beq_self_eq_true, len5, idl2, idl3, idl4, len_s hs, h1, h0, q1, q2, q3, q4]
    · have e : mx i 0 = i := by unfold mx; exact if_neg ‹_›
      rw [e] at q1 q2 q3 q4 ⊢
      simp only [f_string_insert, exs_nil, exs_cons, ex_set, ex_ite, ex_ret, ex_stuck, v_v, v_c, v_bin, v_cmp, v_idx, v_slF, v_slT, v_call, v_len, vs_nil, vs_cons, v_cond, mb_ret, lift_some_ret, g_get, g_put, gd0, gdS, st0, stS, a_bool, isV_v, so_t, n_t, ↓i_ft, m_nil, m_cons, r_0, r_S, ap_n, ap_c, q_ne, q_lt, bi_adds, o_some, veq_int, mb_fail, if_true, fin_ret, then_next, then_ret, Nat.reduceSub, decide_false, beq_self_eq_true, len5, idl2, idl3, idl4, len_s hs, h1, h0, q1, q2, q3, q4]
noncomputable def lcRepl (T : List Nat) (Ml : List (List Nat)) : Ix → Ix → Lc
  | .bad x, _ => .ex x
  | .good _, .bad x => .ex x
  | .good f, .good g => .ok (replL T Ml (f (lastOf T)) (g (lastOf T)))
theorem c_edited (m : Nat) {T w v : List Nat} {Ml : List (List Nat)} {r q : Ix} (a c : V) (hT : Sg T) (hl : T.length ≤ 20) (hw : IxIs w r) (hv : IxIs v q) (hM : Fine Ml) (hM2 : Ml.length ≤ 10)
    (hsl : slice (.list (a :: c :: .str w :: .str v :: Ml.map V.str)) 4 none = some (.list (Ml.map V.str))) :
    callN (m + 6) 43 [.str (joinQ (ones T)), .list (a :: c :: .str w :: .str v :: Ml.map V.str)] = (lcRepl T Ml r q).run ∧ (lcRepl T Ml r q).Fine := by
  have hsp := split_join m (fine_ones hT hl)
  have hlen := own_len1 hl
  have h1 : callN (m + 5) 9 [.str w, .int ((T.length : Int) - 1)] = r.run (lastOf T) := hw (m + 1) (lastOf T)
  have h2 : callN (m + 5) 9 [.str v, .int ((T.length : Int) - 1)] = q.run (lastOf T) := hv (m + 1) (lastOf T)
  rw [call_of (F := f_edited) rfl _ _ rfl]
  cases r with
  | bad x =>
    simp only [Ix.run] at h1
    exact ⟨by simp only [f_edited, exs_cons, ex_set, v_v, v_c, v_bin, v_idx, v_call, v_len, vs_nil, vs_cons, mb_ret, lift_some_ret, g_get, g_put, gd0, gdS, st0, stS, isV_v, so_t, m_nil, m_cons, r_0, r_S, ap_n, ap_c, bi_sub, mb_thr, if_true, then_next, Nat.reduceSub, idl2, hsp, hlen, h1, lcRepl, Lc.run], trivial⟩
  | good f =>
    cases q with
    | bad x =>
      simp only [Ix.run] at h1 h2
      exact ⟨by simp only [f_edited, exs_cons, ex_set, v_v, v_c, v_bin, v_idx, v_call, v_len, vs_nil, vs_cons, mb_ret, lift_some_ret, g_get, g_put, gd0, gdS, st0, stS, isV_v, so_t, m_nil, m_cons, r_0, r_S, ap_n, ap_c, bi_sub, mb_thr, if_true, then_next, Nat.reduceSub, idl2, idl3, hsp, hlen, h1, h2, lcRepl, Lc.run], trivial⟩
    | good g =>
      simp only [Ix.run] at h1 h2
      have hf := fine_repl hT hl hM hM2 (f (lastOf T)) (g (lastOf T))
      have h3 := c_repl (m + 4) (T := T) (Ml := Ml) (f (lastOf T)) (g (lastOf T)) hl hM2
      have hj := c_join (m + 1) hf
      refine ⟨?_, hf⟩
      generalize Ml.map V.str = MV at hsl h3 ⊢
      simp only [f_edited, exs_cons, ex_set, ex_ret, v_v, v_c, v_bin, v_idx, v_slF, v_call, v_len, vs_nil, vs_cons, mb_ret, lift_some_ret, g_get, g_put, gd0, gdS, st0, stS, isV_v, so_t, m_nil, m_cons, r_0, r_S, ap_n, ap_c, bi_sub, if_true, fin_ret, then_next, then_ret, Nat.reduceSub, idl2, idl3, hsl, hsp, hlen, h1, h2, h3, hj, lcRepl, Lc.run]
theorem c_lreplace0 (m : Nat) {T w v : List Nat} {r q : Ix} (a : V) (hT : Sg T) (hl : T.length ≤ 20) (hw : IxIs w r) (hv : IxIs v q) : callN (m + 7) 44 [.none, .list [a, .str (joinQ (ones T)), .str w, .str v]] = (lcRepl T [] r q).run ∧ (lcRepl T [] r q).Fine := by
  obtain ⟨h1, h2⟩ := c_edited m (Ml := []) a (.str (joinQ (ones T))) hT hl hw hv ⟨by simp, fun _ h => (nomatch h), fun _ h => (nomatch h)⟩ (by simp) rfl
  refine ⟨?_, h2⟩
  rw [call_of (F := f_do_lreplace) rfl _ _ rfl]
  simp only [List.map_nil] at h1
  cases hq : lcRepl T [] r q <;> rw [hq] at h1 <;> simp only [Lc.run] at h1 ⊢ <;> simp only [f_do_lreplace, exs_nil, exs_cons, ex_ite, ex_ret, ex_stuck, v_v, v_c, v_cmp, v_idx, v_call, v_len, vs_nil, vs_cons, v_cond, mb_ret, lift_some_ret, g_get, gd0, gdS, a_bool, isV_v, so_t, ↓i_ft, m_nil, m_cons, r_0, ap_n, ap_c, q_lt, o_some, mb_fail, mb_thr, if_true, fin_ret, then_next, then_ret, Nat.sub_self, Int.reduceLT, decide_false, len4, idl1, h1]
theorem c_lreplace1 (m : Nat) {T w v b : List Nat} {r q : Ix} (a : V) (hT : Sg T) (hl : T.length ≤ 20) (hw : IxIs w r) (hv : IxIs v q) (hb : Fine [b]) : callN (m + 7) 44 [.none, .list [a, .str (joinQ (ones T)), .str w, .str v, .str b]] = (lcRepl T [b] r q).run ∧ (lcRepl T [b] r q).Fine := by
  obtain ⟨h1, h2⟩ := c_edited m (Ml := [b]) a (.str (joinQ (ones T))) hT hl hw hv hb (by simp) rfl
  refine ⟨?_, h2⟩
  rw [call_of (F := f_do_lreplace) rfl _ _ rfl]
  simp only [List.map_cons, List.map_nil] at h1
  cases hq : lcRepl T [b] r q <;> rw [hq] at h1 <;> simp only [Lc.run] at h1 ⊢ <;> simp only [f_do_lreplace, exs_nil, exs_cons, ex_ite, ex_ret, ex_stuck, v_v, v_c, v_cmp, v_idx, v_call, v_len, vs_nil, vs_cons, v_cond, mb_ret, lift_some_ret, g_get, gd0, gdS, a_bool, isV_v, so_t, ↓i_ft, m_nil, m_cons, r_0, ap_n, ap_c, q_lt, o_some, mb_fail, mb_thr, if_true, fin_ret, then_next, then_ret, Nat.sub_self, Int.reduceLT, decide_false, len5, idl1, h1]
noncomputable def replS (T b : List Nat) (i j : Int) : List Nat := if j < 0 ∨ lastOf T < i ∨ j < i then T else T.take (mx i 0).toNat ++ b ++ T.drop (mn j (lastOf T) + 1).toNat
theorem c_replace (m : Nat) {T b : List Nat} (i j : Int) (hl : T.length ≤ 20) (hb : b.length ≤ 20) : callN (m + 1) 45 [.str T, .int i, .int j, .str b] = ret (.val (.str (replS T b i j))) := by
  have hs : Small T := Nat.le_trans hl (by decide)
  rw [call_of (F := f_replace) rfl _ _ rfl]
  unfold replS
  by_cases a1 : j < 0
  · rw [if_pos (.inl a1)]
    simp only [f_replace, exs_nil, exs_cons, ex_set, ex_ite, ex_ret, v_v, v_c, v_bin, v_bo, v_cmp, v_len, vB_nil, vB_cons, v_cond, mb_ret, lift_some_ret, g_get, g_put, gd0, gdS, st0, stS, a_bool, ↓o_t, ↓i_tt, m_nil, m_cons, r_0, r_S, ap_n, ap_c, q_lt, q_gt, bi_sub, o_some, ite_or, fin_ret, then_next, then_ret, Bool.or_false, Nat.reduceSub, decide_true, len_s hs, a1]
  by_cases a2 : lastOf T < i
  · rw [if_pos (.inr (.inl a2))]
    have a2' : (T.length : Int) - 1 < i := a2
    simp only [f_replace, exs_nil, exs_cons, ex_set, ex_ite, ex_ret, v_v, v_c, v_bin, v_bo, v_cmp, v_len, vB_nil, vB_cons, v_cond, mb_ret, lift_some_ret, g_get, g_put, gd0, gdS, st0, stS, a_bool, ↓o_t, ↓i_tt, m_nil, m_cons, r_0, r_S, ap_n, ap_c, q_lt, q_gt, bi_sub, o_some, ite_or, fin_ret, then_next, then_ret, Bool.or_true, Bool.or_false, Nat.reduceSub, decide_true, decide_false, len_s hs, a1, a2']
  by_cases a3 : j < i
  · rw [if_pos (.inr (.inr a3))]
    have a2' : ¬ (T.length : Int) - 1 < i := a2
    simp only [f_replace, exs_nil, exs_cons, ex_set, ex_ite, ex_ret, v_v, v_c, v_bin, v_bo, v_cmp, v_len, vB_nil, vB_cons, v_cond, mb_ret, lift_some_ret, g_get, g_put, gd0, gdS, st0, stS, a_bool, ↓i_tt, m_nil, m_cons, r_0, r_S, ap_n, ap_c, q_lt, q_gt, bi_sub, o_some, ite_or, fin_ret, then_next, then_ret, Bool.or_true, Bool.or_false, Nat.reduceSub, decide_true, decide_false, len_s hs, a1, a2', a3]
  rw [if_neg (by simp only [not_or]; exact ⟨a1, a2, a3⟩)]
  have a2' : ¬ (T.length : Int) - 1 < i := a2
  have p : 0 ≤ mx i 0 := by unfold mx; omega
  have p2 : 0 ≤ mn j (lastOf T) + 1 := by unfold mn lastOf; omega
  have q1 := sliceT_s (l := T) p hs
  have q2 := sliceF_s (l := T) p2 hs
  have q3 : mkS (T.take (mx i 0).toNat ++ b) = some (.str (T.take (mx i 0).toNat ++ b)) := mkS_ok (by rw [List.length_append, List.length_take]; omega)
  have q4 : mkS (T.take (mx i 0).toNat ++ b ++ T.drop (mn j (lastOf T) + 1).toNat) = some (.str (T.take (mx i 0).toNat ++ b ++ T.drop (mn j (lastOf T) + 1).toNat)) := mkS_ok (Nat.le_trans (cut_len _ _ _ _) (by omega))
  by_cases h0 : i < 0 <;> by_cases h4 : lastOf T < j
  all_goals
    have h4' := h4
    unfold lastOf at h4'
    have e1 : mx i 0 = if i < 0 then 0 else i := rfl
    have e2 : mn j (lastOf T) = if lastOf T < j then lastOf T else j := rfl
    simp only [h0, if_true, if_false] at e1
    simp only [h4, if_true, if_false] at e2
    rw [e1] at q1 q3 q4 ⊢
    rw [e2] at q2 q4 ⊢
    (try unfold lastOf at q2); (try unfold lastOf at q4); (try unfold lastOf)
    simp only [f_replace, exs_nil, exs_cons, ex_set, ex_ite, ex_ret, v_v, v_c, v_bin, v_bo, v_cmp, v_slF, v_slT, v_len, vB_nil, vB_cons, v_cond, mb_ret, lift_some_ret, g_get, g_put, gd0, gdS, st0, stS, a_bool, isV_v, so_t, ↓i_tt, ↓i_ft, m_nil, m_cons, r_0, r_S, ap_n, ap_c, q_lt, q_gt, bi_add, bi_adds, bi_sub, o_some, ite_or, if_true, fin_ret, then_next, then_ret, Bool.or_false, Nat.reduceSub, decide_true, decide_false, len_s hs, a1, a2', a3, h0, h4', q1, q2, q3, q4]
noncomputable def ocRepl (T b : List Nat) : Ix → Ix → Oc
  | .bad x, _ => .ex x
  | .good _, .bad x => .ex x
  | .good f, .good g => .ok (replS T b (f (lastOf T)) (g (lastOf T)))
theorem c_strrepl0 (m : Nat) {T w v : List Nat} {r q : Ix} (x y : V) (hl : T.length ≤ 20) (hw : IxIs w r) (hv : IxIs v q) : callN (m + 5) 53 [.none, .list [x, y, .str T, .str w, .str v]] = (ocRepl T [] r q).run := by
  have hs : Small T := Nat.le_trans hl (by decide)
  have h1 : callN (m + 4) 9 [.str w, .int ((T.length : Int) - 1)] = r.run (lastOf T) := hw m (lastOf T)
  have h2 : callN (m + 4) 9 [.str v, .int ((T.length : Int) - 1)] = q.run (lastOf T) := hv m (lastOf T)
  rw [call_of (F := f_string_replace) rfl _ _ rfl]
  cases r with
  | bad x =>
    simp only [Ix.run] at h1
    simp only [f_string_replace, exs_nil, exs_cons, ex_set, ex_ite, ex_stuck, v_v, v_c, v_bin, v_bo, v_cmp, v_idx, v_call, v_len, vs_nil, vs_cons, vB_nil, vB_cons, v_cond, mb_ret, lift_some_ret, g_get, g_put, gd0, gdS, st0, stS, a_bool, isV_v, so_t, ↓i_ft, m_nil, m_cons, r_0, r_S, ap_n, ap_c, q_lt, q_gt, bi_sub, o_some, ite_or, mb_fail, mb_thr, if_true, then_next, Bool.or_false, Nat.reduceSub, Int.reduceLT, decide_false, len5, idl2, idl3, len_s hs, h1, ocRepl, Oc.run]
  | good f =>
    cases q with
    | bad x =>
      simp only [Ix.run] at h1 h2
      simp only [f_string_replace, exs_nil, exs_cons, ex_set, ex_ite, ex_stuck, v_v, v_c, v_bin, v_bo, v_cmp, v_idx, v_call, v_len, vs_nil, vs_cons, vB_nil, vB_cons, v_cond, mb_ret, lift_some_ret, g_get, g_put, gd0, gdS, st0, stS, a_bool, isV_v, so_t, ↓i_ft, m_nil, m_cons, r_0, r_S, ap_n, ap_c, q_lt, q_gt, bi_sub, o_some, ite_or, mb_fail, mb_thr, if_true, then_next, Bool.or_false, Nat.reduceSub, Int.reduceLT, decide_false, len5, idl2, idl3, idl4, len_s hs, h1, h2, ocRepl, Oc.run]
    | good g =>
      simp only [Ix.run] at h1 h2
      have h3 := c_replace (m + 3) (T := T) (b := []) (f (lastOf T)) (g (lastOf T)) hl (by simp)
      simp only [f_string_replace, exs_nil, exs_cons, ex_set, ex_ite, ex_ret, ex_stuck, v_v, v_c, v_bin, v_bo, v_cmp, v_idx, v_call, v_len, vs_nil, vs_cons, vB_nil, vB_cons, v_cond, mb_ret, mb_assoc, lift_some_ret, g_get, g_put, gd0, gdS, st0, stS, a_bool, isV_v, so_t, ↓i_ft, m_nil, m_cons, r_0, r_S, ap_n, ap_c, q_eq, q_lt, q_gt, bi_sub, o_some, veq_int, ite_or, mb_fail, if_true, fin_ret, then_next, then_ret, Bool.or_false, Nat.reduceSub, Int.reduceLT, Int.reduceBEq, decide_false, len5, idl2, idl3, idl4, len_s hs, h1, h2, h3, ocRepl, Oc.run]
theorem c_strrepl1 (m : Nat) {T w v b : List Nat} {r q : Ix} (x y : V) (hl : T.length ≤ 20) (hb : b.length ≤ 20) (hw : IxIs w r) (hv : IxIs v q) : callN (m + 5) 53 [.none, .list [x, y, .str T, .str w, .str v, .str b]] = (ocRepl T b r q).run := by
  have hs : Small T := Nat.le_trans hl (by decide)
  have h1 : callN (m + 4) 9 [.str w, .int ((T.length : Int) - 1)] = r.run (lastOf T) := hw m (lastOf T)
  have h2 : callN (m + 4) 9 [.str v, .int ((T.length : Int) - 1)] = q.run (lastOf T) := hv m (lastOf T)
  rw [call_of (F := f_string_replace) rfl _ _ rfl]
  cases r with
  | bad x =>
    simp only [Ix.run] at h1
    simp only [f_string_replace, exs_nil, exs_cons, ex_set, ex_ite, ex_stuck, v_v, v_c, v_bin, v_bo, v_cmp, v_idx, v_call, v_len, vs_nil, vs_cons, vB_nil, vB_cons, v_cond, mb_ret, lift_some_ret, g_get, g_put, gd0, gdS, st0, stS, a_bool, isV_v, so_t, ↓i_ft, m_nil, m_cons, r_0, r_S, ap_n, ap_c, q_lt, q_gt, bi_sub, o_some, ite_or, mb_fail, mb_thr, if_true, then_next, Bool.or_false, Nat.reduceSub, Int.reduceLT, decide_false, len6, idl2, idl3, len_s hs, h1, ocRepl, Oc.run]
  | good f =>
    cases q with
    | bad x =>
      simp only [Ix.run] at h1 h2
      simp only [f_string_replace, exs_nil, exs_cons, ex_set, ex_ite, ex_stuck, v_v, v_c, v_bin, v_bo, v_cmp, v_idx, v_call, v_len, vs_nil, vs_cons, vB_nil, vB_cons, v_cond, mb_ret, lift_some_ret, g_get, g_put, gd0, gdS, st0, stS, a_bool, isV_v, so_t, ↓i_ft, m_nil, m_cons, r_0, r_S, ap_n, ap_c, q_lt, q_gt, bi_sub, o_some, ite_or, mb_fail, mb_thr, if_true, then_next, Bool.or_false, Nat.reduceSub, Int.reduceLT, decide_false, len6, idl2, idl3, idl4, len_s hs, h1, h2, ocRepl, Oc.run]
    | good g =>
      simp only [Ix.run] at h1 h2
      have h3 := c_replace (m + 3) (T := T) (b := b) (f (lastOf T)) (g (lastOf T)) hl hb
      simp only [f_string_replace, exs_nil, exs_cons, ex_set, ex_ite, ex_ret, ex_stuck, v_v, v_c, v_bin, v_bo, v_cmp, v_idx, v_call, v_len, vs_nil, vs_cons, vB_nil, vB_cons, v_cond, mb_ret, lift_some_ret, g_get, g_put, gd0, gdS, st0, stS, a_bool, isV_v, so_t, ↓i_tt, ↓i_ft, m_nil, m_cons, r_0, r_S, ap_n, ap_c, q_eq, q_lt, q_gt, bi_sub, o_some, veq_int, ite_or, mb_fail, if_true, fin_ret, then_next, then_ret, Bool.or_false, Nat.reduceSub, Int.reduceLT, decide_false, beq_self_eq_true, len6, idl2, idl3, idl4, idl5, len_s hs, h1, h2, h3, ocRepl, Oc.run]
end Lr
end
section
set_option maxRecDepth 100000
open PySem
namespace Lr
noncomputable def wLindex : List Nat := [108, 105, 110, 100, 101, 120]
noncomputable def wLrange : List Nat := [108, 114, 97, 110, 103, 101]
noncomputable def wLinsert : List Nat := [108, 105, 110, 115, 101, 114, 116]
noncomputable def wLreplace : List Nat := [108, 114, 101, 112, 108, 97, 99, 101]
noncomputable def wLrepeat : List Nat := [108, 114, 101, 112, 101, 97, 116]
noncomputable def wString : List Nat := [115, 116, 114, 105, 110, 103]
noncomputable def wIndex : List Nat := [105, 110, 100, 101, 120]
noncomputable def wRange : List Nat := [114, 97, 110, 103, 101]
noncomputable def wInsert : List Nat := [105, 110, 115, 101, 114, 116]
noncomputable def wReplace : List Nat := [114, 101, 112, 108, 97, 99, 101]
noncomputable def wRepeat : List Nat := [114, 101, 112, 101, 97, 116]
noncomputable def hV : Oc → V
  | .ok s => .tup [.str [103, 97, 118, 101], .str s]
  | .ex x => .tup [.str [114, 97, 105, 115, 101, 100], .int x.code, .str x.value, x.ec]
section
variable {k : Nat} {rest : List V} {o : Oc}
theorem d_lindex (h : callN (k + 1) 33 [.none, .list (.str wLindex :: rest)] = o.run) : callN (k + 2) 63 [.list (.str wLindex :: rest)] = o.run := by
  rw [call_of (F := f_law_list) rfl _ _ rfl]
  unfold wLindex at h ⊢
  cases o <;> simp only [Oc.run] at h ⊢ <;> simp only [f_law_list, exs_nil, exs_cons, ex_ite, ex_ret, v_v, v_c, v_cmp, v_idx, v_call, vs_nil, vs_cons, v_cond, mb_ret, lift_some_ret, g_get, gd0, a_bool, isV_v, so_t, ↓i_tt, m_nil, m_cons, r_0, ap_n, ap_c, q_eq, o_some, veq_str, mb_thr, if_true, fin_ret, then_ret, Nat.sub_self, beq_self_eq_true, idl0, h]
theorem d_lrange (h : callN (k + 1) 34 [.none, .list (.str wLrange :: rest)] = o.run) : callN (k + 2) 63 [.list (.str wLrange :: rest)] = o.run := by
  rw [call_of (F := f_law_list) rfl _ _ rfl]
  unfold wLrange at h ⊢
  cases o <;> simp only [Oc.run] at h ⊢ <;> simp only [f_law_list, exs_nil, exs_cons, ex_ite, ex_ret, v_v, v_c, v_cmp, v_idx, v_call, vs_nil, vs_cons, v_cond, mb_ret, mb_assoc, lift_some_ret, g_get, gd0, a_bool, isV_v, so_t, ↓i_tt, ↓i_ft, m_nil, m_cons, r_0, ap_n, ap_c, q_eq, o_some, veq_str, mb_thr, if_true, fin_ret, then_next, then_ret, Nat.sub_self, Nat.reduceBEq, List.cons_beq_cons, Bool.and_true, Bool.and_false, beq_self_eq_true, Bool.and_self, idl0, h]
theorem d_linsert (h : callN (k + 1) 42 [.none, .list (.str wLinsert :: rest)] = o.run) : callN (k + 2) 63 [.list (.str wLinsert :: rest)] = o.run := by
  rw [call_of (F := f_law_list) rfl _ _ rfl]
  unfold wLinsert at h ⊢
  cases o <;> simp only [Oc.run] at h ⊢ <;> simp only [f_law_list, exs_nil, exs_cons, ex_ite, ex_ret, v_v, v_c, v_cmp, v_idx, v_call, vs_nil, vs_cons, v_cond, mb_ret, mb_assoc, lift_some_ret, g_get, gd0, a_bool, isV_v, so_t, ↓i_tt, ↓i_ft, m_nil, m_cons, r_0, ap_n, ap_c, q_eq, o_some, veq_str, mb_thr, if_true, fin_ret, then_next, then_ret, Nat.sub_self, Nat.reduceBEq, beq_cn, List.cons_beq_cons, Bool.and_false, beq_self_eq_true, Bool.and_self, idl0, h]
theorem d_lreplace (h : callN (k + 1) 44 [.none, .list (.str wLreplace :: rest)] = o.run) : callN (k + 2) 63 [.list (.str wLreplace :: rest)] = o.run := by
  rw [call_of (F := f_law_list) rfl _ _ rfl]
  unfold wLreplace at h ⊢
  cases o <;> simp only [Oc.run] at h ⊢ <;> simp only [f_law_list, exs_nil, exs_cons, ex_ite, ex_ret, v_v, v_c, v_cmp, v_idx, v_call, vs_nil, vs_cons, v_cond, mb_ret, mb_assoc, lift_some_ret, g_get, gd0, a_bool, isV_v, so_t, ↓i_tt, ↓i_ft, m_nil, m_cons, r_0, ap_n, ap_c, q_eq, o_some, veq_str, mb_thr, if_true, fin_ret, then_next, then_ret, Nat.sub_self, Nat.reduceBEq, beq_cn, List.cons_beq_cons, Bool.and_false, beq_self_eq_true, Bool.and_self, idl0, h]
theorem d_lrepeat (h : callN (k + 1) 38 [.none, .list (.str wLrepeat :: rest)] = o.run) : callN (k + 2) 63 [.list (.str wLrepeat :: rest)] = o.run := by
  rw [call_of (F := f_law_list) rfl _ _ rfl]
  unfold wLrepeat at h ⊢
  cases o <;> simp only [Oc.run] at h ⊢ <;> simp only [f_law_list, exs_nil, exs_cons, ex_ite, ex_ret, v_v, v_c, v_cmp, v_idx, v_call, vs_nil, vs_cons, v_cond, mb_ret, mb_assoc, lift_some_ret, g_get, gd0, a_bool, isV_v, so_t, ↓i_ft, m_nil, m_cons, r_0, ap_n, ap_c, q_eq, o_some, veq_str, mb_thr, if_true, fin_ret, then_next, then_ret, Nat.sub_self, Nat.reduceBEq, beq_nc, beq_cn, List.cons_beq_cons, Bool.and_true, Bool.and_false, beq_self_eq_true, Bool.and_self, idl0, h]
theorem d_index {a : V} (h : callN (k + 1) 47 [.none, .list (a :: .str wIndex :: rest)] = o.run) : callN (k + 2) 62 [.list (a :: .str wIndex :: rest)] = o.run := by
  rw [call_of (F := f_law_string) rfl _ _ rfl]
  unfold wIndex at h ⊢
  cases o <;> simp only [Oc.run] at h ⊢ <;> simp only [f_law_string, exs_nil, exs_cons, ex_ite, ex_ret, v_v, v_c, v_cmp, v_idx, v_call, vs_nil, vs_cons, v_cond, mb_ret, lift_some_ret, g_get, gd0, a_bool, isV_v, so_t, ↓i_tt, m_nil, m_cons, r_0, ap_n, ap_c, q_eq, o_some, veq_str, mb_thr, if_true, fin_ret, then_ret, Nat.sub_self, beq_self_eq_true, idl1, h]
theorem d_range {a : V} (h : callN (k + 1) 49 [.none, .list (a :: .str wRange :: rest)] = o.run) : callN (k + 2) 62 [.list (a :: .str wRange :: rest)] = o.run := by
  rw [call_of (F := f_law_string) rfl _ _ rfl]
  unfold wRange at h ⊢
  cases o <;> simp only [Oc.run] at h ⊢ <;> simp only [f_law_string, exs_nil, exs_cons, ex_ite, ex_ret, v_v, v_c, v_cmp, v_idx, v_call, vs_nil, vs_cons, v_cond, mb_ret, mb_assoc, lift_some_ret, g_get, gd0, a_bool, isV_v, so_t, ↓i_tt, ↓i_ft, m_nil, m_cons, r_0, ap_n, ap_c, q_eq, o_some, veq_str, mb_thr, if_true, fin_ret, then_next, then_ret, Nat.sub_self, Nat.reduceBEq, List.cons_beq_cons, Bool.and_true, beq_self_eq_true, Bool.and_self, idl1, h]
theorem d_insert {a : V} (h : callN (k + 1) 51 [.none, .list (a :: .str wInsert :: rest)] = o.run) : callN (k + 2) 62 [.list (a :: .str wInsert :: rest)] = o.run := by
  rw [call_of (F := f_law_string) rfl _ _ rfl]
  unfold wInsert at h ⊢
  cases o <;> simp only [Oc.run] at h ⊢ <;> simp only [f_law_string, exs_nil, exs_cons, ex_ite, ex_ret, v_v, v_c, v_cmp, v_idx, v_call, vs_nil, vs_cons, v_cond, mb_ret, mb_assoc, lift_some_ret, g_get, gd0, a_bool, isV_v, so_t, ↓i_tt, ↓i_ft, m_nil, m_cons, r_0, ap_n, ap_c, q_eq, o_some, veq_str, mb_thr, if_true, fin_ret, then_next, then_ret, Nat.sub_self, Nat.reduceBEq, beq_cn, List.cons_beq_cons, Bool.and_false, beq_self_eq_true, Bool.and_self, idl1, h]
theorem d_replace {a : V} (h : callN (k + 1) 53 [.none, .list (a :: .str wReplace :: rest)] = o.run) : callN (k + 2) 62 [.list (a :: .str wReplace :: rest)] = o.run := by
  rw [call_of (F := f_law_string) rfl _ _ rfl]
  unfold wReplace at h ⊢
  cases o <;> simp only [Oc.run] at h ⊢ <;> simp only [f_law_string, exs_nil, exs_cons, ex_ite, ex_ret, v_v, v_c, v_cmp, v_idx, v_call, vs_nil, vs_cons, v_cond, mb_ret, mb_assoc, lift_some_ret, g_get, gd0, a_bool, isV_v, so_t, ↓i_tt, ↓i_ft, m_nil, m_cons, r_0, ap_n, ap_c, q_eq, o_some, veq_str, mb_thr, if_true, fin_ret, then_next, then_ret, Nat.sub_self, Nat.reduceBEq, beq_cn, List.cons_beq_cons, Bool.and_false, beq_self_eq_true, Bool.and_self, idl1, h]
theorem d_repeat {a : V} (h : callN (k + 1) 52 [.none, .list (a :: .str wRepeat :: rest)] = o.run) : callN (k + 2) 62 [.list (a :: .str wRepeat :: rest)] = o.run := by
  rw [call_of (F := f_law_string) rfl _ _ rfl]
  unfold wRepeat at h ⊢
  cases o <;> simp only [Oc.run] at h ⊢ <;> simp only [f_law_string, exs_nil, exs_cons, ex_ite, ex_ret, v_v, v_c, v_cmp, v_idx, v_call, vs_nil, vs_cons, v_cond, mb_ret, mb_assoc, lift_some_ret, g_get, gd0, a_bool, isV_v, so_t, ↓i_ft, m_nil, m_cons, r_0, ap_n, ap_c, q_eq, o_some, veq_str, mb_thr, if_true, fin_ret, then_next, then_ret, Nat.sub_self, Nat.reduceBEq, beq_nc, beq_cn, List.cons_beq_cons, Bool.and_true, Bool.and_false, beq_self_eq_true, Bool.and_self, idl1, h]
theorem h_str {j : Bool} (h : callN (k + 1) 62 [.list (.str wString :: rest)] = o.run) : callN (k + 2) 64 [.list (.str wString :: rest), .bool j] = ret (.val (hV o)) := by
  rw [call_of (F := f_law_heard) rfl _ _ rfl]
  unfold wString at h ⊢
  cases o <;> simp only [Oc.run, hV] at h ⊢ <;> simp only [f_law_heard, exs_nil, exs_cons, ex_ite, ex_ret, ex_heard, v_v, v_c, v_tup, v_cmp, v_idx, v_call, vs_nil, vs_cons, v_cond, mb_ret, lift_some_ret, g_get, gd0, a_bool, isV_v, so_t, ↓i_tt, m_nil, m_cons, r_0, r_S, ap_n, ap_c, q_eq, o_some, veq_str, mb_thr, if_true, fin_ret, then_ret, heard_ret, heard_thr, Nat.reduceSub, beq_self_eq_true, idl0, h, k2, List.length_cons, List.length_nil, Nat.zero_add, Nat.reduceAdd]
theorem h_list0 {w : List Nat} (hw : (w == wString) = false) (h : callN (k + 1) 63 [.list (.str w :: rest)] = o.run) : callN (k + 2) 64 [.list (.str w :: rest), .bool false] = ret (.val (hV o)) := by
  rw [call_of (F := f_law_heard) rfl _ _ rfl]
  unfold wString at hw
  cases o <;> simp only [Oc.run, hV] at h ⊢ <;> simp only [f_law_heard, exs_nil, exs_cons, ex_set, ex_ite, ex_ret, ex_heard, v_v, v_c, v_tup, v_lst, v_cmp, v_ifx, v_idx, v_call, vs_nil, vs_cons, v_cond, mb_ret, mb_assoc, lift_some_ret, g_get, g_put, gd0, gdS, st0, stS, a_bool, isV_v, so_t, ↓i_ft, m_nil, m_cons, r_0, r_S, ap_n, ap_c, q_eq, o_some, veq_str, mb_thr, if_true, fin_ret, then_next, then_ret, heard_ret, heard_thr, Nat.reduceSub, idl0, h, hw, k2, List.length_cons, List.length_nil, Nat.zero_add, Nat.reduceAdd]
noncomputable def Lc.oc : Lc → Oc
  | .ok l => .ok (joinQ l)
  | .ex x => .ex x
theorem Lc.run_oc (l : Lc) : l.run = l.oc.run := by cases l <;> rfl
theorem h_list1 {w : List Nat} {l : Lc} (hw : (w == wString) = false) (hf : l.Fine) (h : callN (k + 6) 63 [.list (.str w :: rest)] = l.oc.run) : callN (k + 7) 64 [.list (.str w :: rest), .bool true] = ret (.val (hV l.flat)) := by
  rw [call_of (F := f_law_heard) rfl _ _ rfl]
  unfold wString at hw
  cases l with
  | ok l =>
    have hj := c_dojoin k (.str [106, 111, 105, 110]) hf (reads_join hf)
    simp only [Lc.oc, Oc.run, hV, Lc.flat] at h ⊢
    simp only [f_law_heard, exs_nil, exs_cons, ex_set, ex_ite, ex_ret, ex_heard, v_v, v_c, v_tup, v_lst, v_cmp, v_ifx, v_idx, v_call, vs_nil, vs_cons, v_cond, mb_ret, mb_assoc, lift_some_ret, g_get, g_put, gd0, gdS, st0, stS, a_bool, isV_v, so_t, ↓i_tt, ↓i_ft, m_nil, m_cons, r_0, r_S, ap_n, ap_c, q_eq, o_some, veq_str, if_true, fin_ret, then_next, then_ret, heard_ret, Nat.reduceSub, idl0, h, hw, hj, k2, k3, List.length_cons, List.length_nil, Nat.zero_add, Nat.reduceAdd]
  | ex x =>
    simp only [Lc.oc, Oc.run, hV, Lc.flat] at h ⊢
    simp only [f_law_heard, exs_nil, exs_cons, ex_set, ex_ite, ex_ret, ex_heard, v_v, v_c, v_tup, v_cmp, v_idx, v_call, vs_nil, vs_cons, v_cond, mb_ret, mb_assoc, lift_some_ret, g_get, g_put, gd0, st0, stS, a_bool, isV_v, so_t, ↓i_ft, m_nil, m_cons, r_0, r_S, ap_n, ap_c, q_eq, o_some, veq_str, mb_thr, if_true, fin_ret, then_next, then_ret, heard_thr, Nat.reduceSub, idl0, h, hw]
end
noncomputable def SelfEq (o : Oc) : Prop := veq (hV o) (hV o) = some true
theorem veq_ok (s u : List Nat) : veq (hV (.ok s)) (hV (.ok u)) = some (s == u) := by
  show (match some true, (match some (s == u), some true with | some u, some v => some (u && v) | _, _ => none) with | some u, some v => some (u && v) | _, _ => none) = _
  show some (true && ((s == u) && true)) = _
  rw [Bool.true_and, Bool.and_true]
theorem self_ok (s : List Nat) : SelfEq (.ok s) := by
  unfold SelfEq
  rw [veq_ok]
  simp
theorem self_word (w : List Nat) : SelfEq (.ex (xOf w)) := by
  show some (true && (true && (((xOf w).value == (xOf w).value) && ((true && (true && (true && true))) && true)))) = some true
  rw [beq_self_eq_true]; rfl
theorem take_take_drop (T : List Nat) (a b : Nat) (h : T.length ≤ b) : (T.take a).drop b = [] := List.drop_eq_nil_of_le (by rw [List.length_take]; exact Nat.le_trans (Nat.min_le_right _ _) ‹_›)
theorem mx_r {a b : Int} (h : a ≤ b) : mx a b = b := by rw [mx_max]; exact Int.max_eq_right h
theorem mx_l {a b : Int} (h : b ≤ a) : mx a b = a := by rw [mx_max]; exact Int.max_eq_left h
theorem mn_l {a b : Int} (h : a ≤ b) : mn a b = a := by rw [mn_min]; exact Int.min_eq_left h
theorem mn_r {a b : Int} (h : b ≤ a) : mn a b = b := by rw [mn_min]; exact Int.min_eq_right h
theorem mx_co (a b : Int) : mx a b = mx b a := by rw [mx_max, mx_max]; exact Int.max_comm a b
theorem last_ge (T : List Nat) : -1 ≤ lastOf T := by unfold lastOf; omega
theorem last_succ (T : List Nat) : lastOf T + 1 = T.length := by unfold lastOf; exact Int.sub_add_cancel _ _
theorem cutR_same (T : List Nat) (i : Int) : cutR T i i = charAt T i := by
  unfold cutR charAt
  have hl := last_ge T
  rw [last_succ]
  by_cases h0 : i < 0
  · have h : i ≤ -1 := Int.le_sub_one_of_lt h0
    rw [if_pos h0, mn_l (Int.le_trans h hl), mx_l h]
    exact List.drop_nil
  · rw [if_neg h0]
    have h0' := Int.not_lt.mp h0
    by_cases h1 : (T.length : Int) ≤ i
    · rw [mn_r h1, mx_r (Int.natCast_nonneg _), Int.toNat_natCast, take_take_drop _ _ _ (Nat.le_refl _), List.drop_eq_nil_of_le ((Int.le_toNat h0').mpr h1)]
      rfl
    · have h2 := Int.not_le.mp h1
      rw [mn_l (b := lastOf T) (Int.le_sub_one_of_lt h2), mx_r (Int.le_trans (by decide) h0'), mn_l (Int.le_of_lt h2), mx_r h0', List.drop_take, Int.toNat_add h0' (by decide)]
      congr 1
      exact Nat.add_sub_cancel_left _ _
theorem cutR_cutS (T : List Nat) (i j : Int) : cutR T i j = cutS T i j := by
  unfold cutR cutS
  have hl := last_ge T
  rw [last_succ]
  by_cases h0 : j < 0
  · have h : j ≤ -1 := Int.le_sub_one_of_lt h0
    rw [mn_l (Int.le_trans h hl), mx_l h, if_pos (Int.lt_of_lt_of_le h0 (by rw [mx_max]; exact Int.le_max_right _ _))]
    exact List.drop_nil
  · have h0' := Int.not_lt.mp h0
    by_cases hi : i ≤ T.length
    · rw [mn_l hi, mx_co 0 i]
      by_cases hj : j ≤ lastOf T
      · rw [mn_l hj, mx_r (Int.le_trans (by decide) h0')]
        by_cases h : j < mx i 0
        · rw [if_pos h]
          exact List.drop_eq_nil_of_le (Nat.le_trans (List.length_take_le _ _) (Int.toNat_le_toNat h))
        · rw [if_neg h]
      · have hj := Int.not_le.mp hj
        have hn : (T.length : Int) ≤ j := by rw [← last_succ]; exact hj
        rw [mn_r (Int.le_of_lt hj), mx_r hl, last_succ, Int.toNat_natCast, List.take_of_length_le (Nat.le_refl _), List.take_of_length_le (Int.ofNat_le.mp (Int.le_trans hn (Int.le_trans (Int.le_of_lt (Int.lt_succ j)) (Int.self_le_toNat _)))), if_neg (Int.not_lt.mpr ?_)]
        rw [mx_max]
        exact Int.max_le.mpr ⟨Int.le_trans hi hn, h0'⟩
    · have hi := Int.le_of_lt (Int.not_le.mp hi)
      rw [mn_r hi, mx_r (Int.natCast_nonneg _), Int.toNat_natCast, take_take_drop _ _ _ (Nat.le_refl _), mx_l (Int.le_trans (Int.natCast_nonneg _) hi)]
      split
      · rfl
      · exact (take_take_drop _ _ _ (Int.ofNat_le.mp (Int.le_trans hi (Int.self_le_toNat _)))).symm
theorem repl_flat (T : List Nat) (Ml : List (List Nat)) (i j : Int) : (replL T Ml i j).flatten = T.take (pB T.length i).toNat ++ Ml.flatten ++ T.drop (pE T.length i j).toNat := by
  simp [replL, ones_flat]
theorem pB_in {n : Nat} {i : Int} (h : i ≤ n) : pB n i = mx i 0 := by
  unfold pB
  rw [mn_l h, mx_co]
theorem ins_eq (T b : List Nat) (i : Int) : (replL T [b] i (i - 1)).flatten = insS T b i := by
  rw [repl_flat]
  have e : pE T.length i (i - 1) = pB T.length i := by
    unfold pE
    rw [Int.sub_add_cancel]
    refine mx_l ?_
    unfold pB
    rw [mx_max]
    exact Int.le_max_right _ _
  rw [e, List.flatten_cons, List.flatten_nil, List.append_nil]
  unfold insS
  by_cases h : i ≤ T.length
  · rw [pB_in h]
  · have hi := Int.le_of_lt (Int.not_le.mp h)
    have hn : T.length ≤ i.toNat := Int.ofNat_le.mp (Int.le_trans hi (Int.self_le_toNat _))
    unfold pB
    rw [mn_r hi, mx_r (Int.natCast_nonneg _), Int.toNat_natCast, mx_l (Int.le_trans (Int.natCast_nonneg _) hi), List.take_of_length_le (Nat.le_refl _), List.take_of_length_le hn, List.drop_eq_nil_of_le (Nat.le_refl _), List.drop_eq_nil_of_le hn]
noncomputable def Keep (T : List Nat) (i j : Int) : Prop := j < 0 ∨ lastOf T < i ∨ j < i
theorem repl_keep {T : List Nat} {i j : Int} (h : Keep T i j) : (pE T.length i j).toNat = (pB T.length i).toNat := by
  unfold pE pB
  rw [mx_l]
  rw [mx_max, mn_min, mn_min]
  rcases h with h | h | h
  · exact Int.le_trans (Int.min_le_left _ _) (Int.le_trans (show j + 1 ≤ 0 from h) (Int.le_max_left _ _))
  · have h : (T.length : Int) ≤ i := by rw [← last_succ]; exact h
    rw [Int.min_eq_right (a := i) h]; exact Int.le_trans (Int.min_le_right _ _) (Int.le_max_right _ _)
  · exact Int.le_trans (Int.le_min.mpr ⟨Int.le_trans (Int.min_le_left _ _) h, Int.min_le_right _ _⟩) (Int.le_max_right _ _)
theorem keep_no {T : List Nat} {i j : Int} (h : ¬ Keep T i j) : 0 ≤ j ∧ i ≤ lastOf T ∧ i ≤ j := by
  unfold Keep at h
  rwa [not_or, not_or, Int.not_lt, Int.not_lt, Int.not_lt] at h
theorem cut_ends {T : List Nat} {i j : Int} (hT : 0 ≤ lastOf T) (h : ¬ Keep T i j) : mx i 0 ≤ mn j (lastOf T) := by
  obtain ⟨h1, h2, h3⟩ := keep_no h
  rw [mx_max, mn_min]
  exact Int.max_le.mpr ⟨Int.le_min.mpr ⟨h3, h2⟩, Int.le_min.mpr ⟨h1, hT⟩⟩
theorem mn_succ (j n : Int) : mn (j + 1) n = mn j (n - 1) + 1 := by
  by_cases h : n ≤ j
  · rw [mn_r (Int.le_trans h (Int.le_of_lt (Int.lt_succ j))), mn_r (Int.le_trans (Int.sub_le_self _ (by decide)) h), Int.sub_add_cancel]
  · have h := Int.not_le.mp h
    rw [mn_l h, mn_l (Int.le_sub_one_of_lt h)]
theorem repl_cut {T b : List Nat} {i j : Int} (h : ¬ Keep T i j) : T.take (pB T.length i).toNat ++ b ++ T.drop (pE T.length i j).toNat = replS T b i j := by
  unfold replS
  rw [if_neg (show ¬ (j < 0 ∨ lastOf T < i ∨ j < i) from h)]
  obtain ⟨h1, h2, h3⟩ := keep_no h
  have e1 := pB_in (n := T.length) (i := i) (Int.le_trans h2 (Int.sub_le_self _ (by decide)))
  have e2 : (pE T.length i j).toNat = (mn j (lastOf T) + 1).toNat := by
    show (mx (pB T.length i) (mn (j + 1) T.length)).toNat = _
    rw [e1, mn_succ]
    show (mx (mx i 0) (mn j (lastOf T) + 1)).toNat = _
    by_cases hT : 0 ≤ lastOf T
    · rw [mx_r (Int.le_trans (cut_ends hT h) (Int.le_of_lt (Int.lt_succ _)))]
    · have hT : lastOf T + 1 ≤ 0 := Int.not_le.mp hT
      have hi : i ≤ 0 := Int.le_trans h2 (Int.le_of_lt hT)
      rw [mx_r hi, mn_r (Int.le_trans (Int.le_of_lt hT) h1), mx_l hT]
      exact (Int.toNat_of_nonpos hT).symm
  rw [e1, e2]
theorem repl0_eq (T : List Nat) (i j : Int) : (replL T [] i j).flatten = replS T [] i j := by
  rw [repl_flat]
  by_cases h : Keep T i j
  · rw [repl_keep h]
    unfold replS
    rw [if_pos (show j < 0 ∨ lastOf T < i ∨ j < i from h)]
    simp
  · exact repl_cut h
theorem keep_len {T : List Nat} {i j : Int} (hT : 0 < T.length) (h : ¬ Keep T i j) : (replS T [] i j).length ≠ T.length := by
  unfold replS
  rw [if_neg (show ¬ (j < 0 ∨ lastOf T < i ∨ j < i) from h)]
  have hT : 0 ≤ lastOf T := Int.le_sub_one_of_lt (Int.ofNat_lt.mpr hT)
  have e := cut_ends hT h
  have e1 : (mx i 0).toNat < (mn j (lastOf T) + 1).toNat := by
    rw [Int.toNat_add (Int.le_trans (by rw [mx_max]; exact Int.le_max_right _ _) e) (by decide)]
    exact Nat.lt_succ_of_le (Int.toNat_le_toNat e)
  have e2 : (mn j (lastOf T) + 1).toNat ≤ T.length := by
    refine Int.toNat_le.mpr (Int.le_trans (Int.add_le_add_right (by rw [mn_min]; exact Int.min_le_right _ _) _) (Int.le_of_eq (last_succ T)))
  rw [List.append_nil, List.length_append, List.length_take, List.length_drop, Nat.min_eq_left (Nat.le_trans (Nat.le_of_lt e1) e2)]
  generalize (mx i 0).toNat = a at e1
  generalize (mn j (lastOf T) + 1).toNat = b at e1 e2
  omega
theorem replS_keep {T b : List Nat} {i j : Int} (h : Keep T i j) : replS T b i j = T := by
  unfold replS
  rw [if_pos (show j < 0 ∨ lastOf T < i ∨ j < i from h)]
theorem contains_words : (words.map fun w => Txt.contains (tx w) (tx [32])) = words.map fun w => w.contains 32 := by kernel_rfl
theorem e_range {T : List Nat} (r q : Ix) : (lcRange T r q).flat = ocRange T r q := by
  cases r <;> cases q <;> simp only [lcRange, ocRange, Lc.flat, ones_flat, cutR_cutS]
theorem e_same {T : List Nat} (r : Ix) : (lcRange T r r).flat = ocIndex T r := by
  cases r <;> simp only [lcRange, ocIndex, Lc.flat, ones_flat, cutR_same]
theorem e_insert {T b : List Nat} (r : Ix) : (lcInsert T b r).flat = ocInsert T b r := by
  cases r <;> simp only [lcInsert, ocInsert, Lc.flat, ins_eq]
theorem e_repl0 {T : List Nat} (r q : Ix) : (lcRepl T [] r q).flat = ocRepl T [] r q := by
  cases r <;> cases q <;> simp only [lcRepl, ocRepl, Lc.flat, repl0_eq]
structure Word (w : List Nat) (r : Ix) : Prop where
  mem : w ∈ words
  is : IxIs w r
  bad : ∀ x, r = .bad x → x = xOf w
theorem word_of {w : List Nat} (h : w ∈ words) : ∃ r, Word w r := let ⟨r, a, b⟩ := ix_of h; ⟨r, h, a, b⟩
theorem self_index {T w : List Nat} {r : Ix} (W : Word w r) : SelfEq (ocIndex T r) := by
  cases r with
  | good f => exact self_ok _
  | bad x => rw [W.bad x rfl]; exact self_word w
theorem self_range {T w v : List Nat} {r q : Ix} (W : Word w r) (U : Word v q) : SelfEq (ocRange T r q) := by
  cases r with
  | bad x => rw [W.bad x rfl]; exact self_word w
  | good f =>
    cases q with
    | bad x => rw [U.bad x rfl]; exact self_word v
    | good g => exact self_ok _
theorem self_insert {T b w : List Nat} {r : Ix} (W : Word w r) : SelfEq (ocInsert T b r) := by
  cases r with
  | good f => exact self_ok _
  | bad x => rw [W.bad x rfl]; exact self_word w
theorem self_repl {T b w v : List Nat} {r q : Ix} (W : Word w r) (U : Word v q) : SelfEq (ocRepl T b r q) := by
  cases r with
  | bad x => rw [W.bad x rfl]; exact self_word w
  | good f =>
    cases q with
    | bad x => rw [U.bad x rfl]; exact self_word v
    | good g => exact self_ok _
theorem c_places (m : Nat) {T b w v : List Nat} {r q : Ix} (hT : Sg T) (lT : T.length ≤ 6) (hb : Sg b) (lb : b.length ≤ 3) (W : Word w r) (U : Word v q) : callN (m + 10) 66 [.str T, .str (joinQ (ones T)), .str w, .str v, .str b] = ret (.val (.bool true)) := by
  have hs : Small T := Nat.le_trans lT (by decide)
  have hl : T.length ≤ 20 := by omega
  have hfb := fine_one hb (by exact Nat.le_trans ‹_› (by decide))
  obtain ⟨a1, a2⟩ := c_lrange (m + 1) (r := r) (q := r) (.str wLrange) hT hl W.is W.is
  obtain ⟨b1, b2⟩ := c_lrange (m + 1) (r := r) (q := q) (.str wLrange) hT hl W.is U.is
  obtain ⟨d1, d2⟩ := c_linsert (m + 1) (r := r) (.str wLinsert) hT hl W.is hfb
  rw [Lc.run_oc] at a1 b1 d1
  have h1 := h_list1 (k := m + 2) (by decide) a2 (d_lrange a1)
  have h2 := h_list1 (k := m + 2) (by decide) b2 (d_lrange b1)
  have h3 := h_list1 (k := m + 2) (by decide) d2 (d_linsert d1)
  have g1 := h_str (j := false) (d_index (c_strindex (m + 2) (.str wString) (.str wIndex) W.is hs))
  have g2 := h_str (j := false) (d_range (c_strrange (m + 2) (.str wString) (.str wRange) hs W.is U.is))
  have g3 := h_str (j := false) (d_insert (c_strinsert (m + 2) (b := b) (.str wString) (.str wInsert) hl (by exact Nat.le_trans ‹_› (by decide)) W.is))
  rw [e_same] at h1
  rw [e_range] at h2
  rw [e_insert] at h3
  have s1 := self_index (T := T) W
  have s2 := self_range (T := T) W U
  have s3 := self_insert (T := T) (b := b) W
  unfold SelfEq at s1 s2 s3
  have hc : Txt.contains (tx w) (tx [32]) = w.contains 32 := List.map_inj_left.mp contains_words w W.mem
  have step : ∀ (k : (w == []) = false) (k2 : w.contains 32 = false), callN (m + 9) 64 [.list [.str wLindex, .str (joinQ (ones T)), .str w], .bool false] = ret (.val (hV (ocIndex T r))) := fun k k2 =>
    h_list0 (k := m + 7) (by decide) (d_lindex (c_lindex m (.str wLindex) hT hl W.is (reads_word W.mem k k2)))
  rw [call_of (F := f_law_places_right) rfl _ _ rfl]
  unfold wLrange at h1 h2
  unfold wLinsert at h3
  unfold wString at g1 g2 g3
  unfold wIndex at g1
  unfold wRange at g2
  unfold wInsert at g3
  unfold wLindex at step
  cases hk : (w == []) with
  | true =>
    simp only [f_law_places_right, exs_nil, exs_cons, ex_ite, ex_ret, v_v, v_c, v_lst, v_bo, v_cmp, v_inS, v_call, vs_nil, vs_cons, vB_nil, vB_cons, v_cond, mb_ret, mb_assoc, lift_some_ret, g_get, gd0, gdS, a_bool, n_t, d_f, ↓i_ft, m_nil, m_cons, r_0, ap_n, ap_c, q_eq, q_ne, o_some, veq_str, ite_and, if_true, fin_ret, then_next, then_ret, Nat.sub_self, Bool.and_true, Bool.bne_true, k3, k4, k5, List.length_cons, List.length_nil, Nat.zero_add, Nat.reduceAdd, hk, h1, h2, h3, g1, g2, g3, s1, s2, s3]
  | false =>
    cases hk2 : w.contains 32 with
    | true =>
      rw [hk2] at hc
      simp only [f_law_places_right, exs_nil, exs_cons, ex_ite, ex_ret, v_v, v_c, v_lst, v_bo, v_cmp, v_inS, v_call, vs_nil, vs_cons, vB_nil, vB_cons, v_cond, mb_ret, mb_assoc, lift_some_ret, g_get, gd0, gdS, a_bool, n_t, n_f, ↓i_ft, m_nil, m_cons, r_0, ap_n, ap_c, q_eq, q_ne, o_some, veq_str, ite_and, if_true, fin_ret, then_next, then_ret, Nat.sub_self, Bool.and_true, Bool.and_false, Bool.bne_true, k3, k4, k5, List.length_cons, List.length_nil, Nat.zero_add, Nat.reduceAdd, hk, hc, h1, h2, h3, g1, g2, g3, s1, s2, s3]
    | false =>
      have h0 := step hk hk2
      rw [hk2] at hc
      simp only [f_law_places_right, exs_nil, exs_cons, ex_ite, ex_ret, v_v, v_c, v_lst, v_bo, v_cmp, v_inS, v_call, vs_nil, vs_cons, vB_nil, vB_cons, v_cond, mb_ret, lift_some_ret, g_get, gd0, gdS, a_bool, n_t, n_f, ↓i_tt, ↓i_ft, m_nil, m_cons, r_0, ap_n, ap_c, q_eq, q_ne, o_some, veq_str, ite_and, if_true, fin_ret, then_next, then_ret, Nat.sub_self, Bool.and_true, Bool.bne_true, k3, k4, k5, List.length_cons, List.length_nil, Nat.zero_add, Nat.reduceAdd, hk, hc, h0, h1, h2, h3, g1, g2, g3, s1, s2, s3]
end Lr
end
section
set_option maxRecDepth 100000
open PySem
namespace Lr
theorem len_small {l : List Nat} (h : l.length ≤ 100000) : lenOf (.str l) = some (.int l.length) := by
  rw [lenOf, if_pos (Nat.le_trans h (by decide))]
theorem c_replright (m : Nat) {T b w v : List Nat} {r q : Ix} (hT : Sg T) (lT : T.length ≤ 6) (hb : Sg b) (lb : b.length ≤ 3) (W : Word w r) (U : Word v q) : callN (m + 10) 67 [.str T, .str (joinQ (ones T)), .str w, .str v, .str b] = ret (.val (.bool true)) := by
  have hs : Small T := Nat.le_trans lT (by decide)
  have hl : T.length ≤ 20 := by omega
  have hfb := fine_one hb (by exact Nat.le_trans ‹_› (by decide))
  obtain ⟨a1, a2⟩ := c_lreplace0 m (r := r) (q := q) (.str wLreplace) hT hl W.is U.is
  obtain ⟨b1, b2⟩ := c_lreplace1 m (r := r) (q := q) (.str wLreplace) hT hl W.is U.is hfb
  rw [Lc.run_oc] at a1 b1
  have h1 := h_list1 (k := m + 2) (by decide) a2 (d_lreplace a1)
  have h2 := h_list1 (k := m + 2) (by decide) b2 (d_lreplace b1)
  have g1 := h_str (j := false) (d_replace (c_strrepl0 (m + 2) (.str wString) (.str wReplace) hl W.is U.is))
  have g2 := h_str (j := false) (d_replace (c_strrepl1 (m + 2) (.str wString) (.str wReplace) hl (b := b) (by exact Nat.le_trans ‹_› (by decide)) W.is U.is))
  rw [e_repl0] at h1
  have s1 := self_repl (T := T) (b := []) W U
  unfold SelfEq at s1
  unfold wLreplace at h1 h2
  unfold wString wReplace at g1 g2
  rw [call_of (F := f_law_replace_right) rfl _ _ rfl]
  have bad : ∀ x, ocRepl T [] r q = .ex x → (lcRepl T [b] r q).flat = .ex x → ocRepl T b r q = .ex x → bnd (exs (callN (m + 9)) ((([V.str T, V.str (joinQ (ones T)), V.str w, V.str v, V.str b] : List V).map fun v => some (Bd.val v)) ++ List.replicate (f_law_replace_right.nloc - f_law_replace_right.arity) none) f_law_replace_right.body) fin = ret (.val (.bool true)) := fun x e1 e2 e3 => by
    rw [e1] at h1 g1 s1
    rw [e2] at h2
    rw [e3] at g2
    have hz : idx (hV (.ex x)) (.int 0) = some (.str [114, 97, 105, 115, 101, 100]) := rfl
    generalize hV (.ex x) = z at *
    simp only [f_law_replace_right, exs_nil, exs_cons, ex_set, ex_ite, ex_ret, v_v, v_c, v_lst, v_bo, v_cmp, v_idx, v_call, vs_nil, vs_cons, vB_nil, vB_cons, v_cond, mb_ret, lift_some_ret, g_get, g_put, gd0, gdS, st0, stS, a_bool, isV_v, so_t, n_t, ↓i_tt, ↓i_ft, m_nil, m_cons, r_0, r_S, ap_n, ap_c, q_eq, q_ne, o_some, veq_str, ite_and, if_true, fin_ret, then_next, then_ret, Nat.reduceSub, Bool.and_true, beq_self_eq_true, k4, k5, k6, List.length_cons, List.length_nil, Nat.zero_add, Nat.reduceAdd, h1, h2, g1, g2, s1, hz]
  cases r with
  | bad x => exact bad x rfl rfl rfl
  | good f =>
    cases q with
    | bad x => exact bad x rfl rfl rfl
    | good g =>
      simp only [ocRepl, lcRepl, Lc.flat] at h1 h2 g1 g2 s1
      generalize f (lastOf T) = i at h1 h2 g1 g2 s1
      generalize g (lastOf T) = j at h1 h2 g1 g2 s1
      have hP := repl_flat T [b] i j
      simp only [List.flatten_cons, List.flatten_nil, List.append_nil] at hP
      rw [hP] at h2
      have hz : ∀ s, idx (hV (.ok s)) (.int 0) = some (.str [103, 97, 118, 101]) := fun s => rfl
      have hz1 : ∀ s, idx (hV (.ok s)) (.int 1) = some (.str s) := fun s => rfl
      have hg : ∀ s : List Nat, V.tup [.str [103, 97, 118, 101], .str s] = hV (.ok s) := fun s => rfl
      have hcl : (replS T [] i j).length ≤ 100000 := by
        unfold replS
        split
        · exact Nat.le_trans ‹_› (by decide)
        · exact Nat.le_trans (cut_len _ _ _ _) (by simp only [List.length_nil]; omega)
      have hlc := len_small hcl
      by_cases hn : T = []
      · subst hn
        have hput : List.take (pB ([] : List Nat).length i).toNat [] ++ b ++ List.drop (pE ([] : List Nat).length i j).toNat [] = b := by simp
        rw [hput] at h2
        simp only [f_law_replace_right, exs_nil, exs_cons, ex_set, ex_ite, ex_ret, v_v, v_c, v_tup, v_lst, v_bo, v_cmp, v_idx, v_call, vs_nil, vs_cons, vB_nil, vB_cons, v_cond, mb_ret, lift_some_ret, g_get, g_put, gd0, gdS, st0, stS, a_bool, isV_v, so_t, n_t, ↓i_tt, ↓i_ft, m_nil, m_cons, r_0, r_S, ap_n, ap_c, q_eq, q_ne, o_some, veq_str, ite_and, if_true, fin_ret, then_next, then_ret, Nat.reduceSub, Nat.reduceBEq, beq_nc, List.cons_beq_cons, Bool.and_true, Bool.and_false, beq_self_eq_true, Bool.and_self, k2, k4, k5, k6, List.length_cons, List.length_nil, Nat.zero_add, Nat.reduceAdd, h1, h2, g1, g2, s1, hz, hg, veq_ok]
      · have hT0 : (T == []) = false := by simpa using hn
        have hT1 : 0 < T.length := List.length_pos_iff.mpr hn
        by_cases hk : Keep T i j
        · have e1 : replS T [] i j = T := replS_keep hk
          have e2 : replS T b i j = T := replS_keep hk
          rw [e1] at h1 g1 s1 hlc
          rw [e2] at g2
          simp only [f_law_replace_right, exs_nil, exs_cons, ex_set, ex_ite, ex_ret, v_v, v_c, v_tup, v_lst, v_bo, v_cmp, v_idx, v_call, v_len, vs_nil, vs_cons, vB_nil, vB_cons, v_cond, mb_ret, lift_some_ret, g_get, g_put, gd0, gdS, st0, stS, a_bool, isV_v, so_t, n_t, ↓i_tt, ↓i_ft, m_nil, m_cons, r_0, r_S, ap_n, ap_c, q_eq, q_ne, o_some, veq_str, veq_int, ite_and, if_true, fin_ret, then_next, then_ret, Nat.reduceSub, Nat.reduceBEq, beq_nc, List.cons_beq_cons, Bool.and_true, Bool.and_false, beq_self_eq_true, Bool.and_self, k2, k4, k5, k6, List.length_cons, List.length_nil, Nat.zero_add, Nat.reduceAdd, h1, h2, g1, g2, s1, hz, hz1, hg, hlc, hT0, veq_ok]
        · have e1 : (((replS T [] i j).length : Int) == (T.length : Int)) = false := by
            have := keep_len hT1 hk
            simp only [beq_eq_false_iff_ne, ne_eq]
            omega
          have hls := len_s hs
          rw [repl_cut hk] at h2
          simp only [f_law_replace_right, exs_nil, exs_cons, ex_set, ex_ite, ex_ret, v_v, v_c, v_tup, v_lst, v_bo, v_cmp, v_idx, v_call, v_len, vs_nil, vs_cons, vB_nil, vB_cons, v_cond, mb_ret, lift_some_ret, g_get, g_put, gd0, gdS, st0, stS, a_bool, isV_v, so_t, n_t, ↓i_ft, m_nil, m_cons, r_0, r_S, ap_n, ap_c, q_eq, q_ne, o_some, veq_str, veq_int, ite_and, if_true, fin_ret, then_next, then_ret, Nat.reduceSub, Nat.reduceBEq, beq_nc, List.cons_beq_cons, Bool.and_true, Bool.and_false, beq_self_eq_true, Bool.and_self, k2, k4, k5, k6, List.length_cons, List.length_nil, Nat.zero_add, Nat.reduceAdd, h1, h2, g1, g2, s1, hz, hz1, hg, hlc, hls, e1, hT0, veq_ok]
end Lr
end
section
set_option maxRecDepth 1000000
open PySem
namespace Lr
noncomputable def goodC : List (List Nat × Nat) := [([50], 2), ([48], 0), ([49], 1), ([51], 3), ([48, 120, 50], 2), ([43, 49], 1), ([32, 50, 32], 2), ([45, 48], 0)]
noncomputable def easyC : List (List Nat × V) := [([45, 49], .int (-1)), ([], .none), ([120], .none), ([49, 46, 53], .none), ([50, 97], .none), ([57, 50, 50, 51, 51, 55, 50, 48, 51, 54, 56, 53, 52, 55, 55, 53, 56, 48, 56], .none),
  ([45, 57, 50, 50, 51, 51, 55, 50, 48, 51, 54, 56, 53, 52, 55, 55, 53, 56, 48, 57], .none), ([45, 57, 50, 50, 51, 51, 55, 50, 48, 51, 54, 56, 53, 52, 55, 55, 53, 56, 48, 56], .int (-9223372036854775808))]
theorem counts_all (n : Nat) (p : Int) : callN (n + 1) 58 [] p = some (.ok (.val (.list ((valsOf (callN 1 58 [] 0))))), p) := by kernel_rfl
theorem whole_good (n : Nat) (p : Int) : (goodC.map fun z => callN (n + 4) 7 [.str z.1] p) = goodC.map fun z => some (.ok (.val (.int z.2)), p) := by kernel_rfl
theorem wide_good (n : Nat) (p : Int) : ([0, 1, 2, 3].map fun i => callN (n + 1) 10 [.int i] p) = [0, 1, 2, 3].map fun i => some (.ok (.val (.int i)), p) := by kernel_rfl
theorem easy_counts (n : Nat) (T : List Nat) (p : Int) : (easyC.map fun z => callN (n + 10) 68 [.str T, .str z.1, z.2] p) = easyC.map fun _ => some (.ok (.val (.bool true)), p) := by kernel_rfl
theorem repl_map (k : Nat) (T : List Nat) : (List.replicate k [V.str T]).flatten = (List.replicate k T).map V.str := by
  induction k with
  | zero => rfl
  | succ k ih => rw [List.replicate_succ, List.flatten_cons, ih, List.replicate_succ, List.map_cons]; rfl
theorem flat_nil (k : Nat) : (List.replicate k ([] : List Nat)).flatten = [] := by
  induction k with
  | zero => rfl
  | succ k ih => rw [List.replicate_succ, List.flatten_cons, ih]; rfl
theorem flat_len (k : Nat) (T : List Nat) : ((List.replicate k T).flatten).length = k * T.length := by
  induction k with
  | zero => simp
  | succ k ih => rw [List.replicate_succ, List.flatten_cons, List.length_append, ih, Nat.succ_mul, Nat.add_comm]
theorem fine_repeat {T : List Nat} (hT : Sg T) (hl : T.length ≤ 20) {k : Nat} (hk : k ≤ 3) : Fine (List.replicate k T) where
  len := by rw [List.length_replicate]; exact Nat.le_trans ‹_› (by decide)
  sg := fun e he => (List.eq_of_mem_replicate he) ▸ hT
  sz := fun e he => (List.eq_of_mem_replicate he) ▸ hl
structure Cnt (c : List Nat) (k : Nat) : Prop where
  le : k ≤ 3
  whole : ∀ n, callN (n + 4) 7 [.str c] = ret (.val (.int k))
  wide : ∀ n, callN (n + 1) 10 [.int (k : Int)] = ret (.val (.int k))
theorem cnt_of {z : List Nat × Nat} (h : z ∈ goodC) : Cnt z.1 z.2 where
  le := by
    have : ∀ z ∈ goodC, z.2 ≤ 3 := by decide
    exact this z h
  whole := fun n => funext fun p => List.map_inj_left.mp (whole_good n p) z h
  wide := fun n => funext fun p => by
    have : ∀ z ∈ goodC, (z.2 : Int) ∈ ([0, 1, 2, 3] : List Int) := by decide
    exact List.map_inj_left.mp (wide_good n p) (z.2 : Int) (this z h)
theorem c_lrepeat (m : Nat) {T c : List Nat} {k : Nat} (a : V) (hT : Sg T) (hl : T.length ≤ 20) (hc : Cnt c k) : callN (m + 6) 38 [.none, .list [a, .str c, .str T]] = (Lc.ok (List.replicate k T)).run := by
  have h1 := hc.whole (m + 1)
  have h2 := hc.wide (m + 4)
  have hj := c_join (m + 1) (fine_repeat hT hl hc.le)
  rw [← repl_map] at hj
  have h3 : decide ((k : Int) < 0) = false := decide_eq_false (by omega)
  have h4 : k * [V.str T].length ≤ lid ∧ -2 ^ 60 ≤ (k : Int) ∧ (k : Int) < 2 ^ 60 := by
    have := hc.le
    refine ⟨?_, by exact Int.natCast_nonneg _, by omega⟩
    simp only [List.length_cons, List.length_nil, Nat.zero_add, Nat.mul_one]
    unfold lid; exact Nat.le_trans ‹_› (by decide)
  rw [call_of (F := f_do_lrepeat) rfl _ _ rfl]
  have e1 : ((k : Int) == (k : Int)) = true := by simp
  simp only [f_do_lrepeat, exs_nil, exs_cons, ex_set, ex_ite, ex_ret, ex_raise, ex_stuck, v_v, v_c, v_tup, v_bin, v_cmp, v_idx, v_slF, v_call, v_len, v_str, vs_nil, vs_cons, v_cond, mb_ret, mb_assoc, lift_some_ret, g_get, g_put, gd0, gdS, st0, stS, a_bool, isV_v, so_t, n_t, ↓i_ft, m_nil, m_cons, r_0, r_S, ap_n, ap_c, q_ne, q_lt, bi_mull, o_some, veq_int, mb_fail, mb_thr, if_true, fin_ret, then_next, then_ret, Nat.reduceSub, Int.reduceLT, decide_false, beq_self_eq_true, len3, idl1, sl32, h1, h2, h3, if_pos h4, Int.toNat_natCast, hj, Lc.run]
theorem c_strrepeat (m : Nat) {T c : List Nat} {k : Nat} (a b : V) (hl : T.length ≤ 20) (hc : Cnt c k) : callN (m + 6) 52 [.none, .list [a, b, .str T, .str c]] = (Oc.ok (List.replicate k T).flatten).run := by
  have hk := hc.le
  have h1 := hc.whole m
  have h2 := hc.wide (m + 3)
  have hs : Small T := Nat.le_trans hl (by decide)
  have hw : callN (m + 5) 46 [.str c] = ret (.val (.int k)) := by
    rw [call_of (F := f_need_wide) rfl _ _ rfl]
    have e1 : ((k : Int) == (k : Int)) = true := by simp
    simp only [f_need_wide, exs_nil, exs_cons, ex_set, ex_ite, ex_ret, ex_raise, v_v, v_c, v_tup, v_cmp, v_call, vs_nil, vs_cons, v_cond, mb_ret, mb_assoc, lift_some_ret, g_get, g_put, gd0, gdS, st0, stS, a_bool, n_t, ↓i_ft, m_nil, m_cons, r_0, r_S, ap_n, ap_c, q_ne, o_some, veq_int, mb_thr, fin_ret, then_next, then_ret, Nat.add_one_sub_one, beq_self_eq_true, h1, h2]
  rw [call_of (F := f_string_repeat) rfl _ _ rfl]
  by_cases h0 : k = 0
  · subst h0
    have e1 : decide (((0 : Nat) : Int) < 1) = true := rfl
    simp only [f_string_repeat, exs_nil, exs_cons, ex_set, ex_ite, ex_ret, ex_stuck, v_v, v_c, v_bo, v_cmp, v_idx, v_call, v_len, vs_nil, vs_cons, vB_nil, vB_cons, v_cond, mb_ret, mb_assoc, lift_some_ret, g_get, g_put, gd0, gdS, st0, stS, a_bool, isV_v, so_t, n_t, ↓i_tt, ↓i_tf, ↓i_ft, m_nil, m_cons, r_0, r_S, ap_n, ap_c, q_eq, q_ne, q_lt, o_some, veq_int, ite_or, mb_fail, if_true, fin_ret, then_next, then_ret, Bool.or_false, Nat.reduceSub, beq_self_eq_true, len4, idl3, hw, e1, Oc.run, List.flatten_nil]
  have e1 : decide ((k : Int) < 1) = false := decide_eq_false (by omega)
  by_cases hT : T = []
  · subst hT
    rw [flat_nil]
    simp only [f_string_repeat, exs_nil, exs_cons, ex_set, ex_ite, ex_ret, ex_stuck, v_v, v_c, v_bo, v_cmp, v_idx, v_call, v_len, vs_nil, vs_cons, vB_nil, vB_cons, v_cond, mb_ret, lift_some_ret, g_get, g_put, gd0, gdS, st0, stS, a_bool, isV_v, so_t, n_t, ↓i_tt, ↓i_ft, m_nil, m_cons, r_0, r_S, ap_n, ap_c, q_eq, q_ne, q_lt, o_some, veq_str, veq_int, ite_or, mb_fail, if_true, fin_ret, then_next, then_ret, Bool.or_true, Bool.or_false, Nat.reduceSub, beq_self_eq_true, len4, idl2, idl3, hw, e1, Oc.run]
  have e2 : (T == []) = false := by simpa using hT
  have h3 : (k : Int).natAbs < 2 ^ 200 ∧ (T.length : Int).natAbs < 2 ^ 200 := by
    rw [Int.natAbs_natCast, Int.natAbs_natCast]
    have : (100 : Nat) < 2 ^ 200 := by decide
    omega
  have hp : k * T.length ≤ 60 := Nat.le_trans (Nat.mul_le_mul hk hl) (by decide)
  have h5 : (1 : Int) = 1 ∧ 0 ≤ (31 : Int) ∧ (31 : Int) ≤ 64 := by decide
  have h6 : decide ((2 : Int) ^ (31 : Int).toNat ≤ (k : Int) * (T.length : Int)) = false := by
    simp only [decide_eq_false_iff_not]
    have : (k : Int) * (T.length : Int) = ((k * T.length : Nat) : Int) := by simp
    rw [this, show ((2 : Int) ^ (31 : Int).toNat) = 2147483648 from by decide]
    omega
  have h7 : k * T.length ≤ lid ∧ -2 ^ 60 ≤ (k : Int) ∧ (k : Int) < 2 ^ 60 := by
    refine ⟨?_, by exact Int.natCast_nonneg _, by omega⟩
    unfold lid; exact Nat.le_trans ‹_› (by decide)
  simp only [f_string_repeat, exs_nil, exs_cons, ex_set, ex_ite, ex_ret, ex_raise, ex_stuck, v_v, v_c, v_tup, v_bin, v_bo, v_cmp, v_idx, v_call, v_len, vs_nil, vs_cons, vB_nil, vB_cons, v_cond, mb_ret, mb_assoc, lift_some_ret, g_get, g_put, gd0, gdS, st0, stS, a_bool, isV_v, so_t, n_t, ↓i_ft, m_nil, m_cons, r_0, r_S, ap_n, ap_c, q_eq, q_ne, q_lt, q_ge, bi_mul, bi_muls, bi_shl, o_some, veq_str, veq_int, ite_or, mb_fail, mb_thr, if_true, fin_ret, then_next, then_ret, Bool.or_false, Nat.reduceSub, Int.reduceLE, beq_self_eq_true, len4, idl2, idl3, hw, e1, e2, len_s hs, if_pos h3, and_self, h6, if_pos h7, Int.toNat_natCast, Oc.run]
theorem c_repright (m : Nat) {T c : List Nat} {k : Nat} (hT : Sg T) (lT : T.length ≤ 6) (hc : Cnt c k) : callN (m + 10) 68 [.str T, .str c, .int k] = ret (.val (.bool true)) := by
  have hl : T.length ≤ 20 := by exact Nat.le_trans ‹_› (by decide)
  have hs : Small T := Nat.le_trans lT (by decide)
  have hk := hc.le
  have hf := fine_repeat hT hl hc.le
  have a1 := c_lrepeat (m + 1) (.str wLrepeat) hT hl hc
  rw [Lc.run_oc] at a1
  have h1 := h_list1 (k := m + 2) (w := wLrepeat) (l := .ok (List.replicate k T)) (by decide) hf (d_lrepeat a1)
  have g1 := h_str (j := false) (d_repeat (c_strrepeat (m + 1) (.str wString) (.str wRepeat) hl hc))
  simp only [Lc.flat] at h1
  unfold wLrepeat at h1
  unfold wString wRepeat at g1
  have hz : ∀ s, idx (hV (.ok s)) (.int 0) = some (.str [103, 97, 118, 101]) := fun s => rfl
  have hz1 : ∀ s, idx (hV (.ok s)) (.int 1) = some (.str s) := fun s => rfl
  have hp : k * T.length ≤ 60 := Nat.le_trans (Nat.mul_le_mul hk hl) (by decide)
  have hlc := len_small (l := (List.replicate k T).flatten) (by rw [flat_len]; exact Nat.le_trans ‹_› (by decide))
  rw [flat_len] at hlc
  have h3 : (k : Int).natAbs < 2 ^ 200 ∧ (T.length : Int).natAbs < 2 ^ 200 := by
    rw [Int.natAbs_natCast, Int.natAbs_natCast]
    have : (100 : Nat) < 2 ^ 200 := by decide
    omega
  have e0 : decide ((k : Int) < 0) = false := decide_eq_false (by omega)
  have e1 : (((k * T.length : Nat) : Int) == (k : Int) * (T.length : Int)) = true := by simp
  have s1 : veq (hV (.ok (List.replicate k T).flatten)) (hV (.ok (List.replicate k T).flatten)) = some true := self_ok _
  generalize (List.replicate k T).flatten = F at *
  rw [call_of (F := f_law_repeat_right) rfl _ _ rfl]
  simp only [f_law_repeat_right, exs_nil, exs_cons, ex_set, ex_ite, ex_ret, v_v, v_c, v_tup, v_lst, v_bin, v_bo, v_cmp, v_isNone, v_idx, v_call, v_len, v_str, vs_nil, vs_cons, vB_nil, vB_cons, v_cond, mb_ret, mb_assoc, lift_some_ret, g_get, g_put, gd0, gdS, st0, stS, a_bool, isV_v, so_t, ↓i_ft, m_nil, m_cons, r_0, r_S, ap_n, ap_c, q_eq, q_lt, bi_mul, o_some, veq_str, veq_int, ite_and, if_true, fin_ret, then_next, then_ret, Nat.reduceSub, Nat.reduceBEq, beq_nc, List.cons_beq_cons, Bool.and_true, Bool.and_false, beq_self_eq_true, Bool.and_self, k3, k4, List.length_cons, List.length_nil, Nat.zero_add, Nat.reduceAdd, h1, g1, hz, hz1, hlc, len_s hs, if_pos h3, e0, e1, s1]
end Lr
end
section
set_option maxRecDepth 1000000
open PySem
namespace Lr
noncomputable def Gives {α : Type} (m : M α) (P : α → Prop) : Prop := ∀ p, ∃ a q, m p = some (.ok a, q) ∧ P a
theorem gives_ret {α : Type} {a : α} {P : α → Prop} (h : P a) : Gives (ret a) P := fun p => ⟨a, p, rfl, h⟩
theorem gives_bnd {α β : Type} {m : M α} {f : α → M β} {P : α → Prop} {Q : β → Prop} (h : Gives m P) (k : ∀ a, P a → Gives (f a) Q) : Gives (bnd m f) Q := fun p => by
  obtain ⟨a, q, e, ha⟩ := h p
  obtain ⟨b, q2, e2, hb⟩ := k a ha q
  refine ⟨b, q2, ?_, hb⟩
  unfold bnd
  rw [e]
  exact e2
noncomputable def draws : List Nat := [7, 4, 14, 13, 11, 16]
theorem draw_tab (n : Nat) (p : Int) : (draws.map fun (k : Nat) => callN (n + 1) 59 [.pen, .int (k : Int)] p) = draws.map fun (k : Nat) => some (.ok (.val (.int (p.fmod (k : Int)))), p.fdiv (k : Int)) := by kernel_rfl
theorem g_draw (n : Nat) {k : Nat} (h : k ∈ draws) : Gives (callN (n + 1) 59 [.pen, .int (k : Int)]) fun b => ∃ i : Int, b = .val (.int i) := fun p =>
  ⟨_, _, List.map_inj_left.mp (draw_tab n p) k h, _, rfl⟩
theorem signs_ok : (signs.all fun c => decide (0 ≤ Txt.find (tx signs) (tx [c]))) = true := by kernel_rfl
theorem signs_small : Small signs := by unfold Small; decide
theorem pick_sign {k : Int} (h0 : 0 ≤ k) (h1 : k < 14) : ∃ c, c ∈ signs ∧ idx (.str signs) (.int k) = some (.str [c]) := by
  have hk : k.toNat < signs.length := by
    have : signs.length = 14 := rfl
    exact (Int.toNat_lt ‹_›).mpr ‹_›
  exact ⟨signs[k.toNat], List.getElem_mem hk, idx_s (k := k.toNat) (by exact (Int.toNat_of_nonneg ‹_›).symm) (List.getElem?_eq_getElem hk) signs_small⟩
theorem mod_ok {z k : Int} (hk : 0 < k) : binop .mod (.int z) (.int k) = some (.int (z.fmod k)) := by
  show (if k = 0 then none else some (V.int (z.fmod k))) = _
  rw [if_neg (by omega)]
noncomputable abbrev tB : MSs := wB (nthS f_law_turned.body 3)
theorem turned_loop (n : Nat) {t : List Nat} (ht : Sg t) (hs : Small t) (most : Option Bd) (size : Option Bd) : ∀ (l : List V), (∀ v ∈ l, ∃ i : Int, v = .int i ∧ 0 ≤ i) → ∀ (made : List Nat) (x7 x6 : Option Bd), Sg made → made.length + l.length ≤ 100 →
    Gives (loopL (callN (n + 1)) 6 tB l [some (.val (.str t)), most, some (.val .pen), some (.val (.str signs)), size, some (.val (.str made)), x6, x7]) fun s => ∃ made' y6 y7, s = (.next, [some (.val (.str t)), most, some (.val .pen), some (.val (.str signs)), size, some (.val (.str made')), y6, y7]) ∧ Sg made' ∧ made'.length = made.length + l.length
  | [], _, made, x7, x6, hg, _ => gives_ret ⟨made, x6, x7, rfl, hg, rfl⟩
  | v :: l, hl, made, x7, x6, hg, hm => by
    obtain ⟨i, rfl, hi⟩ := hl _ (.head _)
    rw [List.length_cons] at hm
    rw [loopL_cons]
    refine gives_bnd (P := fun s => ∃ c y6 y7, s = (.next, [some (.val (.str t)), most, some (.val .pen), some (.val (.str signs)), size, some (.val (.str (made ++ [c]))), y6, y7]) ∧ c ∈ signs) ?_ fun s hs2 => ?_
    ·
      have hold : ∃ z : Int, ev (callN (n + 1)) [some (.val (.str t)), most, some (.val .pen), some (.val (.str signs)), size, some (.val (.str made)), some (.val (.int i)), x7] (.ifx (.cmp .lt (.v 6) (.len (.v 0))) (.index (.v 3) (.idx (.v 0) (.v 6))) (.c (.int 0))) = ret (.int z) := by
        by_cases h : i < (t.length : Int)
        · have hk : i.toNat < t.length := by exact (Int.toNat_lt ‹_›).mpr ‹_›
          have hx := idx_s (t := t) (i := i) (k := i.toNat) (c := t[i.toNat]) (by exact (Int.toNat_of_nonneg ‹_›).symm) (List.getElem?_eq_getElem hk) hs
          have hc := List.all_eq_true.mp signs_ok t[i.toNat] (ht _ (List.getElem_mem hk))
          have hc : 0 ≤ Txt.find (tx signs) (tx [t[i.toNat]]) := by simpa using hc
          refine ⟨Txt.find (tx signs) (tx [t[i.toNat]]), ?_⟩
          simp only [v_v, v_c, v_cmp, v_ifx, v_idx, v_len, v_index, mb_ret, lift_some_ret, g_get, gd0, gdS, a_bool, a_str, isV_v, so_t, ↓i_tt, q_lt, o_some, if_true, decide_true, len_s hs, h, hx, if_pos hc]
        · refine ⟨0, ?_⟩
          simp only [v_v, v_c, v_cmp, v_ifx, v_idx, v_len, v_index, mb_ret, lift_some_ret, g_get, gd0, gdS, a_bool, a_str, isV_v, so_t, ↓i_ft, q_lt, o_some, if_true, decide_false, len_s hs, h]
      obtain ⟨z, hz⟩ := hold
      have ht1 : tB = .cons (.set 7 (.ifx (.cmp .lt (.v 6) (.len (.v 0))) (.index (.v 3) (.idx (.v 0) (.v 6))) (.c (.int 0)))) (.cons (.set 5 (.bin .add (.v 5) (.idx (.v 3) (.bin .mod (.bin .add (.v 7) (.call 59 (.cons (.v 2) (.cons (.c (.int 14)) .nil)))) (.c (.int 14)))))) .nil) := rfl
      have hput : put [some (.val (.str t)), most, some (.val .pen), some (.val (.str signs)), size, some (.val (.str made)), x6, x7] 6 (.val (.int i)) = [some (.val (.str t)), most, some (.val .pen), some (.val (.str signs)), size, some (.val (.str made)), some (.val (.int i)), x7] := rfl
      rw [ht1, hput, exs_cons, ex_set, hz]
      simp only [exs_nil, exs_cons, ex_set, v_v, v_c, v_bin, v_idx, v_call, vs_nil, vs_cons, mb_ret, mb_assoc, lift_some_ret, g_get, g_put, gd0, gdS, st0, stS, isV_v, so_t, if_true, then_next]
      refine gives_bnd (g_draw n (k := 14) (by decide)) fun b hb => ?_
      obtain ⟨d, rfl⟩ := hb
      obtain ⟨c, hc, hx⟩ := pick_sign (k := (z + d).fmod 14) (Int.fmod_nonneg_of_pos _ (by decide)) (Int.fmod_lt_of_pos _ (by decide))
      have hmk : mkS (made ++ [c]) = some (.str (made ++ [c])) := mkS_ok (by simp; exact Nat.le_trans (Nat.le_trans (Nat.le_add_right _ _) ‹_›) (by decide))
      have hm14 : (14 : Int) ≠ 0 := by decide
      simp only [mb_ret, lift_some_ret, bi_add, bi_adds, bi_mod, hx, hmk, if_neg hm14]
      exact gives_ret ⟨c, _, _, rfl, hc⟩
    · obtain ⟨c, y6, y7, rfl, hc⟩ := hs2
      have := turned_loop n ht hs most size l (fun v hv => hl v (.tail _ hv)) (made ++ [c]) y7 y6 (fun x hx => by
        rcases List.mem_append.mp hx with h | h
        · exact hg x h
        · simp only [List.mem_cons, List.not_mem_nil, or_false] at h
          exact h ▸ hc) (by simp; omega)
      intro p
      obtain ⟨s, q, e, made', z6, z7, rfl, h1, h2⟩ := this p
      exact ⟨_, q, e, made', z6, z7, rfl, h1, by rw [h2]; simp; exact Nat.add_right_comm _ _ _⟩
theorem ints_nonneg (n : Nat) : ∀ v ∈ intsTo n, ∃ i : Int, v = .int i ∧ 0 ≤ i := fun v hv => by
  obtain ⟨k, _, rfl⟩ := List.mem_map.mp hv
  exact ⟨k, rfl, by exact Int.natCast_nonneg _⟩
theorem g_turned (n : Nat) {t : List Nat} {k : Nat} (ht : Sg t) (hl : t.length ≤ 20) (hk : k + 1 ∈ draws) : Gives (callN (n + 2) 60 [.str t, .int (k : Int), .pen]) fun b => ∃ T, b = .val (.str T) ∧ Sg T ∧ T.length ≤ k := by
  have hs : Small t := Nat.le_trans hl (by decide)
  have hk16 : ∀ k ∈ draws, k ≤ 16 := by decide
  have hk' := hk16 _ hk
  rw [call_of (F := f_law_turned) rfl _ _ rfl]
  have hb : f_law_turned.body = .cons (.set 3 (.c (.str signs))) (.cons (.set 4 (.bin .mod (.bin .add (.len (.v 0)) (.call 59 (.cons (.v 2) (.cons (.bin .add (.v 1) (.c (.int 1))) .nil)))) (.bin .add (.v 1) (.c (.int 1))))) (.cons (.set 5 (.c (.str []))) (.cons (.forR 6 (.v 4) tB) (.cons (.ret (.v 5)) .nil)))) := rfl
  rw [hb, show f_law_turned.nloc - f_law_turned.arity = 5 from rfl]
  generalize hT : tB = B
  simp only [exs_cons, ex_set, ex_forR, v_v, v_c, v_bin, v_call, v_len, vs_nil, vs_cons, mb_ret, mb_assoc, lift_some_ret, g_get, g_put, gd0, gdS, st0, stS, m_nil, m_cons, r_0, r_S, ap_n, ap_c, bi_add, then_next, len_s hs]
  have e1 : ((k : Int) + 1) = ((k + 1 : Nat) : Int) := by exact rfl
  rw [e1]
  refine gives_bnd (g_draw n hk) fun b hb => ?_
  obtain ⟨d, rfl⟩ := hb
  have hne : ((k + 1 : Nat) : Int) ≠ 0 := by omega
  have h0 : 0 ≤ ((t.length : Int) + d).fmod ((k + 1 : Nat) : Int) := Int.fmod_nonneg_of_pos _ (by exact Int.ofNat_lt.mpr (Nat.succ_pos _))
  have h1 : ((t.length : Int) + d).fmod ((k + 1 : Nat) : Int) < ((k + 1 : Nat) : Int) := Int.fmod_lt_of_pos _ (by exact Int.ofNat_lt.mpr (Nat.succ_pos _))
  simp only [mb_ret, lift_some_ret, bi_add, bi_mod, if_neg hne]
  generalize ((t.length : Int) + d).fmod ((k + 1 : Nat) : Int) = size at h0 h1 ⊢
  have hsz : size.natAbs ≤ lid := by unfold lid; omega
  simp only [if_pos hsz]
  subst hT
  have hlen : (intsTo size.toNat).length = size.toNat := by simp [intsTo]
  have := turned_loop n ht hs (some (.val (.int k))) (some (.val (.int size))) (intsTo size.toNat) (ints_nonneg _) [] none none (fun _ h => nomatch h) (by rw [hlen]; simp; omega)
  refine gives_bnd this fun s hs2 => ?_
  obtain ⟨made, y6, y7, rfl, hg, hm⟩ := hs2
  simp only [exs_cons, ex_ret, v_v, mb_ret, lift_some_ret, g_get, gd0, gdS, fin_ret, then_next, then_ret]
  exact gives_ret ⟨made, rfl, hg, by rw [hm, hlen]; simp; omega⟩
end Lr
end
section
set_option maxRecDepth 1000000
open PySem
namespace Lr
theorem c_heads (n : Nat) : callN (n + 1) 56 [] = ret (.val (.list headsV)) := funext fun p => by kernel_rfl
theorem c_steps (n : Nat) : callN (n + 1) 57 [] = ret (.val (.list stepsV)) := funext fun p => by kernel_rfl
theorem heads_eq : headsV = heads.map V.str := by kernel_rfl
theorem steps_eq : stepsV = steps.map V.str := by kernel_rfl
theorem heads_len : heads.length = 13 := by kernel_rfl
theorem steps_len : steps.length = 11 := by kernel_rfl
theorem heads_sz : (heads.all fun h => decide (h.length ≤ 50)) = true := by kernel_rfl
theorem steps_sz : (steps.all fun h => decide (h.length ≤ 50)) = true := by kernel_rfl
theorem pick_str {L : List (List Nat)} {k : Int} (h0 : 0 ≤ k) (h1 : k < L.length) (h2 : L.length ≤ 100) : ∃ a, a ∈ L ∧ idx (.list (L.map V.str)) (.int k) = some (.str a) := by
  have hk : k.toNat < L.length := by exact (Int.toNat_lt ‹_›).mpr ‹_›
  refine ⟨L[k.toNat], List.getElem_mem hk, ?_⟩
  rw [idx_list, if_pos ⟨h0, by omega⟩]
  simp [List.getElem?_eq_getElem hk]
theorem words_mem {a b : List Nat} (ha : a ∈ heads) (hb : b ∈ steps) : a ++ b ∈ words := List.mem_flatMap.mpr ⟨a, ha, List.mem_map.mpr ⟨b, hb, rfl⟩⟩
theorem g_index (n : Nat) (h s : Int) : Gives (callN (n + 2) 61 [.int h, .int s, .pen]) fun b => ∃ w, b = .val (.str w) ∧ w ∈ words := by
  rw [call_of (F := f_law_index) rfl _ _ rfl]
  simp only [f_law_index, exs_cons, ex_pair, ex_ret, v_v, v_c, v_bin, v_idx, v_call, vs_nil, vs_cons, mb_ret, mb_assoc, lift_some_ret, g_get, g_put, gd0, gdS, st0, stS, isV_v, so_t, m_nil, m_cons, r_0, r_S, ap_n, ap_c, if_true, fin_ret, then_next, then_ret, Nat.reduceSub, c_heads n, c_steps n]
  refine gives_bnd (g_draw n (k := 13) (by decide)) fun b hb => ?_
  obtain ⟨d, rfl⟩ := hb
  obtain ⟨a, ha, hx⟩ := pick_str (L := heads) (k := (h + d).fmod 13) (Int.fmod_nonneg_of_pos _ (by decide)) (by rw [heads_len]; exact Int.fmod_lt_of_pos _ (by decide)) (by rw [heads_len]; decide)
  rw [← heads_eq] at hx
  have hm13 : (13 : Int) ≠ 0 := by decide
  simp only [mb_ret, lift_some_ret, bi_add, bi_mod, hx, if_neg hm13]
  refine gives_bnd (g_draw n (k := 11) (by decide)) fun b hb => ?_
  obtain ⟨d2, rfl⟩ := hb
  obtain ⟨c, hc, hx2⟩ := pick_str (L := steps) (k := (s + d2).fmod 11) (Int.fmod_nonneg_of_pos _ (by decide)) (by rw [steps_len]; exact Int.fmod_lt_of_pos _ (by decide)) (by rw [steps_len]; decide)
  rw [← steps_eq] at hx2
  have hm11 : (11 : Int) ≠ 0 := by decide
  have l1 : a.length ≤ 50 := by simpa using List.all_eq_true.mp heads_sz a ha
  have l2 : c.length ≤ 50 := by simpa using List.all_eq_true.mp steps_sz c hc
  have hmk : mkS (a ++ c) = some (.str (a ++ c)) := mkS_ok (by rw [List.length_append]; exact Nat.le_trans (Nat.add_le_add ‹_› ‹_›) (by decide))
  simp only [mb_ret, lift_some_ret, bi_add, bi_adds, bi_mod, hx2, hmk, if_neg hm11]
  exact gives_ret ⟨a ++ c, rfl, words_mem ha hc⟩
noncomputable def countsV : List V := valsOf (callN 1 58 [] 0)
theorem c_counts (n : Nat) : callN (n + 1) 58 [] = ret (.val (.list countsV)) := funext fun p => by kernel_rfl
noncomputable def rdT (v : V) (k : List V → Bool) : Bool := match v with | .tup l => k l | _ => false
noncomputable def rdS (v : V) (k : List Nat → Bool) : Bool := match v with | .str l => k l | _ => false
noncomputable def rdI (v : V) (k : Int → Bool) : Bool := match v with | .int l => k l | _ => false
noncomputable def rdC (v : List V) (k : V → List V → Bool) : Bool := match v with | a :: l => k a l | [] => false
noncomputable def rdN (v : List V) (k : Bool) : Bool := match v with | [] => k | _ :: _ => false
theorem rdT_el {v : V} {k : List V → Bool} {P : V → Prop} (h : rdT v k = true) (f : ∀ l, k l = true → P (.tup l)) : P v := by
  cases v <;> first | exact f _ h | exact absurd h Bool.false_ne_true
theorem rdS_el {v : V} {k : List Nat → Bool} {P : V → Prop} (h : rdS v k = true) (f : ∀ l, k l = true → P (.str l)) : P v := by
  cases v <;> first | exact f _ h | exact absurd h Bool.false_ne_true
theorem rdI_el {v : V} {k : Int → Bool} {P : V → Prop} (h : rdI v k = true) (f : ∀ l, k l = true → P (.int l)) : P v := by
  cases v <;> first | exact f _ h | exact absurd h Bool.false_ne_true
theorem rdC_el {v : List V} {k : V → List V → Bool} {P : List V → Prop} (h : rdC v k = true) (f : ∀ a l, k a l = true → P (a :: l)) : P v := by
  cases v <;> first | exact f _ _ h | exact absurd h Bool.false_ne_true
theorem rdN_el {v : List V} {k : Bool} {P : List V → Prop} (h : rdN v k = true) (f : k = true → P []) : P v := by
  cases v <;> first | exact f h | exact absurd h Bool.false_ne_true
noncomputable def countX (c : List Nat) (x : V) : Bool := match x with
  | .int k => goodC.any (fun z => z.1 == c && (z.2 : Int) == k) || easyC.any (fun z => z.1 == c && rdI z.2 fun j => j == k)
  | .none => easyC.any (fun z => z.1 == c && (match z.2 with | .none => true | _ => false))
  | _ => false
noncomputable def countB (v : V) : Bool := rdT v fun l => rdC l fun a l => rdS a fun c => rdC l fun x l => rdN l (countX c x)
theorem counts_ok : (countsV.all countB) = true := by kernel_rfl
theorem counts_len : countsV.length = 16 := by kernel_rfl
theorem pick_v {L : List V} {k : Int} (h0 : 0 ≤ k) (h1 : k < L.length) (h2 : L.length ≤ 100) : ∃ a, a ∈ L ∧ idx (.list L) (.int k) = some a := by
  have hk : k.toNat < L.length := by exact (Int.toNat_lt ‹_›).mpr ‹_›
  refine ⟨L[k.toNat], List.getElem_mem hk, ?_⟩
  rw [idx_list, if_pos ⟨h0, by omega⟩]
  simp [List.getElem?_eq_getElem hk]
theorem countB_el {v : V} (h : countB v = true) : ∃ c x, v = .tup [.str c, x] ∧ countX c x = true :=
  rdT_el (P := fun v => ∃ c x, v = .tup [.str c, x] ∧ countX c x = true) h fun l h => rdC_el (P := fun l => ∃ c x, V.tup l = .tup [.str c, x] ∧ countX c x = true) h fun a l h => rdS_el (P := fun a => ∃ c x, V.tup (a :: l) = .tup [.str c, x] ∧ countX c x = true) h fun c h =>
    rdC_el (P := fun l => ∃ c' x, V.tup (.str c :: l) = .tup [.str c', x] ∧ countX c' x = true) h fun x l h => rdN_el (P := fun l => ∃ c' x', V.tup (.str c :: x :: l) = .tup [.str c', x'] ∧ countX c' x' = true) h fun h => ⟨c, x, rfl, h⟩
theorem count_right (m : Nat) {T : List Nat} (hT : Sg T) (lT : T.length ≤ 6) {v : V} (h : countB v = true) : ∃ c x, v = .tup [.str c, x] ∧ callN (m + 10) 68 [.str T, .str c, x] = ret (.val (.bool true)) := by
  have easy : ∀ z1 z2, (z1, z2) ∈ easyC → callN (m + 10) 68 [.str T, .str z1, z2] = ret (.val (.bool true)) := fun z1 z2 hz => funext fun p => List.map_inj_left.mp (easy_counts m T p) (z1, z2) hz
  obtain ⟨c, x, rfl, hx⟩ := countB_el h
  clear h
  have h := hx
  clear hx
  refine ⟨c, x, rfl, ?_⟩
  cases x <;> first | exact absurd h Bool.false_ne_true | skip
  · obtain ⟨z, hz, e⟩ := List.any_eq_true.mp h
    rw [Bool.and_eq_true] at e
    obtain ⟨z1, z2⟩ := z
    cases z2 <;> first | exact absurd e.2 Bool.false_ne_true | skip
    have e1 : z1 = c := eq_of_beq e.1
    subst e1
    exact easy _ _ hz
  · rename_i k
    rcases (Bool.or_eq_true _ _).mp h with h | h
    · obtain ⟨z, hz, e⟩ := List.any_eq_true.mp h
      rw [Bool.and_eq_true] at e
      rw [← eq_of_beq e.1, ← eq_of_beq e.2]
      exact c_repright m hT lT (cnt_of hz)
    · obtain ⟨z, hz, e⟩ := List.any_eq_true.mp h
      rw [Bool.and_eq_true] at e
      obtain ⟨z1, z2⟩ := z
      have e1 : z1 = c := eq_of_beq e.1
      have e2 : z2 = .int k := rdI_el (v := z2) (P := fun v => v = .int k) e.2 fun j h => congrArg V.int (eq_of_beq h)
      subst e1 e2
      exact easy _ _ hz
noncomputable def rowB (v : V) : Bool := rdT v fun l => rdC l fun a l => rdS a fun t => rdC l fun a l => rdI a fun _ => rdC l fun a l => rdI a fun _ => rdC l fun a l => rdI a fun _ => rdC l fun a l => rdI a fun _ => rdC l fun a l => rdS a fun b => rdC l fun a l => rdI a fun _ => rdN l
  (t.all (fun c => signs.any (· == c)) && decide (t.length ≤ 20) && b.all (fun c => signs.any (· == c)) && decide (b.length ≤ 20))
theorem sg_of {t : List Nat} (h : t.all (fun c => signs.any (· == c)) = true) : Sg t := fun c hc => by
  obtain ⟨z, hz, e⟩ := List.any_eq_true.mp (List.all_eq_true.mp h c hc)
  have : z = c := by simpa using e
  exact this ▸ hz
noncomputable def RowF (v : V) : Prop := ∃ t h1 s1 h2 s2 b c, v = .tup [.str t, .int h1, .int s1, .int h2, .int s2, .str b, .int c] ∧ Sg t ∧ t.length ≤ 20 ∧ Sg b ∧ b.length ≤ 20
theorem row_facts {v : V} (h : rowB v = true) : RowF v := by
  refine rdT_el (P := RowF) h fun l h => ?_
  refine rdC_el (P := fun l => RowF (.tup l)) h fun a l h => ?_
  refine rdS_el (P := fun a => RowF (.tup (a :: l))) h fun t h => ?_
  refine rdC_el (P := fun l => RowF (.tup (.str t :: l))) h fun a l h => ?_
  refine rdI_el (P := fun a => RowF (.tup (.str t :: a :: l))) h fun i1 h => ?_
  refine rdC_el (P := fun l => RowF (.tup (.str t :: .int i1 :: l))) h fun a l h => ?_
  refine rdI_el (P := fun a => RowF (.tup (.str t :: .int i1 :: a :: l))) h fun i2 h => ?_
  refine rdC_el (P := fun l => RowF (.tup (.str t :: .int i1 :: .int i2 :: l))) h fun a l h => ?_
  refine rdI_el (P := fun a => RowF (.tup (.str t :: .int i1 :: .int i2 :: a :: l))) h fun i3 h => ?_
  refine rdC_el (P := fun l => RowF (.tup (.str t :: .int i1 :: .int i2 :: .int i3 :: l))) h fun a l h => ?_
  refine rdI_el (P := fun a => RowF (.tup (.str t :: .int i1 :: .int i2 :: .int i3 :: a :: l))) h fun i4 h => ?_
  refine rdC_el (P := fun l => RowF (.tup (.str t :: .int i1 :: .int i2 :: .int i3 :: .int i4 :: l))) h fun a l h => ?_
  refine rdS_el (P := fun a => RowF (.tup (.str t :: .int i1 :: .int i2 :: .int i3 :: .int i4 :: a :: l))) h fun b h => ?_
  refine rdC_el (P := fun l => RowF (.tup (.str t :: .int i1 :: .int i2 :: .int i3 :: .int i4 :: .str b :: l))) h fun a l h => ?_
  refine rdI_el (P := fun a => RowF (.tup (.str t :: .int i1 :: .int i2 :: .int i3 :: .int i4 :: .str b :: a :: l))) h fun i5 h => ?_
  refine rdN_el (P := fun l => RowF (.tup (.str t :: .int i1 :: .int i2 :: .int i3 :: .int i4 :: .str b :: .int i5 :: l))) h fun h => ?_
  simp only [Bool.and_eq_true, decide_eq_true_eq] at h
  exact ⟨t, i1, i2, i3, i4, b, i5, rfl, sg_of h.1.1.1, h.1.1.2, sg_of h.1.2, h.2⟩
theorem idt2 (a b c : V) (l : List V) : idx (.tup (a :: b :: c :: l)) (.int 2) = some c := rfl
theorem idt3 (a b c d : V) (l : List V) : idx (.tup (a :: b :: c :: d :: l)) (.int 3) = some d := rfl
theorem idt4 (a b c d e : V) (l : List V) : idx (.tup (a :: b :: c :: d :: e :: l)) (.int 4) = some e := rfl
theorem idt5 (a b c d e f : V) (l : List V) : idx (.tup (a :: b :: c :: d :: e :: f :: l)) (.int 5) = some f := rfl
theorem idt6 (a b c d e f g : V) (l : List V) : idx (.tup (a :: b :: c :: d :: e :: f :: g :: l)) (.int 6) = some g := rfl
theorem g_row (m : Nat) {v : V} (h : rowB v = true) : Gives (callN (m + 11) 69 [v, .pen]) fun b => b = .val (.bool true) := by
  obtain ⟨t, h1, s1, h2, s2, b0, cn, rfl, ht, lt, hb, lb⟩ := row_facts h
  rw [call_of (F := f_law_row_right) rfl _ _ rfl]
  simp only [f_law_row_right, exs_cons, ex_set, ex_set2, ex_pair, v_v, v_c, v_bin, v_idx, v_call, vs_nil, vs_cons, mb_ret, mb_assoc, lift_some_ret, g_get, g_put, gd0, gdS, st0, stS, isV_v, so_t, m_nil, m_cons, r_0, r_S, ap_n, ap_c, if_true, then_next, Nat.reduceSub, idt0, idt1, idt2, idt3, idt4, idt5, idt6]
  refine gives_bnd (g_turned (m + 8) (k := 6) ht lt (by decide)) fun b hb1 => ?_
  obtain ⟨T, rfl, hT, lT⟩ := hb1
  simp only [mb_ret]
  refine gives_bnd (g_turned (m + 8) (k := 3) hb lb (by decide)) fun b hb1 => ?_
  obtain ⟨B, rfl, hB, lB⟩ := hb1
  simp only [mb_ret]
  refine gives_bnd (g_index (m + 8) h1 s1) fun b hb1 => ?_
  obtain ⟨w, rfl, hw⟩ := hb1
  simp only [mb_ret]
  refine gives_bnd (g_index (m + 8) h2 s2) fun b hb1 => ?_
  obtain ⟨u, rfl, hu⟩ := hb1
  obtain ⟨r, W⟩ := word_of hw
  obtain ⟨q, U⟩ := word_of hu
  simp only [mb_ret, c_counts (m + 9)]
  refine gives_bnd (g_draw (m + 9) (k := 16) (by decide)) fun b hb1 => ?_
  obtain ⟨d, rfl⟩ := hb1
  obtain ⟨cv, hcv, hx⟩ := pick_v (L := countsV) (k := (cn + d).fmod 16) (Int.fmod_nonneg_of_pos _ (by decide)) (by rw [counts_len]; exact Int.fmod_lt_of_pos _ (by decide)) (by rw [counts_len]; decide)
  obtain ⟨c, x, rfl, hrep⟩ := count_right m hT lT (List.all_eq_true.mp counts_ok cv hcv)
  have hm16 : (16 : Int) ≠ 0 := by decide
  have k1 := c_split1 (m + 5) (.str [115, 112, 108, 105, 116]) hT (by exact Nat.le_trans ‹_› (by decide))
  have k2 := c_whole (m + 3) hT lT hB lB
  have k4 := c_places m hT lT hB lB W U
  have k5 := c_replright m hT lT hB lB W U
  simp only [exs_nil, exs_cons, ex_set, ex_ite, ex_ret, v_v, v_c, v_lst, v_bo, v_not, v_call, vs_nil, vs_cons, vB_nil, vB_cons, v_cond, mb_ret, lift_some_ret, g_get, g_put, gd0, gdS, st0, stS, a_bool, n_t, ↓i_ft, bi_add, bi_mod, ite_and, ite_or, if_true, fin_ret, then_next, then_ret, Bool.or_false, Bool.and_true, hx, if_neg hm16, k3, List.length_cons, List.length_nil, Nat.zero_add, Nat.reduceAdd, k1, k2, k4, k5, hrep]
  exact gives_ret rfl
end Lr
end
section
open PySem PySem.W PyProof.Rows
set_option maxRecDepth 1000000
namespace Lr
theorem rows_ok : (rowsV.all rowB) = true := by kernel_rfl
theorem pl11 : PL 11 := fun row h p => by
  obtain ⟨b, q, e, hb⟩ := g_row 0 (List.all_eq_true.mp rows_ok row h) p
  subst hb
  exact ⟨q, e⟩
theorem final : lw.Holds := holdsOf pl11 (by decide) (by decide)
end Lr
end
theorem PySem.Challenge.cw_oj0068_01_holds : PySem.Challenge.rw_oj0068_01.Holds :=
  Lr.final
