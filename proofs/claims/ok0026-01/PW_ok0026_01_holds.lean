import PyProof.Rows.All
import Wide.All
import OpenK.AllK
import Wide.FinOn
import PySem.Challenge.RW_ok0026_01
set_option genSizeOf false
set_option genSizeOfSpec false
section
open PySem PySem.W PyProof.Rows
set_option Elab.async false
namespace Mine
set_option maxRecDepth 100000 in
set_option maxHeartbeats 8000000 in
theorem said_ : PySem.Challenge.rw_ok0026_01.wellSaid = true := by kernel_rfl
theorem stage1 (h : PySem.Challenge.rw_ok0026_01.row.wellSaid = true → PySem.Challenge.rw_ok0026_01.row.Holds) : PySem.Challenge.rw_ok0026_01.Holds := holds_law said_ h
end Mine

end
section
open PySem PySem.W PyProof.Rows
set_option Elab.async false
set_option maxRecDepth 100000
namespace Mine
-- a text by its signs
noncomputable def u (l : List Nat) : Str := Str.mk (Array.mk l)
noncomputable def pT : Program := PySem.Challenge.pw_ok0026_01
theorem pT_eq : PySem.Challenge.pw_ok0026_01 = pT := rfl
noncomputable def nth : List Stmt → Nat → Stmt
  | [], _ => .Pass ⟨0, 0, 0, 0⟩
  | s :: _, 0 => s
  | _ :: r, n + 1 => nth r n
noncomputable def qT : Program := { pT with main := { pT.main with body := [nth pT.main.body 49] } }
noncomputable def looseT : List Str := [u [95, 119, 97, 108, 108], u [67, 108, 97, 117, 115, 101, 109, 105, 108, 108, 69, 114, 114, 111, 114], u [80, 114, 111, 108, 111, 103, 69, 114, 114, 111, 114], u [65, 95, 78, 73, 76], u [65, 95, 83, 89, 83, 84, 69, 77], u [70, 95, 68, 79, 84], u [70, 95, 69, 82, 82, 79, 82], u [102, 105, 120, 101, 100, 95, 97, 116, 111, 109, 115], u [102, 105, 120, 101, 100, 95, 102, 117, 110, 99, 116, 111, 114, 115], u [83, 121, 109, 98, 111, 108, 115], u [115, 121, 115, 116, 101, 109, 95, 101, 114, 114, 111, 114], u [102, 111, 114, 109, 97, 108, 95, 111, 102], u [114, 101, 115, 111, 117, 114, 99, 101, 95, 101, 114, 114, 111, 114], u [82, 69, 70], u [83, 82, 70], u [83, 84, 82], u [76, 73, 83], u [67, 79, 78], u [73, 78, 84], u [70, 85, 78], u [86, 79, 73, 68], u [67, 101, 108, 108, 115], u [83, 116, 111, 114, 101], u [80, 97, 105, 114, 83, 101, 116], u [112, 117, 115, 104, 95, 97, 114, 103, 117, 109, 101, 110, 116, 115], u [112, 117, 115, 104, 95, 112, 97, 105, 114, 115], u [115, 97, 109, 101, 95, 115, 104, 97, 112, 101], u [105, 115, 95, 118, 97, 114, 105, 97, 98, 108, 101], u [117, 110, 105, 102, 121], u [98, 105, 110, 100, 95, 99, 104, 101, 99, 107, 101, 100], u [116, 114, 105, 97, 108], u [111, 99, 99, 117, 114, 115, 95, 105, 110], u [114, 97, 110, 107], u [111, 114, 100, 101, 114], u [99, 111, 109, 112, 97, 114, 101, 95, 115, 104, 97, 112, 101, 115], u [99, 111, 109, 112, 97, 114, 101, 95, 116, 111, 112, 115], u [99, 111, 109, 112, 97, 114, 101], u [105, 100, 101, 110, 116, 105, 99, 97, 108], u [118, 97, 114, 105, 97, 98, 108, 101, 115], u [103, 114, 111, 117, 110, 100], u [95, 108, 97, 119, 95, 115, 116, 97, 114, 116], u [95, 108, 97, 119, 95, 115, 116, 101, 112], u [95, 108, 97, 119, 95, 116, 114, 101, 101], u [95, 108, 97, 119, 95, 97, 114, 101, 97, 115]]
noncomputable def b11 : Obj := { cls := .type "tuple", data := .seq (Array.mk []) }
noncomputable def b12 : Obj := { cls := .none, data := .fields (Array.mk []) }
noncomputable def sM : Str := u [60, 109, 111, 100, 117, 108, 101, 62]
noncomputable def sF : Str := u [47, 99, 108, 97, 105, 109, 47, 99, 117, 116, 46, 112, 121]
noncomputable def b13 : Obj := { cls := .type "code", data := .fields (Array.mk [.str sM 182, .str sM 183, .str sF 184, .int 1 0, .int 0 0, .int 0 0, .int 0 0, .int 0 0, .ref 11, .bool false, .int 181 0, .ref 12, .none, .none, .none, .none, .int 185 0, .int 1 0, .str sF 186]) }
noncomputable def b14 : Obj := { cls := .type "frame", slots := Array.mk [some (.ref 13), some (.ref 3), some (.ref 3), none, some (.str (u [95, 95, 109, 97, 105, 110, 95, 95]) 164), none, some (.ref 0)] }
-- the heap as the block of the top begins
noncomputable def tr0 (P : Params) : BT :=
  .node (boot_o_0 P)
    (.node (boot_o_1 P) (.node (boot_o_3 P) (.node (boot_o_7 P) .nil .nil) (.node b11 .nil .nil)) (.node (boot_o_5 P) (.node (boot_o_9 P) .nil .nil) (.node b13 .nil .nil)))
    (.node (boot_o_2 P) (.node (boot_o_4 P) (.node (boot_o_8 P) .nil .nil) (.node b12 .nil .nil)) (.node (boot_o_6 P) (.node (boot_o_10 P) .nil .nil) (.node b14 .nil .nil)))
noncomputable def hp0 (P : Params) : Heap := { objs := Array.mk [boot_o_0 P, boot_o_1 P, boot_o_2 P, boot_o_3 P, boot_o_4 P, boot_o_5 P, boot_o_6 P, boot_o_7 P, boot_o_8 P, boot_o_9 P, boot_o_10 P, b11, b12, b13, b14] }
noncomputable def eT : Env := { scope := pT.main.scope, locals := mainNs, globals := mainNs, cells := [], code := .ref 13, frame := some 14 }
noncomputable def z : Pos := ⟨0, 0, 0, 0⟩
noncomputable def zE : Pos := ⟨469, 0, 505, 98⟩
noncomputable def bT : List Stmt := behindTheImports pT
noncomputable def cT : Code := .body bT eT
noncomputable def s0 (w : World) (os : OsState) : SharedT := { tree := tr0 w.params, n := 15, life := {}, gens := Array.mk [], drawn := {}, toks := 187, os := os }
-- what is asked of the top's end: the row's own looks
noncomputable def looksA (p q : Program) (loose : List Str) (H : Heap) (s : Shared) : Bool := staticsOk (importedModules p.main.body) H s.heap && namesBound p s.heap && gensDone s && laidKept H s.heap
end Mine

end
section
open PySem PySem.W PyProof.Rows
set_option Elab.async false
set_option maxRecDepth 100000
namespace Mine
theorem pre_ : ∀ w : World, (fun os => topGo treeTable pT w 11 (some (.ref 6)) 12 ⟨boot_heap w.params, Array.mk [], boot_drawn, boot_toks, os⟩ (topStub pT)) =
    fun os => some (⟨hp0 w.params, Array.mk [], {}, 187, os⟩, ⟨denote treeTable cT, cT, z, [topFrame z]⟩) := fun w => by
  rw [PySem.W.Fast.te15667345088766844465, PySem.W.Fast.te14364793385576792824, PySem.W.Fast.te11892475500146522536]
  kernel_rfl
theorem block_ : ∀ w : World, (fun os => segRun treeTable pT w 11 (some (.ref 6)) 1 1 ⟨hp0 w.params, Array.mk [], {}, 187, os⟩ (blockOf bT eT cT z [topFrame z])) =
    fun os => some (Flow.next, (s0 w os).abs, cT, z) := fun w => by
  rw [PySem.W.Fast.te14374325043358763698, PySem.W.Fast.te14364793385576792824]
  kernel_rfl
theorem size_ : ∀ w : World, ((boot_heap w.params).isNs mainGlobals && (Array.mk [] : Array GenState).size == 0, (boot_heap w.params).objs.size, (boot_heap w.params).nsMap mainGlobals "__annotations__") = (true, 11, some (.ref 6)) := fun w => by
  rw [show @Heap.nsMap = PySem.W.Fast.tw8920871248978507458 from PySem.W.Fast.te8920871248978507458]
  kernel_rfl
theorem open_ : opening pT = plainProg pT.main.scope.names := by kernel_rfl
theorem fence_ : ∀ s, fenceModules? pT s = some s := fun s => by kernel_rfl
end Mine

end
section
open PySem PySem.W PyProof.Rows
set_option Elab.async false
set_option maxRecDepth 100000
namespace Mine
noncomputable def fName : Stmt → Str
  | .FunctionDef n .. => n
  | _ => u []
noncomputable def fPar : Stmt → Arguments
  | .FunctionDef _ a .. => a
  | _ => ⟨[], [], none, [], [], none, []⟩
noncomputable def fBody : Stmt → List Stmt
  | .FunctionDef _ _ b .. => b
  | _ => []
noncomputable def fScope : Stmt → Scope
  | .FunctionDef _ _ _ _ _ _ sc .. => sc
  | _ => default
noncomputable def cBody : Stmt → List Stmt
  | .ClassDef _ _ _ b .. => b
  | _ => []
-- the i-th statement of the top, the j-th of a class of the top
noncomputable def ms (i : Nat) : Stmt := nth pT.main.body i
noncomputable def md (i j : Nat) : Stmt := nth (cBody (ms i)) j
-- a name's row in a table of names
noncomputable def en (P : Params) (x : Str) (t : Tok) (v : Value) : DictEntry := ⟨PyData.keyHash P x, .str x t, v⟩
-- a def of the text as the object that the top makes of it: its code stands one place below it
noncomputable def fnE (st : Stmt) (qual : Str) (a : Addr) (pm : Str) (pmt : Tok) (dfl : Value) : Addr × Obj :=
  (a, { cls := .type "function", data := .func { name := fName st, qualname := qual, params := fPar st, body := .stmts (fBody st), scope := fScope st, globals := 3, closure := [], defaults := dfl, kwdefaults := .none, doc := .none, pyModule := .str pm pmt, annotations := none, code := .ref (a - 1), closureTuple := .none, builtins := 0 } })
noncomputable def pm0 : Str := (u [95, 95, 109, 97, 105, 110, 95, 95])
noncomputable def pm1 : Str := (u [99, 108, 97, 117, 115, 101, 109, 105, 108, 108, 46, 115, 116, 111, 114, 101])
noncomputable def pm2 : Str := (u [99, 108, 97, 117, 115, 101, 109, 105, 108, 108, 46, 115, 121, 109, 98, 111, 108, 115])
noncomputable def pm3 : Str := (u [99, 108, 97, 117, 115, 101, 109, 105, 108, 108, 46, 116, 101, 114, 109, 115])
noncomputable def pm4 : Str := (u [99, 108, 97, 117, 115, 101, 109, 105, 108, 108, 46, 117, 110, 105, 102, 121])
noncomputable def pm5 : Str := (u [108, 97, 119, 95, 111, 107, 48, 48, 50, 54, 95, 48, 49])
noncomputable def kFns : List (Addr × Obj) := [
  fnE (ms 8) (u [102, 105, 120, 101, 100, 95, 97, 116, 111, 109, 115]) 60 pm2 194 .none,
  fnE (ms 9) (u [102, 105, 120, 101, 100, 95, 102, 117, 110, 99, 116, 111, 114, 115]) 67 pm2 194 .none,
  fnE (md 10 0) (u [83, 121, 109, 98, 111, 108, 115, 46, 95, 95, 105, 110, 105, 116, 95, 95]) 81 pm2 194 .none,
  fnE (md 10 1) (u [83, 121, 109, 98, 111, 108, 115, 46, 97, 116, 111, 109]) 88 pm2 194 .none,
  fnE (md 10 2) (u [83, 121, 109, 98, 111, 108, 115, 46, 116, 101, 120, 116]) 95 pm2 194 .none,
  fnE (md 10 3) (u [83, 121, 109, 98, 111, 108, 115, 46, 102, 117, 110, 99, 116, 111, 114]) 102 pm2 194 .none,
  fnE (md 10 4) (u [83, 121, 109, 98, 111, 108, 115, 46, 102, 117, 110, 99]) 109 pm2 194 .none,
  fnE (md 10 5) (u [83, 121, 109, 98, 111, 108, 115, 46, 110, 97, 109, 101]) 116 pm2 194 .none,
  fnE (md 10 6) (u [83, 121, 109, 98, 111, 108, 115, 46, 97, 114, 105, 116, 121]) 123 pm2 194 .none,
  fnE (md 24 0) (u [67, 101, 108, 108, 115, 46, 95, 95, 105, 110, 105, 116, 95, 95]) 195 pm1 408 (.ref 188),
  fnE (md 24 1) (u [67, 101, 108, 108, 115, 46, 112, 117, 115, 104]) 202 pm1 408 .none,
  fnE (md 24 2) (u [67, 101, 108, 108, 115, 46, 110, 101, 119, 95, 118, 97, 114]) 209 pm1 408 .none,
  fnE (md 24 3) (u [67, 101, 108, 108, 115, 46, 114, 101, 115, 101, 114, 118, 101]) 216 pm1 408 .none,
  fnE (md 24 5) (u [67, 101, 108, 108, 115, 46, 100, 101, 114, 101, 102]) 230 pm1 408 .none,
  fnE (md 24 6) (u [67, 101, 108, 108, 115, 46, 105, 115, 95, 117, 110, 98, 111, 117, 110, 100]) 237 pm1 408 .none,
  fnE (md 24 7) (u [67, 101, 108, 108, 115, 46, 98, 105, 110, 100]) 244 pm1 408 .none,
  fnE (md 24 8) (u [67, 101, 108, 108, 115, 46, 98, 105, 110, 100, 95, 112, 97, 105, 114]) 251 pm1 408 .none,
  fnE (md 24 9) (u [67, 101, 108, 108, 115, 46, 103, 108, 111, 98, 97, 108, 105, 115, 101]) 258 pm1 408 .none,
  fnE (md 24 10) (u [67, 101, 108, 108, 115, 46, 109, 97, 114, 107]) 265 pm1 408 .none,
  fnE (md 24 11) (u [67, 101, 108, 108, 115, 46, 117, 110, 100, 111, 95, 116, 111]) 272 pm1 408 .none,
  fnE (md 24 12) (u [67, 101, 108, 108, 115, 46, 115, 116, 97, 99, 107, 95, 112, 117, 116]) 279 pm1 408 .none,
  fnE (md 24 13) (u [67, 101, 108, 108, 115, 46, 105, 115, 95, 99, 111, 109, 112, 111, 117, 110, 100]) 286 pm1 408 .none,
  fnE (md 24 14) (u [67, 101, 108, 108, 115, 46, 102, 117, 110, 99, 116, 111, 114, 95, 111, 102]) 293 pm1 408 .none,
  fnE (md 24 15) (u [67, 101, 108, 108, 115, 46, 119, 105, 100, 116, 104]) 300 pm1 408 .none,
  fnE (md 24 16) (u [67, 101, 108, 108, 115, 46, 98, 97, 115, 101]) 307 pm1 408 .none,
  fnE (md 24 18) (u [67, 101, 108, 108, 115, 46, 110, 101, 119, 95, 98, 108, 111, 99, 107]) 321 pm1 408 .none,
  fnE (md 25 3) (u [83, 116, 111, 114, 101, 46, 112, 117, 116, 95, 116, 101, 114, 109]) 364 pm1 408 .none,
  fnE (md 27 0) (u [80, 97, 105, 114, 83, 101, 116, 46, 95, 95, 105, 110, 105, 116, 95, 95]) 390 pm4 692 .none,
  fnE (md 27 1) (u [80, 97, 105, 114, 83, 101, 116, 46, 97, 100, 100]) 397 pm4 692 .none,
  fnE (ms 28) (u [112, 117, 115, 104, 95, 97, 114, 103, 117, 109, 101, 110, 116, 115]) 411 pm4 692 .none,
  fnE (ms 29) (u [112, 117, 115, 104, 95, 112, 97, 105, 114, 115]) 418 pm4 692 .none,
  fnE (ms 30) (u [115, 97, 109, 101, 95, 115, 104, 97, 112, 101]) 425 pm4 692 .none,
  fnE (ms 31) (u [105, 115, 95, 118, 97, 114, 105, 97, 98, 108, 101]) 432 pm4 692 .none,
  fnE (ms 32) (u [117, 110, 105, 102, 121]) 439 pm4 692 .none,
  fnE (ms 33) (u [98, 105, 110, 100, 95, 99, 104, 101, 99, 107, 101, 100]) 446 pm4 692 .none,
  fnE (ms 34) (u [116, 114, 105, 97, 108]) 453 pm4 692 .none,
  fnE (ms 35) (u [111, 99, 99, 117, 114, 115, 95, 105, 110]) 460 pm4 692 .none,
  fnE (ms 36) (u [114, 97, 110, 107]) 467 pm4 692 .none,
  fnE (ms 37) (u [111, 114, 100, 101, 114]) 474 pm4 692 .none,
  fnE (ms 38) (u [99, 111, 109, 112, 97, 114, 101, 95, 115, 104, 97, 112, 101, 115]) 481 pm4 692 .none,
  fnE (ms 39) (u [99, 111, 109, 112, 97, 114, 101, 95, 116, 111, 112, 115]) 488 pm4 692 .none,
  fnE (ms 40) (u [99, 111, 109, 112, 97, 114, 101]) 495 pm4 692 .none,
  fnE (ms 41) (u [105, 100, 101, 110, 116, 105, 99, 97, 108]) 502 pm4 692 .none,
  fnE (ms 42) (u [118, 97, 114, 105, 97, 98, 108, 101, 115]) 509 pm4 692 .none,
  fnE (ms 43) (u [103, 114, 111, 117, 110, 100]) 516 pm4 692 .none,
  fnE (ms 45) (u [95, 108, 97, 119, 95, 115, 116, 97, 114, 116]) 523 pm5 908 .none,
  fnE (ms 46) (u [95, 108, 97, 119, 95, 115, 116, 101, 112]) 530 pm5 908 .none,
  fnE (ms 47) (u [95, 108, 97, 119, 95, 116, 114, 101, 101]) 535 pm5 908 .none,
  fnE (ms 48) (u [95, 108, 97, 119, 95, 97, 114, 101, 97, 115]) 542 pm5 908 .none,
  fnE (ms 49) (u [108, 97, 119]) 549 pm5 908 .none]
noncomputable def kObjs (P : Params) : List (Addr × Obj) := [
  (3, { cls := .type "dict", data := .dict (Array.mk [en P (u [95, 95, 110, 97, 109, 101, 95, 95]) 165 (.str (u [108, 97, 119, 95, 111, 107, 48, 48, 50, 54, 95, 48, 49]) 908),
    en P (u [95, 95, 100, 111, 99, 95, 95]) 166 .none,
    en P (u [95, 95, 112, 97, 99, 107, 97, 103, 101, 95, 95]) 167 .none,
    en P (u [95, 95, 108, 111, 97, 100, 101, 114, 95, 95]) 168 (.builtin "__main__.__loader__#opaque"),
    en P (u [95, 95, 115, 112, 101, 99, 95, 95]) 169 .none,
    en P (u [95, 95, 97, 110, 110, 111, 116, 97, 116, 105, 111, 110, 115, 95, 95]) 170 (.ref 6),
    en P (u [95, 95, 98, 117, 105, 108, 116, 105, 110, 115, 95, 95]) 171 (.ref 4),
    en P (u [95, 95, 102, 105, 108, 101, 95, 95]) 173 (.str (u [47, 99, 108, 97, 105, 109, 47, 99, 117, 116, 46, 112, 121]) 172),
    en P (u [95, 95, 99, 97, 99, 104, 101, 100, 95, 95]) 174 .none,
    en P (u [95, 119, 97, 108, 108]) 193 (.ref 21),
    en P (u [67, 108, 97, 117, 115, 101, 109, 105, 108, 108, 69, 114, 114, 111, 114]) 215 (.ref 31),
    en P (u [80, 114, 111, 108, 111, 103, 69, 114, 114, 111, 114]) 240 (.ref 51),
    en P (u [65, 95, 78, 73, 76]) 242 (.int 0 241),
    en P (u [65, 95, 83, 89, 83, 84, 69, 77]) 244 (.int 25 243),
    en P (u [70, 95, 68, 79, 84]) 246 (.int 0 245),
    en P (u [70, 95, 69, 82, 82, 79, 82]) 248 (.int 16 247),
    en P (u [102, 105, 120, 101, 100, 95, 97, 116, 111, 109, 115]) 254 (.ref 60),
    en P (u [102, 105, 120, 101, 100, 95, 102, 117, 110, 99, 116, 111, 114, 115]) 260 (.ref 67),
    en P (u [83, 121, 109, 98, 111, 108, 115]) 379 (.ref 154),
    en P (u [115, 121, 115, 116, 101, 109, 95, 101, 114, 114, 111, 114]) 388 (.ref 165),
    en P (u [102, 111, 114, 109, 97, 108, 95, 111, 102]) 399 (.ref 172),
    en P (u [114, 101, 115, 111, 117, 114, 99, 101, 95, 101, 114, 114, 111, 114]) 407 (.ref 179),
    en P (u [82, 69, 70]) 411 (.int 0 410),
    en P (u [83, 82, 70]) 413 (.int 1 412),
    en P (u [83, 84, 82]) 415 (.int 2 414),
    en P (u [76, 73, 83]) 417 (.int 3 416),
    en P (u [67, 79, 78]) 419 (.int 4 418),
    en P (u [73, 78, 84]) 421 (.int 5 420),
    en P (u [70, 85, 78]) 423 (.int 6 422),
    en P (u [86, 79, 73, 68]) 425 (.ref 180),
    en P (u [67, 101, 108, 108, 115]) 622 (.ref 324),
    en P (u [83, 116, 111, 114, 101]) 691 (.ref 374),
    en P (u [80, 97, 105, 114, 83, 101, 116]) 733 (.ref 400),
    en P (u [112, 117, 115, 104, 95, 97, 114, 103, 117, 109, 101, 110, 116, 115]) 744 (.ref 411),
    en P (u [112, 117, 115, 104, 95, 112, 97, 105, 114, 115]) 757 (.ref 418),
    en P (u [115, 97, 109, 101, 95, 115, 104, 97, 112, 101]) 766 (.ref 425),
    en P (u [105, 115, 95, 118, 97, 114, 105, 97, 98, 108, 101]) 773 (.ref 432),
    en P (u [117, 110, 105, 102, 121]) 787 (.ref 439),
    en P (u [98, 105, 110, 100, 95, 99, 104, 101, 99, 107, 101, 100]) 797 (.ref 446),
    en P (u [116, 114, 105, 97, 108]) 811 (.ref 453),
    en P (u [111, 99, 99, 117, 114, 115, 95, 105, 110]) 822 (.ref 460),
    en P (u [114, 97, 110, 107]) 830 (.ref 467),
    en P (u [111, 114, 100, 101, 114]) 838 (.ref 474),
    en P (u [99, 111, 109, 112, 97, 114, 101, 95, 115, 104, 97, 112, 101, 115]) 851 (.ref 481),
    en P (u [99, 111, 109, 112, 97, 114, 101, 95, 116, 111, 112, 115]) 862 (.ref 488),
    en P (u [99, 111, 109, 112, 97, 114, 101]) 876 (.ref 495),
    en P (u [105, 100, 101, 110, 116, 105, 99, 97, 108]) 885 (.ref 502),
    en P (u [118, 97, 114, 105, 97, 98, 108, 101, 115]) 897 (.ref 509),
    en P (u [103, 114, 111, 117, 110, 100]) 907 (.ref 516),
    en P (u [95, 108, 97, 119, 95, 115, 116, 97, 114, 116]) 918 (.ref 523),
    en P (u [95, 108, 97, 119, 95, 115, 116, 101, 112]) 926 (.ref 530),
    en P (u [95, 108, 97, 119, 95, 116, 114, 101, 101]) 932 (.ref 535),
    en P (u [95, 108, 97, 119, 95, 97, 114, 101, 97, 115]) 939 (.ref 542),
    en P (u [108, 97, 119]) 960 (.ref 549)]) 54 }),
  (154, { cls := .type "type", data := .cls { name := (u [83, 121, 109, 98, 111, 108, 115]), bases := [(.type "object")], mro := [(.ref 154), (.type "object")], ns := 153, qualname := (u [83, 121, 109, 98, 111, 108, 115]), hasDict := true, slotNames := [], subclasses := [], abstract := false, collection := none, hasDel := false }, slots := (Array.mk [none, none, some (.str (u [83, 121, 109, 98, 111, 108, 115]) 261), some (.str (u [83, 121, 109, 98, 111, 108, 115]) 269), some (.builtin "object.__new__"), some (.bool true)]) }),
  (153, { cls := .type "dict", data := .dict (Array.mk [en P (u [95, 95, 109, 111, 100, 117, 108, 101, 95, 95]) 268 (.str (u [99, 108, 97, 117, 115, 101, 109, 105, 108, 108, 46, 115, 121, 109, 98, 111, 108, 115]) 194),
    en P (u [95, 95, 102, 105, 114, 115, 116, 108, 105, 110, 101, 110, 111, 95, 95]) 272 (.int 19 271),
    en P (u [95, 95, 105, 110, 105, 116, 95, 95]) 281 (.ref 81),
    en P (u [97, 116, 111, 109]) 291 (.ref 88),
    en P (u [116, 101, 120, 116]) 299 (.ref 95),
    en P (u [102, 117, 110, 99, 116, 111, 114]) 311 (.ref 102),
    en P (u [102, 117, 110, 99]) 320 (.ref 109),
    en P (u [110, 97, 109, 101]) 328 (.ref 116),
    en P (u [97, 114, 105, 116, 121]) 336 (.ref 123),
    en P (u [108, 97, 98, 101, 108]) 344 (.ref 130),
    en P (u [99, 111, 117, 110, 116]) 351 (.ref 137),
    en P (u [102, 117, 110, 99, 116, 111, 114, 95, 99, 111, 117, 110, 116]) 358 (.ref 144),
    en P (u [107, 110, 111, 119, 110]) 367 (.ref 151),
    en P (u [95, 95, 115, 116, 97, 116, 105, 99, 95, 97, 116, 116, 114, 105, 98, 117, 116, 101, 115, 95, 95]) 372 (.ref 152),
    en P (u [95, 95, 100, 105, 99, 116, 95, 95]) 374 (.ref 155),
    en P (u [95, 95, 119, 101, 97, 107, 114, 101, 102, 95, 95]) 376 (.ref 156),
    en P (u [95, 95, 100, 111, 99, 95, 95]) 377 .none]) 4 }),
  (324, { cls := .type "type", data := .cls { name := (u [67, 101, 108, 108, 115]), bases := [(.type "object")], mro := [(.ref 324), (.type "object")], ns := 323, qualname := (u [67, 101, 108, 108, 115]), hasDict := true, slotNames := [], subclasses := [(.ref 374)], abstract := false, collection := none, hasDel := false }, slots := (Array.mk [none, none, some (.str (u [67, 101, 108, 108, 115]) 426), some (.str (u [67, 101, 108, 108, 115]) 434), some (.builtin "object.__new__"), some (.bool true)]) }),
  (323, { cls := .type "dict", data := .dict (Array.mk [en P (u [95, 95, 109, 111, 100, 117, 108, 101, 95, 95]) 433 (.str (u [99, 108, 97, 117, 115, 101, 109, 105, 108, 108, 46, 115, 116, 111, 114, 101]) 408),
    en P (u [95, 95, 102, 105, 114, 115, 116, 108, 105, 110, 101, 110, 111, 95, 95]) 437 (.int 92 436),
    en P (u [95, 95, 105, 110, 105, 116, 95, 95]) 447 (.ref 195),
    en P (u [112, 117, 115, 104]) 456 (.ref 202),
    en P (u [110, 101, 119, 95, 118, 97, 114]) 464 (.ref 209),
    en P (u [114, 101, 115, 101, 114, 118, 101]) 474 (.ref 216),
    en P (u [116, 114, 105, 109]) 482 (.ref 223),
    en P (u [100, 101, 114, 101, 102]) 492 (.ref 230),
    en P (u [105, 115, 95, 117, 110, 98, 111, 117, 110, 100]) 500 (.ref 237),
    en P (u [98, 105, 110, 100]) 510 (.ref 244),
    en P (u [98, 105, 110, 100, 95, 112, 97, 105, 114]) 519 (.ref 251),
    en P (u [103, 108, 111, 98, 97, 108, 105, 115, 101]) 528 (.ref 258),
    en P (u [109, 97, 114, 107]) 535 (.ref 265),
    en P (u [117, 110, 100, 111, 95, 116, 111]) 545 (.ref 272),
    en P (u [115, 116, 97, 99, 107, 95, 112, 117, 116]) 555 (.ref 279),
    en P (u [105, 115, 95, 99, 111, 109, 112, 111, 117, 110, 100]) 563 (.ref 286),
    en P (u [102, 117, 110, 99, 116, 111, 114, 95, 111, 102]) 572 (.ref 293),
    en P (u [119, 105, 100, 116, 104]) 581 (.ref 300),
    en P (u [98, 97, 115, 101]) 589 (.ref 307),
    en P (u [97, 114, 103]) 598 (.ref 314),
    en P (u [110, 101, 119, 95, 98, 108, 111, 99, 107]) 607 (.ref 321),
    en P (u [95, 95, 115, 116, 97, 116, 105, 99, 95, 97, 116, 116, 114, 105, 98, 117, 116, 101, 115, 95, 95]) 615 (.ref 322),
    en P (u [95, 95, 100, 105, 99, 116, 95, 95]) 617 (.ref 325),
    en P (u [95, 95, 119, 101, 97, 107, 114, 101, 102, 95, 95]) 619 (.ref 326),
    en P (u [95, 95, 100, 111, 99, 95, 95]) 620 .none]) 4 }),
  (374, { cls := .type "type", data := .cls { name := (u [83, 116, 111, 114, 101]), bases := [(.ref 324)], mro := [(.ref 374), (.ref 324), (.type "object")], ns := 373, qualname := (u [83, 116, 111, 114, 101]), hasDict := true, slotNames := [], subclasses := [], abstract := false, collection := none, hasDel := false }, slots := (Array.mk [some (.ref 329), none, some (.str (u [83, 116, 111, 114, 101]) 623), some (.str (u [83, 116, 111, 114, 101]) 631), some (.builtin "object.__new__"), some (.bool true)]) }),
  (373, { cls := .type "dict", data := .dict (Array.mk [en P (u [95, 95, 109, 111, 100, 117, 108, 101, 95, 95]) 630 (.str (u [99, 108, 97, 117, 115, 101, 109, 105, 108, 108, 46, 115, 116, 111, 114, 101]) 408),
    en P (u [95, 95, 102, 105, 114, 115, 116, 108, 105, 110, 101, 110, 111, 95, 95]) 634 (.int 234 633),
    en P (u [110, 101, 119, 95, 115, 116, 114, 117, 99, 116]) 643 (.ref 342),
    en P (u [98, 117, 105, 108, 100, 95, 108, 105, 115, 116]) 652 (.ref 350),
    en P (u [108, 105, 115, 116, 95, 99, 101, 108, 108, 115]) 660 (.ref 357),
    en P (u [112, 117, 116, 95, 116, 101, 114, 109]) 678 (.ref 364),
    en P (u [116, 97, 107, 101, 95, 116, 101, 114, 109]) 687 (.ref 371),
    en P (u [95, 95, 115, 116, 97, 116, 105, 99, 95, 97, 116, 116, 114, 105, 98, 117, 116, 101, 115, 95, 95]) 688 (.ref 372),
    en P (u [95, 95, 100, 111, 99, 95, 95]) 689 .none]) 2 }),
  (400, { cls := .type "type", data := .cls { name := (u [80, 97, 105, 114, 83, 101, 116]), bases := [(.type "object")], mro := [(.ref 400), (.type "object")], ns := 399, qualname := (u [80, 97, 105, 114, 83, 101, 116]), hasDict := true, slotNames := [], subclasses := [], abstract := false, collection := none, hasDel := false }, slots := (Array.mk [none, none, some (.str (u [80, 97, 105, 114, 83, 101, 116]) 694), some (.str (u [80, 97, 105, 114, 83, 101, 116]) 702), some (.builtin "object.__new__"), some (.bool true)]) }),
  (399, { cls := .type "dict", data := .dict (Array.mk [en P (u [95, 95, 109, 111, 100, 117, 108, 101, 95, 95]) 701 (.str (u [99, 108, 97, 117, 115, 101, 109, 105, 108, 108, 46, 117, 110, 105, 102, 121]) 692),
    en P (u [95, 95, 102, 105, 114, 115, 116, 108, 105, 110, 101, 110, 111, 95, 95]) 705 (.int 285 704),
    en P (u [95, 95, 105, 110, 105, 116, 95, 95]) 713 (.ref 390),
    en P (u [97, 100, 100]) 723 (.ref 397),
    en P (u [95, 95, 115, 116, 97, 116, 105, 99, 95, 97, 116, 116, 114, 105, 98, 117, 116, 101, 115, 95, 95]) 726 (.ref 398),
    en P (u [95, 95, 100, 105, 99, 116, 95, 95]) 728 (.ref 401),
    en P (u [95, 95, 119, 101, 97, 107, 114, 101, 102, 95, 95]) 730 (.ref 402),
    en P (u [95, 95, 100, 111, 99, 95, 95]) 731 .none]) 4 }),
  (188, { cls := .type "tuple", data := .seq (Array.mk [.int 100000 438]) 0 })]
noncomputable def KT (P : Params) : Frag := kObjs P ++ kFns
noncomputable def kAds : List Addr := [3, 154, 153, 324, 323, 374, 373, 400, 399, 188, 60, 67, 81, 88, 95, 102, 109, 116, 123, 195, 202, 209, 216, 230, 237, 244, 251, 258, 265, 272, 279, 286, 293, 300, 307, 321, 364, 390, 397, 411, 418, 425, 432, 439, 446, 453, 460, 467, 474, 481, 488, 495, 502, 509, 516, 523, 530, 535, 542, 549]
noncomputable def kCodes : List (Addr × Str) := [
  (59, (u [102, 105, 120, 101, 100, 95, 97, 116, 111, 109, 115])),
  (66, (u [102, 105, 120, 101, 100, 95, 102, 117, 110, 99, 116, 111, 114, 115])),
  (80, (u [83, 121, 109, 98, 111, 108, 115, 46, 95, 95, 105, 110, 105, 116, 95, 95])),
  (87, (u [83, 121, 109, 98, 111, 108, 115, 46, 97, 116, 111, 109])),
  (94, (u [83, 121, 109, 98, 111, 108, 115, 46, 116, 101, 120, 116])),
  (101, (u [83, 121, 109, 98, 111, 108, 115, 46, 102, 117, 110, 99, 116, 111, 114])),
  (108, (u [83, 121, 109, 98, 111, 108, 115, 46, 102, 117, 110, 99])),
  (115, (u [83, 121, 109, 98, 111, 108, 115, 46, 110, 97, 109, 101])),
  (122, (u [83, 121, 109, 98, 111, 108, 115, 46, 97, 114, 105, 116, 121])),
  (194, (u [67, 101, 108, 108, 115, 46, 95, 95, 105, 110, 105, 116, 95, 95])),
  (201, (u [67, 101, 108, 108, 115, 46, 112, 117, 115, 104])),
  (208, (u [67, 101, 108, 108, 115, 46, 110, 101, 119, 95, 118, 97, 114])),
  (215, (u [67, 101, 108, 108, 115, 46, 114, 101, 115, 101, 114, 118, 101])),
  (229, (u [67, 101, 108, 108, 115, 46, 100, 101, 114, 101, 102])),
  (236, (u [67, 101, 108, 108, 115, 46, 105, 115, 95, 117, 110, 98, 111, 117, 110, 100])),
  (243, (u [67, 101, 108, 108, 115, 46, 98, 105, 110, 100])),
  (250, (u [67, 101, 108, 108, 115, 46, 98, 105, 110, 100, 95, 112, 97, 105, 114])),
  (257, (u [67, 101, 108, 108, 115, 46, 103, 108, 111, 98, 97, 108, 105, 115, 101])),
  (264, (u [67, 101, 108, 108, 115, 46, 109, 97, 114, 107])),
  (271, (u [67, 101, 108, 108, 115, 46, 117, 110, 100, 111, 95, 116, 111])),
  (278, (u [67, 101, 108, 108, 115, 46, 115, 116, 97, 99, 107, 95, 112, 117, 116])),
  (285, (u [67, 101, 108, 108, 115, 46, 105, 115, 95, 99, 111, 109, 112, 111, 117, 110, 100])),
  (292, (u [67, 101, 108, 108, 115, 46, 102, 117, 110, 99, 116, 111, 114, 95, 111, 102])),
  (299, (u [67, 101, 108, 108, 115, 46, 119, 105, 100, 116, 104])),
  (306, (u [67, 101, 108, 108, 115, 46, 98, 97, 115, 101])),
  (320, (u [67, 101, 108, 108, 115, 46, 110, 101, 119, 95, 98, 108, 111, 99, 107])),
  (363, (u [83, 116, 111, 114, 101, 46, 112, 117, 116, 95, 116, 101, 114, 109])),
  (389, (u [80, 97, 105, 114, 83, 101, 116, 46, 95, 95, 105, 110, 105, 116, 95, 95])),
  (396, (u [80, 97, 105, 114, 83, 101, 116, 46, 97, 100, 100])),
  (410, (u [112, 117, 115, 104, 95, 97, 114, 103, 117, 109, 101, 110, 116, 115])),
  (417, (u [112, 117, 115, 104, 95, 112, 97, 105, 114, 115])),
  (424, (u [115, 97, 109, 101, 95, 115, 104, 97, 112, 101])),
  (431, (u [105, 115, 95, 118, 97, 114, 105, 97, 98, 108, 101])),
  (438, (u [117, 110, 105, 102, 121])),
  (445, (u [98, 105, 110, 100, 95, 99, 104, 101, 99, 107, 101, 100])),
  (452, (u [116, 114, 105, 97, 108])),
  (459, (u [111, 99, 99, 117, 114, 115, 95, 105, 110])),
  (466, (u [114, 97, 110, 107])),
  (473, (u [111, 114, 100, 101, 114])),
  (480, (u [99, 111, 109, 112, 97, 114, 101, 95, 115, 104, 97, 112, 101, 115])),
  (487, (u [99, 111, 109, 112, 97, 114, 101, 95, 116, 111, 112, 115])),
  (494, (u [99, 111, 109, 112, 97, 114, 101])),
  (501, (u [105, 100, 101, 110, 116, 105, 99, 97, 108])),
  (508, (u [118, 97, 114, 105, 97, 98, 108, 101, 115])),
  (515, (u [103, 114, 111, 117, 110, 100])),
  (522, (u [95, 108, 97, 119, 95, 115, 116, 97, 114, 116])),
  (529, (u [95, 108, 97, 119, 95, 115, 116, 101, 112])),
  (534, (u [95, 108, 97, 119, 95, 116, 114, 101, 101])),
  (541, (u [95, 108, 97, 119, 95, 97, 114, 101, 97, 115])),
  (548, (u [108, 97, 119]))]

noncomputable def codeName (h : Heap) (c : Addr) : Option Str := match h.get? c with
  | some ⟨_, _, .fields vs, _⟩ => (match vs.toList with
    | _ :: .str q _ :: _ => some q
    | _ => none)
  | _ => none
theorem codeRec_ofName {h : Heap} {c : Addr} {q : Str} (e : codeName h c = some q) : h.CodeRec (.ref c) q := by
  unfold codeName at e
  split at e
  · rename_i vs _ ho
    split at e
    · rename_i a q' t r hv
      cases e
      exact ⟨_, _, vs, t, rfl, ho, rfl, by rw [← Array.getElem?_toList, hv]; rfl⟩
    · cases e
  · cases e
noncomputable def xT (s : Shared) : Bool := xlAt qT [] s && recOk [] s
noncomputable def yObs (s : Shared) : List (Option Obj) × List (Option Str) := (kAds.map s.heap.get?, kCodes.map fun c => codeName s.heap c.1)
noncomputable def yVal (w : World) : List (Option Obj) × List (Option Str) := ((KT w.params).map fun p => some p.2, kCodes.map fun c => some c.2)
theorem kAds_eq : ∀ P, kAds = (KT P).map (·.1) := fun P => by kernel_rfl
theorem comb_ : ∀ w : World, (fun os => (segRunT treeTable pT w 11 (some (.ref 6)) 1 4000 (s0 w os) (piecesOf bT eT cT z [topFrame z])).map (fun r =>
    (r.1, r.2.2, looksA pT qT looseT (boot_heap w.params) r.2.1.abs, openSeen qT looseT (importedModules pT.main.body) xT true r.2.1.abs, yObs r.2.1.abs))) =
    fun _ => some (Flow.next, (cT, zE), true, openGood qT looseT, yVal w) := fun w => by
  rw [PySem.W.Fast.te10110043849684766642, PySem.W.Fast.te14364793385576792824, PySem.W.Fast.te4187177175401517315, PySem.W.Fast.te5923862056798008813]
  kernel_rfl
end Mine

end
section
open PySem PySem.W PyProof.Rows
set_option Elab.async false
set_option maxRecDepth 100000
namespace Mine
theorem fin_ (tb : String → Option Builtin) (p : Program) (w : World) (m : Nat) (an : Option Value) (s : Shared) (c : Code) (q q' : Pos) : topRun tb p w m an 2 s ⟨doneF .next, c, q, [topFrame q']⟩ = some s := by
  cases s; rfl
theorem le_ : Nat.ble (12 + (1 + (4000 + 2))) 8000 = true := by decide
theorem run_ (w : World) (os : OsState) : ∃ s₁ : Shared, topRun treeTable pT w 11 (some (.ref 6)) (12 + (1 + (4000 + 2))) ⟨boot_heap w.params, Array.mk [], boot_drawn, boot_toks, os⟩ (topStub pT) = some s₁ ∧
    looksA pT qT looseT (boot_heap w.params) s₁ = true ∧ openSeen qT looseT (importedModules pT.main.body) xT true s₁ = openGood qT looseT ∧ yObs s₁ = yVal w := by
  have h := congrFun (comb_ w) os
  obtain ⟨⟨f, s', c, q⟩, h1, h2⟩ := Option.map_eq_some_iff.mp h
  simp only [Prod.mk.injEq] at h2
  obtain ⟨rfl, ⟨rfl, rfl⟩, h3, h4, h5⟩ := h2
  refine ⟨s'.abs, ?_, h3, h4, h5⟩
  have h6 := segRun_of h1
  refine go_top (congrFun (pre_ w) os) (piece_block (congrFun (block_ w) os) ?_)
  have h7 := piece_app (rest := []) h6 (fin_ treeTable pT w 11 (some (.ref 6)) s'.abs cT zE z)
  rw [List.append_nil] at h7
  exact h7
theorem leftO_of {p q : Program} {loose : List Str} {Xt : Shared → Bool} {α : Type} {Yf : Shared → α} {Ya : World → α} {N : Nat} {H₀ : Params → Heap} {gs₀ : Array GenState} {d₀ : Drawn} {k₀ m₀ M : Nat} {ann : Option Value}
    (open_ : ∀ w : World, (fencedOpening treeTable p w N).map (fun s => (s.heap, s.gens, s.drawn, s.toks)) = some (H₀ w.params, gs₀, d₀, k₀))
    (size : ∀ w : World, ((H₀ w.params).isNs mainGlobals && gs₀.size == 0, (H₀ w.params).objs.size, (H₀ w.params).nsMap mainGlobals "__annotations__") = (true, m₀, ann))
    (run : ∀ (w : World) (os : OsState), ∃ s₁, topRun treeTable p w m₀ ann M ⟨H₀ w.params, gs₀, d₀, k₀, os⟩ (topStub p) = some s₁ ∧
      (staticsOk (importedModules p.main.body) (H₀ w.params) s₁.heap && namesBound p s₁.heap && gensDone s₁ && laidKept (H₀ w.params) s₁.heap) = true ∧
      openSeen q loose (importedModules p.main.body) Xt true s₁ = openGood q loose ∧ Yf s₁ = Ya w) (le : Nat.ble M N = true) : LeftO p q loose Xt Yf Ya N := fun w => by
  obtain ⟨⟨h, gs, d, k, os⟩, e, e'⟩ := Option.map_eq_some_iff.mp (open_ w)
  obtain ⟨rfl, rfl, rfl, rfl⟩ : h = H₀ w.params ∧ gs = gs₀ ∧ d = d₀ ∧ k = k₀ := by simpa using e'
  obtain ⟨z1, z2, z3⟩ : _ ∧ _ ∧ _ := by simpa only [Prod.mk.injEq] using size w
  obtain ⟨s₁, r, l1, l2, l3⟩ := run w os
  have r := topRun_mono (N - M) _ _ _ _ r
  rw [show M + (N - M) = N by have := Nat.le_of_ble_eq_true le; omega] at r
  have t : topFrom treeTable p w N ⟨H₀ w.params, gs, d, k, os⟩ = some s₁ := by
    unfold topFrom
    dsimp only
    rw [z1, z2, z3, r]
    show (match staticsOk (importedModules p.main.body) (H₀ w.params) s₁.heap && namesBound p s₁.heap && gensDone s₁ && laidKept (H₀ w.params) s₁.heap with | true => _ | false => _) = _
    rw [l1]
  unfold openEnds
  rw [e]
  show (topFrom treeTable p w N _).map _ = _
  rw [t]
  exact congrArg some (Prod.ext l2 l3)
theorem left_ : LeftO pT qT looseT xT yObs yVal 8000 :=
  leftO_of (boot_open (p := pT) (N := 8000) open_ (by decide) fence_) size_ run_ le_
theorem leftP : LeftO PySem.Challenge.pw_ok0026_01 qT looseT xT yObs yVal 8000 := by rw [pT_eq]; exact left_
-- what is known of the heap behind the top
noncomputable def YP (w : World) (h : Heap) : Prop := (KT w.params).In h ∧ ∀ c ∈ kCodes, h.CodeRec (.ref c.1) c.2
theorem yp_of (w : World) (s : Shared) (e : yObs s = yVal w) : YP w s.heap := by
  obtain ⟨e1, e2⟩ := Prod.mk.inj e
  refine ⟨Frag.in_of (kAds_eq _) e1, fun c hc => codeRec_ofName ?_⟩
  have := List.map_inj_left.mp e2 c hc
  exact this
theorem yp_keeps (w : World) (h h' : Heap) (x : YP w h) (k : ∀ b o, h.get? b = some o → h'.get? b = some o) : YP w h' := ⟨x.1.keeps k, fun c hc => (x.2 c hc).keeps k⟩
abbrev rP : OpenRow := PySem.Challenge.rw_ok0026_01.row
noncomputable def dT : DefRec := ⟨u [108, 97, 119], fPar (ms 49), fBody (ms 49), fScope (ms 49), ⟨469, 0, 505, 98⟩⟩
theorem hdef_ : defOf qT (Str.ofString "law") = some (dT, []) := by kernel_rfl
theorem hp_ : PySem.Challenge.pw_ok0026_01.theDef (Str.ofString "law") = some (dT.params, dT.body, dT.scope) := by
  rw [pT_eq, PySem.W.Fast.te10235530238920679567]; kernel_rfl
theorem hk_ : kwWritten? dT.params.kwonlyargs dT.params.kw_defaults = some [] := by kernel_rfl
theorem chains_ : chainsOk qT = true := by kernel_rfl
theorem opens_ : opensWell PySem.Challenge.pw_ok0026_01 = true := by rw [pT_eq]; decide +kernel
theorem frees_ : (frees rP.toRowW && rP.within.isEmpty) = true := by kernel_rfl
theorem bare_ : rP.prog.bare := ⟨rfl, rfl, rfl, rfl, rfl, by decide +kernel⟩
theorem prom_ : rP.toRowW.promised := by w_witness2
abbrev TheWalk : Prop := WalkO qT looseT (XL qT []) YP rP.toRowW dT [] fun f vs => PySem.call f vs
theorem head_ (call : TheWalk) : PySem.Challenge.rw_ok0026_01.Holds := stage1 fun said =>
  holds_open (r := rP) (q := qT) (loose := looseT) (Xt := xT) (XP := XL qT []) (Yf := yObs) (Ya := yVal) (YP := YP) (d := dT) (kwd := []) (N := 8000) leftP yp_of yp_keeps
    (fun s e => xl_of s (Bool.and_eq_true_iff.mp e).1) XL.keeps hdef_ hp_ hk_ (fun _ _ => recFacts_nil rfl) rfl said
    (by rw [chains_, show opensWell rP.prog = true from opens_, frees_]; rfl) bare_ prom_ call
end Mine

end
section
open PySem PySem.W PyProof.Rows PySem.Calls
set_option Elab.async false
set_option maxRecDepth 100000
namespace Mine
noncomputable section
abbrev P0 : Program := PySem.Challenge.pw_ok0026_01
-- no way raises
abbrev noE : Value → Shared → Prop := fun _ _ => False

inductive V where
  | none
  | bool (b : Bool)
  | int (i : Int)
  | str (x : Str)
  | tup (l : List V)
  | ref (a : Addr)
  | bi (n : String)
  | ty (n : String)
  deriving Inhabited

mutual
-- a value of the model's as one of ours: a tuple by what it holds, all else that lies on the heap by its place
noncomputable def Den (h : Heap) : V → Value → Prop
  | .none, v => v = .none
  | .bool b, v => v = .bool b
  | .int i, v => ∃ t, v = .int i t
  | .str x, v => ∃ t, v = .str x t
  | .tup l, v => ∃ a vs, v = .ref a ∧ IsTup h a (List.toArray vs) ∧ DenL h l vs
  | .ref a, v => v = .ref a
  | .bi n, v => v = .builtin n
  | .ty n, v => v = .type n
noncomputable def DenL (h : Heap) : List V → List Value → Prop
  | [], vs => vs = []
  | x :: l, vs => ∃ v r, vs = v :: r ∧ Den h x v ∧ DenL h l r
end

noncomputable def KeepT (h h' : Heap) : Prop := ∀ a vs, IsTup h a vs → IsTup h' a vs
theorem KeepT.refl (h : Heap) : KeepT h h := fun _ _ x => x
theorem KeepT.trans {a b c : Heap} (x : KeepT a b) (y : KeepT b c) : KeepT a c := fun _ _ z => y _ _ (x _ _ z)
theorem KeepT.of {h h' : Heap} (k : ∀ b o, h.get? b = some o → h'.get? b = some o) : KeepT h h' := fun _ _ x => x.keeps k

mutual
theorem Den.keep {h h' : Heap} (k : KeepT h h') : ∀ (x : V) {v : Value}, Den h x v → Den h' x v
  | .none, _, d => by simpa only [Den] using d
  | .bool _, _, d => by simpa only [Den] using d
  | .int _, _, d => by simpa only [Den] using d
  | .str _, _, d => by simpa only [Den] using d
  | .tup l, _, d => by
    simp only [Den] at d ⊢
    obtain ⟨a, vs, e, t, dl⟩ := d
    exact ⟨a, vs, e, k _ _ t, DenL.keep k l dl⟩
  | .ref _, _, d => by simpa only [Den] using d
  | .bi _, _, d => by simpa only [Den] using d
  | .ty _, _, d => by simpa only [Den] using d
theorem DenL.keep {h h' : Heap} (k : KeepT h h') : ∀ (l : List V) {vs : List Value}, DenL h l vs → DenL h' l vs
  | [], _, d => by simpa only [DenL] using d
  | x :: l, _, d => by
    simp only [DenL] at d ⊢
    obtain ⟨v, r, e, dx, dl⟩ := d
    exact ⟨v, r, e, Den.keep k x dx, DenL.keep k l dl⟩
end
theorem DenL.length {h : Heap} : ∀ {l : List V} {vs : List Value}, DenL h l vs → vs.length = l.length
  | [], _, d => by simp only [DenL] at d; subst d; rfl
  | x :: l, _, d => by
    simp only [DenL] at d
    obtain ⟨v, r, rfl, _, dl⟩ := d
    simp [DenL.length dl]
theorem DenL.nil {h : Heap} : DenL h [] [] := by simp [DenL]
theorem DenL.cons {h : Heap} {x : V} {l : List V} {v : Value} {vs : List Value} (a : Den h x v) (b : DenL h l vs) : DenL h (x :: l) (v :: vs) := by
  simp only [DenL]; exact ⟨v, vs, rfl, a, b⟩
theorem DenL.inv_cons {h : Heap} {x : V} {l : List V} {vs : List Value} (d : DenL h (x :: l) vs) : ∃ v r, vs = v :: r ∧ Den h x v ∧ DenL h l r := by
  simpa only [DenL] using d
theorem DenL.inv_nil {h : Heap} {vs : List Value} (d : DenL h [] vs) : vs = [] := by simpa only [DenL] using d
theorem DenL.get {h : Heap} : ∀ {l : List V} {vs : List Value}, DenL h l vs → ∀ {i : Nat} {x : V}, l[i]? = some x → ∃ v, vs[i]? = some v ∧ Den h x v
  | [], _, _, i, x, e => by simp at e
  | y :: l, _, d, 0, x, e => by
    obtain ⟨v, r, rfl, dx, _⟩ := d.inv_cons
    simp at e; subst e
    exact ⟨v, rfl, dx⟩
  | y :: l, _, d, i + 1, x, e => by
    obtain ⟨v, r, rfl, _, dl⟩ := d.inv_cons
    simp at e
    obtain ⟨v', a, b⟩ := DenL.get dl e
    exact ⟨v', by simpa using a, b⟩
theorem DenL.append {h : Heap} : ∀ {l l' : List V} {vs vs' : List Value}, DenL h l vs → DenL h l' vs' → DenL h (l ++ l') (vs ++ vs')
  | [], _, _, _, d, d' => by have := d.inv_nil; subst this; simpa using d'
  | x :: l, _, _, _, d, d' => by
    obtain ⟨v, r, rfl, dx, dl⟩ := d.inv_cons
    exact DenL.cons dx (DenL.append dl d')
theorem DenL.set {h : Heap} : ∀ {l : List V} {vs : List Value}, DenL h l vs → ∀ (i : Nat) {x : V} {v : Value}, Den h x v → DenL h (l.set i x) (vs.set i v)
  | [], _, d, _, _, _, _ => by have := d.inv_nil; subst this; simpa using DenL.nil
  | y :: l, _, d, 0, x, v, dx => by
    obtain ⟨v', r, rfl, _, dl⟩ := d.inv_cons
    exact DenL.cons dx dl
  | y :: l, _, d, i + 1, x, v, dx => by
    obtain ⟨v', r, rfl, dy, dl⟩ := d.inv_cons
    exact DenL.cons dy (DenL.set dl i dx)
theorem DenL.dropLast {h : Heap} : ∀ {l : List V} {vs : List Value}, DenL h l vs → DenL h l.dropLast vs.dropLast
  | [], _, d => by have := d.inv_nil; subst this; exact DenL.nil
  | [x], _, d => by
    obtain ⟨v, r, rfl, _, dl⟩ := d.inv_cons
    have := dl.inv_nil; subst this; exact DenL.nil
  | x :: y :: l, _, d => by
    obtain ⟨v, r, rfl, dx, dl⟩ := d.inv_cons
    obtain ⟨v', r', rfl, _, _⟩ := id dl.inv_cons
    exact DenL.cons dx (DenL.dropLast dl)
theorem DenL.take {h : Heap} : ∀ (n : Nat) {l : List V} {vs : List Value}, DenL h l vs → DenL h (l.take n) (vs.take n)
  | 0, _, _, _ => by simpa using DenL.nil
  | n + 1, [], _, d => by have := d.inv_nil; subst this; simpa using DenL.nil
  | n + 1, x :: l, _, d => by
    obtain ⟨v, r, rfl, dx, dl⟩ := d.inv_cons
    exact DenL.cons dx (DenL.take n dl)

theorem den_int {h : Heap} {i : Int} {v : Value} (d : Den h (.int i) v) : ∃ t, v = .int i t := d
theorem den_str {h : Heap} {x : Str} {v : Value} (d : Den h (.str x) v) : ∃ t, v = .str x t := d
theorem den_ref {h : Heap} {a : Addr} {v : Value} (d : Den h (.ref a) v) : v = .ref a := d
theorem den_tup {h : Heap} {l : List V} {v : Value} (d : Den h (.tup l) v) : ∃ a vs, v = .ref a ∧ IsTup h a (List.toArray vs) ∧ DenL h l vs := d
theorem den2 {h : Heap} {X Y : V} {vs : List Value} (d : DenL h [X, Y] vs) : ∃ a b, vs = [a, b] ∧ Den h X a ∧ Den h Y b := by
  obtain ⟨a, r, rfl, da, dr⟩ := d.inv_cons
  obtain ⟨b, r, rfl, db, dr⟩ := dr.inv_cons
  cases dr.inv_nil
  exact ⟨a, b, rfl, da, db⟩
theorem den1 {h : Heap} {X : V} {vs : List Value} (d : DenL h [X] vs) : ∃ a, vs = [a] ∧ Den h X a := by
  obtain ⟨a, r, rfl, da, dr⟩ := d.inv_cons
  cases dr.inv_nil
  exact ⟨a, rfl, da⟩
theorem den3 {h : Heap} {X Y Z : V} {vs : List Value} (d : DenL h [X, Y, Z] vs) : ∃ a b c, vs = [a, b, c] ∧ Den h X a ∧ Den h Y b ∧ Den h Z c := by
  obtain ⟨a, r, rfl, da, dr⟩ := d.inv_cons
  obtain ⟨b, c, rfl, db, dc⟩ := den2 dr
  exact ⟨a, b, c, rfl, da, db, dc⟩
-- what a call may change: lists, instances with their tables of names, dicts, sets of ints
inductive MO where
  | list (l : List V)
  | inst (c d : Addr)
  | ns (l : List (Str × V))
  | idic (l : List (Int × V))
  | sdic (l : List (Str × V))
  | tdic (l : List ((Int × Int) × V))
  | set (S : Int → Bool) (n : Nat)
abbrev Mm := Addr → Option MO
noncomputable def upd (M : Mm) (a : Addr) (x : MO) : Mm := fun b => if b = a then some x else M b
theorem upd_same (M : Mm) (a : Addr) (x : MO) : upd M a x a = some x := by simp [upd]
theorem upd_ne (M : Mm) {a b : Addr} (x : MO) (h : b ≠ a) : upd M a x b = M b := by simp [upd, h]
-- is the text the same?
noncomputable def sq (a b : Str) : Bool := a.cps.toList == b.cps.toList
theorem sq_iff {a b : Str} : sq a b = true ↔ a = b := by
  unfold sq
  constructor
  · intro h
    have := beq_iff_eq.mp h
    cases a; cases b
    simp only [Str.mk.injEq]
    exact Array.toList_inj.mp this
  · rintro rfl; simp
abbrev Loc := List (Str × V)
noncomputable def lk (x : Str) : List (Str × V) → Option V
  | [] => none
  | (y, v) :: r => match sq x y with | true => some v | false => lk x r
noncomputable def st (x : Str) (v : V) : List (Str × V) → List (Str × V)
  | [] => [(x, v)]
  | (y, u) :: r => match sq x y with | true => (y, v) :: r | false => (y, u) :: st x v r
theorem lk_cons (x y : Str) (v : V) (r : List (Str × V)) : lk x ((y, v) :: r) = if x = y then some v else lk x r := by
  show (match sq x y with | true => some v | false => lk x r) = _
  by_cases h : x = y
  · rw [sq_iff.mpr h, if_pos h]
  · rw [if_neg h]
    cases q : sq x y with
    | true => exact absurd (sq_iff.mp q) h
    | false => rfl
theorem lk_st (x y : Str) (v : V) : ∀ l, lk y (st x v l) = if y = x then some v else lk y l
  | [] => by show lk y [(x, v)] = _; rw [lk_cons]
  | (z, u) :: r => by
    show lk y (match sq x z with | true => (z, v) :: r | false => (z, u) :: st x v r) = _
    cases q : sq x z with
    | true =>
      have := sq_iff.mp q; subst this
      rw [lk_cons, lk_cons]; by_cases e : y = x <;> simp [e]
    | false =>
      have ne : x ≠ z := fun e => by rw [sq_iff.mpr e] at q; cases q
      show lk y ((z, u) :: st x v r) = _
      rw [lk_cons, lk_cons, lk_st x y v r]
      by_cases e : y = z
      · subst e; simp [Ne.symm ne]
      · simp [e]

noncomputable def NsRel (h : Heap) : List (Str × V) → List DictEntry → Prop
  | [], es => es = []
  | (x, X) :: l, es => ∃ e r, es = e :: r ∧ (∃ t, e.key = .str x t) ∧ Den h X e.val ∧ NsRel h l r
theorem NsRel.keep {h h' : Heap} (k : KeepT h h') : ∀ (l : List (Str × V)) {es : List DictEntry}, NsRel h l es → NsRel h' l es
  | [], _, d => d
  | (x, X) :: l, _, ⟨e, r, a, b, c, d⟩ => ⟨e, r, a, b, c.keep k X, NsRel.keep k l d⟩

end
end Mine

end
section
open PySem PySem.W PyProof.Rows PySem.Calls
set_option Elab.async false
set_option maxRecDepth 100000
set_option linter.all false
namespace Mine
noncomputable section
section
variable {K : Type} [DecidableEq K]
-- keys alike, values told
noncomputable def KvL (h : Heap) (l : List (K × V)) (kvs : List (K × Value)) : Prop := kvs.map (·.1) = l.map (·.1) ∧ DenL h (l.map (·.2)) (kvs.map (·.2))
noncomputable def kvAt (l : List (K × V)) (k : K) : Option V := (l.find? fun x => x.1 = k).map (·.2)
noncomputable def kvPut (l : List (K × V)) (k : K) (v : V) : List (K × V) := if l.any (fun x => x.1 = k) then l.map (fun x => if x.1 = k then (x.1, v) else x) else l ++ [(k, v)]
theorem KvL.keep {h h' : Heap} (k : KeepT h h') {l : List (K × V)} {kvs : List (K × Value)} (x : KvL h l kvs) : KvL h' l kvs := ⟨x.1, x.2.keep k⟩
theorem KvL.nil {h : Heap} : KvL h ([] : List (K × V)) [] := ⟨rfl, by simp [DenL]⟩
theorem KvL.inv_cons {h : Heap} {p : K × V} {l : List (K × V)} {kvs : List (K × Value)} (x : KvL h (p :: l) kvs) : ∃ v r, kvs = (p.1, v) :: r ∧ Den h p.2 v ∧ KvL h l r := by
  obtain ⟨a, b⟩ := x
  cases kvs with
  | nil => simp at a
  | cons q r =>
    simp only [List.map_cons, List.cons.injEq] at a b
    obtain ⟨v, r', e, d, dl⟩ := b.inv_cons
    simp only [List.cons.injEq] at e
    exact ⟨q.2, r, by rw [← a.1], e.1 ▸ d, a.2, e.2 ▸ dl⟩
theorem KvL.cons {h : Heap} {k : K} {X : V} {v : Value} {l : List (K × V)} {kvs : List (K × Value)} (d : Den h X v) (x : KvL h l kvs) : KvL h ((k, X) :: l) ((k, v) :: kvs) :=
  ⟨by simp [x.1], DenL.cons d x.2⟩
theorem KvL.at_some {h : Heap} : ∀ {l : List (K × V)} {kvs : List (K × Value)}, KvL h l kvs → ∀ {k : K} {X : V}, kvAt l k = some X → ∃ v, valueAt kvs k = some v ∧ Den h X v
  | [], _, _, _, _, e => by simp [kvAt] at e
  | p :: l, _, x, k, X, e => by
    obtain ⟨v, r, rfl, d, dl⟩ := x.inv_cons
    by_cases hk : p.1 = k
    · have : X = p.2 := by simpa [kvAt, hk] using e.symm
      subst this
      exact ⟨v, by simp [valueAt, hk], d⟩
    · have e' : kvAt l k = some X := by simpa [kvAt, hk] using e
      obtain ⟨v', a, b⟩ := KvL.at_some dl e'
      exact ⟨v', by simpa [valueAt, hk] using a, b⟩
theorem KvL.at_none {h : Heap} : ∀ {l : List (K × V)} {kvs : List (K × Value)}, KvL h l kvs → ∀ {k : K}, kvAt l k = none → valueAt kvs k = none
  | [], kvs, x, k, _ => by
    have : kvs = [] := by have := x.1; simpa using this
    simp [this, valueAt]
  | p :: l, _, x, k, e => by
    obtain ⟨v, r, rfl, d, dl⟩ := x.inv_cons
    by_cases hk : p.1 = k
    · simp [kvAt, hk] at e
    · have e' : kvAt l k = none := by simpa [kvAt, hk] using e
      simpa [valueAt, hk] using KvL.at_none dl e'
theorem KvL.mapPut {h : Heap} : ∀ {l : List (K × V)} {kvs : List (K × Value)}, KvL h l kvs → ∀ (k : K) {X : V} {v : Value}, Den h X v →
    KvL h (l.map (fun x => if x.1 = k then (x.1, X) else x)) (kvs.map (fun x => if x.1 = k then (x.1, v) else x))
  | [], kvs, x, k, X, v, _ => by
    have : kvs = [] := by have := x.1; simpa using this
    subst this; exact KvL.nil
  | p :: l, _, x, k, X, v, dx => by
    obtain ⟨v', r, rfl, d, dl⟩ := x.inv_cons
    have ih := KvL.mapPut dl k dx
    simp only [List.map_cons]
    by_cases hk : p.1 = k
    · simp only [hk, if_true]; exact KvL.cons dx ih
    · simp only [hk, if_false]; exact KvL.cons d ih
theorem KvL.any {h : Heap} : ∀ {l : List (K × V)} {kvs : List (K × Value)}, KvL h l kvs → ∀ (k : K), kvs.any (fun x => x.1 = k) = l.any (fun x => x.1 = k)
  | [], kvs, x, k => by
    have : kvs = [] := by have := x.1; simpa using this
    subst this; rfl
  | p :: l, _, x, k => by
    obtain ⟨v', r, rfl, d, dl⟩ := x.inv_cons
    simp only [List.any_cons, KvL.any dl k]
theorem KvL.append {h : Heap} : ∀ {l : List (K × V)} {kvs : List (K × Value)}, KvL h l kvs → ∀ {l' : List (K × V)} {kvs' : List (K × Value)}, KvL h l' kvs' → KvL h (l ++ l') (kvs ++ kvs')
  | [], kvs, x, _, _, y => by
    have : kvs = [] := by have := x.1; simpa using this
    subst this; simpa using y
  | p :: l, _, x, _, _, y => by
    obtain ⟨v', r, rfl, d, dl⟩ := x.inv_cons
    exact KvL.cons d (KvL.append dl y)
theorem KvL.put {h : Heap} {l : List (K × V)} {kvs : List (K × Value)} (x : KvL h l kvs) (k : K) {X : V} {v : Value} (d : Den h X v) : KvL h (kvPut l k X) (stored kvs k v) := by
  unfold kvPut stored
  rw [x.any k]
  split
  · exact x.mapPut k d
  · exact x.append (KvL.cons d KvL.nil)
theorem KvL.length {h : Heap} {l : List (K × V)} {kvs : List (K × Value)} (x : KvL h l kvs) : kvs.length = l.length := by
  have := congrArg List.length x.1; simpa using this
end

-- the tuple-keyed table's rows
noncomputable def TdL (h : Heap) (l : List ((Int × Int) × V)) (xs : List (List Int × Addr × Value)) : Prop := xs.map (·.1) = l.map (fun p => [p.1.1, p.1.2]) ∧ DenL h (l.map (·.2)) (xs.map (·.2.2))
theorem TdL.keep {h h' : Heap} (k : KeepT h h') {l : List ((Int × Int) × V)} {xs : List (List Int × Addr × Value)} (x : TdL h l xs) : TdL h' l xs := ⟨x.1, x.2.keep k⟩
theorem TdL.nil {h : Heap} : TdL h [] [] := ⟨rfl, by simp [DenL]⟩
theorem TdL.inv_cons {h : Heap} {p : (Int × Int) × V} {l : List ((Int × Int) × V)} {xs : List (List Int × Addr × Value)} (x : TdL h (p :: l) xs) :
    ∃ a v r, xs = ([p.1.1, p.1.2], a, v) :: r ∧ Den h p.2 v ∧ TdL h l r := by
  obtain ⟨a, b⟩ := x
  cases xs with
  | nil => simp at a
  | cons q r =>
    simp only [List.map_cons, List.cons.injEq] at a b
    obtain ⟨v, r', e, d, dl⟩ := b.inv_cons
    simp only [List.cons.injEq] at e
    exact ⟨q.2.1, q.2.2, r, by rw [← a.1], e.1 ▸ d, a.2, e.2 ▸ dl⟩
theorem TdL.cons {h : Heap} {k : Int × Int} {X : V} {a : Addr} {v : Value} {l : List ((Int × Int) × V)} {xs : List (List Int × Addr × Value)} (d : Den h X v) (x : TdL h l xs) : TdL h ((k, X) :: l) (([k.1, k.2], a, v) :: xs) :=
  ⟨by simp [x.1], DenL.cons d x.2⟩
theorem TdL.append {h : Heap} : ∀ {l : List ((Int × Int) × V)} {xs : List (List Int × Addr × Value)}, TdL h l xs → ∀ {l' : List ((Int × Int) × V)} {xs' : List (List Int × Addr × Value)}, TdL h l' xs' → TdL h (l ++ l') (xs ++ xs')
  | [], xs, x, _, _, y => by
    have : xs = [] := by have := x.1; simpa using this
    subst this; simpa using y
  | p :: l, _, x, _, _, y => by
    obtain ⟨a, v', r, rfl, d, dl⟩ := x.inv_cons
    exact TdL.cons d (TdL.append dl y)
theorem TdL.at_some {h : Heap} : ∀ {l : List ((Int × Int) × V)} {xs : List (List Int × Addr × Value)}, TdL h l xs → ∀ {k : Int × Int} {X : V}, kvAt l k = some X → ∃ a v, atKey xs [k.1, k.2] = some (a, v) ∧ Den h X v
  | [], _, _, _, _, e => by simp [kvAt] at e
  | p :: l, _, x, k, X, e => by
    obtain ⟨a, v, r, rfl, d, dl⟩ := x.inv_cons
    by_cases hk : p.1 = k
    · have : X = p.2 := by simpa [kvAt, hk] using e.symm
      subst this
      exact ⟨a, v, by simp [atKey, hk], d⟩
    · have e' : kvAt l k = some X := by simpa [kvAt, hk] using e
      obtain ⟨a', v', q, b⟩ := TdL.at_some dl e'
      have hk' : ¬ (p.1.1 = k.1 ∧ p.1.2 = k.2) := fun z => hk (Prod.ext z.1 z.2)
      exact ⟨a', v', by simpa [atKey, hk'] using q, b⟩
theorem TdL.at_none {h : Heap} : ∀ {l : List ((Int × Int) × V)} {xs : List (List Int × Addr × Value)}, TdL h l xs → ∀ {k : Int × Int}, kvAt l k = none → atKey xs [k.1, k.2] = none
  | [], xs, x, k, _ => by
    have : xs = [] := by have := x.1; simpa using this
    simp [this, atKey]
  | p :: l, _, x, k, e => by
    obtain ⟨a, v, r, rfl, d, dl⟩ := x.inv_cons
    by_cases hk : p.1 = k
    · simp [kvAt, hk] at e
    · have e' : kvAt l k = none := by simpa [kvAt, hk] using e
      have hk' : ¬ (p.1.1 = k.1 ∧ p.1.2 = k.2) := fun z => hk (Prod.ext z.1 z.2)
      simpa [atKey, hk'] using TdL.at_none dl e'
theorem TdL.length {h : Heap} {l : List ((Int × Int) × V)} {xs : List (List Int × Addr × Value)} (x : TdL h l xs) : xs.length = l.length := by
  have := congrArg List.length x.1; simpa using this

-- what the heap holds at a place that a call may change
noncomputable def Own (w : World) (h : Heap) (a : Addr) : MO → Prop
  | .list l => ∃ vs n, h.get? a = some (listOf (List.toArray vs) n) ∧ DenL h l vs
  | .inst c d => ∃ sl, h.get? a = some ⟨.ref c, some d, .plain, sl⟩
  | .ns l => ∃ es n, h.get? a = some (dictOf es n) ∧ NsRel h l es
  | .idic l => ∃ kvs, h.DictOf (intKind P0 w) a kvs ∧ KvL h l kvs
  | .sdic l => ∃ kvs, h.DictOf (strKind P0 w) a kvs ∧ KvL h l kvs
  | .tdic l => ∃ xs, h.DictOfH (tupleKind (intKind P0 w)) a xs ∧ TdL h l xs
  | .set S n => h.SetOf (intKind P0 w) a S n

theorem tupleKey_keep {w : World} {h h' : Heap} (k : KeepT h h') {ks : List Int} {a : Addr} (x : IsTupleKey (intKind P0 w) h ks a) : IsTupleKey (intKind P0 w) h' ks a := by
  obtain ⟨o, items, n, ho, hc, hd, hi⟩ := x
  obtain ⟨o', ho', hc', n', hd'⟩ := k a items ⟨o, ho, hc, n, hd⟩
  exact ⟨o', items, n', ho', hc', hd', hi⟩
-- an object stays where its own place and all tuples stay
theorem Own.keep {w : World} {h h' : Heap} (k : KeepT h h') {a : Addr} (ha : ∀ o, h.get? a = some o → h'.get? a = some o) {x : MO} (z : Own w h a x) : Own w h' a x := by
  cases x with
  | list l => obtain ⟨vs, n, e, d⟩ := z; exact ⟨vs, n, ha _ e, d.keep k⟩
  | inst c d => obtain ⟨sl, e⟩ := z; exact ⟨sl, ha _ e⟩
  | ns l => obtain ⟨es, n, e, r⟩ := z; exact ⟨es, n, ha _ e, NsRel.keep k l r⟩
  | idic l => obtain ⟨kvs, d, r⟩ := z; obtain ⟨o, es, ep, ho, q⟩ := d; exact ⟨kvs, ⟨o, es, ep, ha _ ho, q⟩, r.keep k⟩
  | sdic l => obtain ⟨kvs, d, r⟩ := z; obtain ⟨o, es, ep, ho, q⟩ := d; exact ⟨kvs, ⟨o, es, ep, ha _ ho, q⟩, r.keep k⟩
  | tdic l => obtain ⟨xs, d, r⟩ := z; obtain ⟨o, es, ep, ho, r1, r2, r3, r4, r5⟩ := d; exact ⟨xs, ⟨o, es, ep, ha _ ho, r1, r2, r3, fun x hx => tupleKey_keep k (r4 x hx), r5⟩, r.keep k⟩
  | set S n => obtain ⟨o, es, ep, t, ho, r⟩ := z; exact ⟨o, es, ep, t, ha _ ho, r⟩
theorem not_tup {o : Obj} {n : String} (h : o.cls = .type n) (e : (n == "tuple") = false) : ¬ (o.cls = .type "tuple") := fun q => by
  rw [h] at q; cases q; cases e
theorem Own.there {w : World} {h : Heap} {a : Addr} {x : MO} (z : Own w h a x) : ∃ o, h.get? a = some o ∧ ¬ (o.cls = .type "tuple") := by
  cases x with
  | list l => obtain ⟨_, _, e, _⟩ := z; exact ⟨_, e, not_tup rfl rfl⟩
  | inst c d => obtain ⟨_, e⟩ := z; exact ⟨_, e, fun q => by cases q⟩
  | ns l => obtain ⟨_, _, e, _⟩ := z; exact ⟨_, e, not_tup rfl rfl⟩
  | idic l => obtain ⟨_, d, _⟩ := z; obtain ⟨o, _, _, ho, hc, _⟩ := d; exact ⟨o, ho, not_tup hc.1 rfl⟩
  | sdic l => obtain ⟨_, d, _⟩ := z; obtain ⟨o, _, _, ho, hc, _⟩ := d; exact ⟨o, ho, not_tup hc.1 rfl⟩
  | tdic l => obtain ⟨_, d, _⟩ := z; obtain ⟨o, _, _, ho, hc, _⟩ := d; exact ⟨o, ho, not_tup hc.1 rfl⟩
  | set S n => obtain ⟨o, _, _, _, ho, hc, _⟩ := z; exact ⟨o, ho, not_tup hc.1 rfl⟩

-- what stays all through the law's call
set_option genInjectivity false in
structure Cx where
  w : World
  os : OsState
  h0 : Heap
  mg : Str → Option Value
  mb : Str → Option Value
  kin : (KT w.params).In h0
  codes : ∀ c ∈ kCodes, h0.CodeRec (.ref c.1) c.2
  g : h0.Ns mainGlobals mg
  b : h0.Ns builtinsNs mb
  builtins : ∀ x : Str, x ≠ "__name__" → mb x = bootBuiltins x
  nolimit : h0.NoLimit
  sc : Addr
  sl : List Int
  scr : ∃ vs : List Value, h0.get? sc = some (listOf vs.toArray 0) ∧ DenL h0 (sl.map .int) vs
  sll : sl.length < 1000

abbrev Base := Addr → Obj → Prop
structure Rel (C : Cx) (B : Base) (M : Mm) (s : Shared) : Prop where
  low : ∀ b o, C.h0.get? b = some o → B b o
  base : ∀ b o, B b o → s.heap.get? b = some o
  own : ∀ a x, M a = some x → Own C.w s.heap a x
  apart : ∀ a x, M a = some x → ∀ o, ¬ B a o
  os : s.os = C.os
  gens : s.gens = #[]
  one : M 1 = none
structure Frm (B : Base) (M : Mm) (L : Addr) (loc : Loc) (h : Heap) : Prop where
  ns : ∃ m, h.Ns L m ∧ ∀ x X, lk x loc = some X → ∃ v, m x = some v ∧ Den h X v
  free : M L = none
  out : ∀ o, ¬ B L o
variable {C : Cx} {B : Base} {M : Mm} {s : Shared} {L : Addr} {loc : Loc}
theorem Rel.keep0 (R : Rel C B M s) : ∀ b o, C.h0.get? b = some o → s.heap.get? b = some o := fun b o e => R.base b o (R.low b o e)
theorem Rel.kin (R : Rel C B M s) : (KT C.w.params).In s.heap := C.kin.keeps R.keep0
theorem Rel.toks (R : Rel C B M s) (t : Nat) : Rel C B M { s with toks := t } := ⟨R.low, R.base, R.own, R.apart, R.os, R.gens, R.one⟩
-- nothing but new objects
theorem Rel.grow (R : Rel C B M s) {h' : Heap} (k : ∀ b o, s.heap.get? b = some o → h'.get? b = some o) (t : Nat) : Rel C B M { s with heap := h', toks := t } :=
  ⟨R.low, fun b o e => k _ _ (R.base b o e), fun a x e => (R.own a x e).keep (.of k) (k a), R.apart, R.os, R.gens, R.one⟩
theorem Frm.grow (F : Frm B M L loc s.heap) {h' : Heap} (k : ∀ b o, s.heap.get? b = some o → h'.get? b = some o) : Frm B M L loc h' := by
  obtain ⟨⟨m, hn, hm⟩, f, o⟩ := F
  exact ⟨⟨m, hn.keeps k, fun x X e => let ⟨v, a, d⟩ := hm x X e; ⟨v, a, d.keep (.of k) X⟩⟩, f, o⟩
-- a place of one's own is changed
theorem KeepT.sameBut {h h' : Heap} {d : Addr} {o : Obj} (hs : Heap.SameBut d h h') (ho : h.get? d = some o) (hc : ¬ o.cls = .type "tuple") : KeepT h h' := fun a vs x => by
  obtain ⟨o', ho', hc', r⟩ := x
  have ne : a ≠ d := by rintro rfl; rw [ho] at ho'; cases ho'; exact hc hc'
  exact ⟨o', (hs.2 a ne).trans ho', hc', r⟩
theorem Rel.upd (R : Rel C B M s) {d : Addr} {x x' : MO} {h' : Heap} (hd : M d = some x) (hs : Heap.SameBut d s.heap h') (hx : KeepT s.heap h' → Own C.w h' d x') (t : Nat) :
    Rel C B (upd M d x') { s with heap := h', toks := t } ∧ KeepT s.heap h' := by
  obtain ⟨o, ho, hc⟩ := (R.own d x hd).there
  have k := KeepT.sameBut hs ho hc
  refine ⟨⟨R.low, fun b o' e => (hs.2 b fun q => R.apart d x hd o' (q ▸ e)).trans (R.base b o' e), fun a y e => ?_, fun a y e => ?_, R.os, R.gens, ?_⟩, k⟩
  · by_cases q : a = d
    · subst q; rw [upd_same] at e; cases e; exact hx k
    · rw [upd_ne _ _ q] at e
      exact (R.own a y e).keep k fun o' e' => (hs.2 a q).trans e'
  · by_cases q : a = d
    · subst q; exact R.apart a x hd
    · rw [upd_ne _ _ q] at e; exact R.apart a y e
  · rw [upd_ne _ _ (fun q => by rw [← q, R.one] at hd; cases hd)]; exact R.one
-- a new object of one's own
theorem Rel.fresh (R : Rel C B M s) : M s.heap.objs.size = none ∧ ∀ o, ¬ B s.heap.objs.size o := by
  refine ⟨?_, fun o e => absurd (Heap.lt_size (R.base _ o e)) (Nat.lt_irrefl _)⟩
  cases q : M s.heap.objs.size with
  | none => rfl
  | some x =>
    obtain ⟨o, ho, _⟩ := (R.own _ _ q).there
    exact absurd (Heap.lt_size ho) (Nat.lt_irrefl _)
theorem Rel.alloc (R : Rel C B M s) {x : MO} {h' : Heap} (k : ∀ b o, s.heap.get? b = some o → h'.get? b = some o) (hx : Own C.w h' s.heap.objs.size x) (t : Nat) :
    Rel C B (Mine.upd M s.heap.objs.size x) { s with heap := h', toks := t } := by
  refine ⟨R.low, fun b o e => k _ _ (R.base b o e), fun a y e => ?_, fun a y e => ?_, R.os, R.gens, ?_⟩
  · by_cases q : a = s.heap.objs.size
    · subst q; rw [upd_same] at e; cases e; exact hx
    · rw [upd_ne _ _ q] at e; exact (R.own a y e).keep (.of k) (k a)
  · by_cases q : a = s.heap.objs.size
    · subst q; exact R.fresh.2
    · rw [upd_ne _ _ q] at e; exact R.apart a y e
  · have : 3 < s.heap.objs.size := by
      obtain ⟨o, _, _, ho, _⟩ := C.g.keeps R.keep0
      exact Heap.lt_size ho
    rw [upd_ne _ _ (show (1 : Nat) ≠ s.heap.objs.size from Nat.ne_of_lt (Nat.lt_trans (by decide) this))]; exact R.one
theorem Frm.alloc (F : Frm B M L loc s.heap) {x : MO} {h' : Heap} (k : ∀ b o, s.heap.get? b = some o → h'.get? b = some o) : Frm B (Mine.upd M s.heap.objs.size x) L loc h' := by
  have F' := F.grow k
  have ne : L ≠ s.heap.objs.size := by
    obtain ⟨⟨m, ⟨o, _, _, ho, _⟩, _⟩, _, _⟩ := F
    exact Nat.ne_of_lt (Heap.lt_size ho)
  exact ⟨F'.ns, by rw [upd_ne _ _ ne]; exact F'.free, F'.out⟩
-- a name of the frame's is bound
theorem Rel.local (R : Rel C B M s) (F : Frm B M L loc s.heap) {h' : Heap} (hs : Heap.SameBut L s.heap h') (t : Nat) : Rel C B M { s with heap := h', toks := t } ∧ KeepT s.heap h' := by
  obtain ⟨⟨m, ⟨o, es, ep, ho, hd, _⟩, hm⟩, f, ou⟩ := F
  have k : KeepT s.heap h' := fun a vs x => by
    obtain ⟨o', ho', hc', n, hd'⟩ := x
    have ne : a ≠ L := by rintro rfl; rw [ho] at ho'; cases ho'; rw [hd] at hd'; cases hd'
    exact ⟨o', (hs.2 a ne).trans ho', hc', n, hd'⟩
  refine ⟨⟨R.low, fun b o' e => (hs.2 b fun q => ou o' (q ▸ e)).trans (R.base b o' e), fun a x e => ?_, R.apart, R.os, R.gens, R.one⟩, k⟩
  have ne : a ≠ L := by rintro rfl; rw [f] at e; cases e
  exact (R.own a x e).keep k fun o' e' => (hs.2 a ne).trans e'
theorem Frm.local (F : Frm B M L loc s.heap) {x : Str} {X : V} {v : Value} {h' : Heap} (d : Den s.heap X v) (k : KeepT s.heap h')
    (hn : ∀ m, s.heap.Ns L m → h'.Ns L (fun y => if y = x then some v else m y)) : Frm B M L (st x X loc) h' := by
  obtain ⟨⟨m, hns, hm⟩, f, ou⟩ := F
  refine ⟨⟨_, hn m hns, fun y Y e => ?_⟩, f, ou⟩
  rw [lk_st] at e
  by_cases q : y = x
  · rw [if_pos q] at e; cases e
    exact ⟨v, by simp [q], d.keep k X⟩
  · rw [if_neg q] at e
    obtain ⟨v', a, dd⟩ := hm y Y e
    exact ⟨v', by simp [q, a], dd.keep k Y⟩
end
end Mine

end
section
open PySem PySem.W PyProof.Rows PySem.Calls
set_option Elab.async false
set_option maxRecDepth 100000
set_option linter.all false
namespace Mine
noncomputable section
-- room for k more calls, one in the other
noncomputable def Aok (k : Nat) (A : Around) : Prop := A.handled = none ∧ A.depth + k < 900 ∧ A.units + 10 * k < 9000
theorem Aok.deeper {k : Nat} {A : Around} (h : Aok (k + 1) A) (env : Env) : Aok k (A.deeper env) := by
  obtain ⟨a, b, c⟩ := h
  refine ⟨a, ?_, ?_⟩
  · show A.depth + 1 + k < 900; omega
  · show A.units + 3 + 10 * k < 9000; omega
theorem Aok.room {k : Nat} {A : Around} (h : Aok k A) : A.depth < recursionLimit := by have := h.2.1; show A.depth < 1000; omega
theorem Aok.units {k : Nat} {A : Around} (h : Aok k A) : A.units + 64 < cLine := by have := h.2.2; show A.units + 64 < 9900; omega

-- what is fixed of a function: how deep it may call, its scope, its cells' values
set_option genInjectivity false in
structure Fi where
  k : Nat
  sc : Scope
  cl : Loc
structure St (C : Cx) (F : Fi) (A : Around) (B : Base) (L : Addr) (cs : List (Str × Addr)) (loc : Loc) (M : Mm) (s : Shared) : Prop where
  aok : Aok F.k A
  rel : Rel C B M s
  frm : Frm B M L loc s.heap
  cel : ∀ x X, lk x F.cl = some X → ∃ ca v o, cs.lookup x = some ca ∧ B ca o ∧ o.data = .cell (some v) ∧ Den s.heap X v
  knd : F.sc.kind = .function
variable {C : Cx} {F : Fi} {A : Around} {B : Base} {L : Addr} {cs : List (Str × Addr)} {loc : Loc} {M : Mm} {s : Shared}
theorem St.celK (S : St C F A B L cs loc M s) {h' : Heap} (k : KeepT s.heap h') : ∀ x X, lk x F.cl = some X → ∃ ca v o, cs.lookup x = some ca ∧ B ca o ∧ o.data = .cell (some v) ∧ Den h' X v :=
  fun x X e => let ⟨ca, v, o, a, b, c, d⟩ := S.cel x X e; ⟨ca, v, o, a, b, c, d.keep k X⟩
theorem St.toks (S : St C F A B L cs loc M s) (t : Nat) : St C F A B L cs loc M { s with toks := t } := ⟨S.aok, S.rel.toks t, S.frm, S.cel, S.knd⟩
theorem St.grow (S : St C F A B L cs loc M s) {h' : Heap} (k : ∀ b o, s.heap.get? b = some o → h'.get? b = some o) (t : Nat) : St C F A B L cs loc M { s with heap := h', toks := t } :=
  ⟨S.aok, S.rel.grow k t, S.frm.grow k, S.celK (.of k), S.knd⟩
theorem St.alloc (S : St C F A B L cs loc M s) {x : MO} {h' : Heap} (k : ∀ b o, s.heap.get? b = some o → h'.get? b = some o) (hx : Own C.w h' s.heap.objs.size x) (t : Nat) :
    St C F A B L cs loc (Mine.upd M s.heap.objs.size x) { s with heap := h', toks := t } :=
  ⟨S.aok, S.rel.alloc k hx t, S.frm.alloc k, S.celK (.of k), S.knd⟩
theorem St.local (S : St C F A B L cs loc M s) {x : Str} {X : V} {v : Value} {h' : Heap} (d : Den s.heap X v) (hs : Heap.SameBut L s.heap h')
    (hn : ∀ m, s.heap.Ns L m → h'.Ns L (fun y => if y = x then some v else m y)) (t : Nat) :
    St C F A B L cs (Mine.st x X loc) M { s with heap := h', toks := t } ∧ KeepT s.heap h' :=
  let ⟨r, k⟩ := S.rel.local S.frm hs t
  ⟨⟨S.aok, r, S.frm.local d k hn, S.celK k, S.knd⟩, k⟩
-- fewer names may be told
theorem St.less (S : St C F A B L cs loc M s) {loc' : Loc} (h : ∀ x X, lk x loc' = some X → lk x loc = some X) : St C F A B L cs loc' M s :=
  ⟨S.aok, S.rel, ⟨let ⟨m, a, b⟩ := S.frm.ns; ⟨m, a, fun x X e => b x X (h x X e)⟩, S.frm.free, S.frm.out⟩, S.cel, S.knd⟩
-- all that is not one's own
noncomputable def Rest (M : Mm) (h : Heap) : Base := fun b o => h.get? b = some o ∧ M b = none
theorem Rel.rest (R : Rel C B M s) : Rel C (Rest M s.heap) M s := by
  refine ⟨fun b o e => ⟨R.keep0 b o e, ?_⟩, fun b o e => e.1, R.own, fun a x e o q => ?_, R.os, R.gens, R.one⟩
  · cases q : M b with
    | none => rfl
    | some x => exact absurd (R.low b o e) (R.apart b x q o)
  · rw [q.2] at e; cases e
theorem Rel.base_rest (R : Rel C B M s) {b : Addr} {o : Obj} (e : B b o) : Rest M s.heap b o := ⟨R.base b o e, by
  cases q : M b with
  | none => rfl
  | some x => exact absurd e (R.apart b x q o)⟩
-- behind a call that kept all that is not one's own
theorem Rel.back (R : Rel C B M s) {M' : Mm} {s' : Shared} (R' : Rel C (Rest M s.heap) M' s') : Rel C B M' s' :=
  ⟨R.low, fun b o e => R'.base b o (R.base_rest e), R'.own, fun a x e o q => R'.apart a x e o (R.base_rest q), R'.os, R'.gens, R'.one⟩
theorem Frm.back (Fr : Frm B M L loc s.heap) (R : Rel C B M s) {M' : Mm} {s' : Shared} (R' : Rel C (Rest M s.heap) M' s') (k : KeepT s.heap s'.heap) : Frm B M' L loc s'.heap := by
  obtain ⟨⟨m, ⟨o, es, ep, ho, r⟩, hm⟩, f, ou⟩ := Fr
  have q : Rest M s.heap L o := ⟨ho, f⟩
  refine ⟨⟨m, ⟨o, es, ep, R'.base _ _ q, r⟩, fun x X e => let ⟨v, a, d⟩ := hm x X e; ⟨v, a, d.keep k X⟩⟩, ?_, ou⟩
  cases z : M' L with
  | none => rfl
  | some x => exact absurd q (R'.apart L x z o)
theorem St.back (S : St C F A B L cs loc M s) {M' : Mm} {s' : Shared} (R' : Rel C (Rest M s.heap) M' s') (k : KeepT s.heap s'.heap) : St C F A B L cs loc M' s' :=
  ⟨S.aok, S.rel.back R', S.frm.back S.rel R' k, S.celK k, S.knd⟩

-- an operation on values: what it gives and leaves
noncomputable def OpP (C : Cx) (k : Nat) (t : List Value → Sem Value) (xs : List V) (M : Mm) (Q : V → Mm → Prop) : Prop :=
  ∀ (A : Around) (B : Base) (s : Shared) (vs : List Value), Aok k A → Rel C B M s → DenL s.heap xs vs →
    wpAny (model P0 C.w) A (t vs) (fun v s' => ∃ X M', Rel C B M' s' ∧ KeepT s.heap s'.heap ∧ Den s'.heap X v ∧ Q X M') noE s
-- a call
noncomputable def CallP (C : Cx) (k : Nat) (f : Value) (xs : List V) (M : Mm) (Q : V → Mm → Prop) : Prop :=
  ∀ (A : Around) (B : Base) (s : Shared) (vs : List Value), Aok k A → Rel C B M s → DenL s.heap xs vs →
    codeAny (model P0 C.w) A (.call f ⟨vs, []⟩) (fun r s' => ∃ v X M', r = .ok (.ret v) ∧ Rel C B M' s' ∧ KeepT s.heap s'.heap ∧ Den s'.heap X v ∧ Q X M') s
theorem CallP.op {k : Nat} {f : Value} {xs : List V} {Q : V → Mm → Prop} (h : CallP C k f xs M Q) : OpP C k (fun vs => call f vs) xs M Q :=
  fun A B s vs a r d => wpAny_call (codeAny_mono (h A B s vs a r d) fun r s' ⟨v, X, M', e, z⟩ => by subst e; exact ⟨X, M', z⟩)

-- what an evaluation in a frame gives
noncomputable def Pv (C : Cx) (F : Fi) (A : Around) (B : Base) (L : Addr) (cs : List (Str × Addr)) (loc : Loc) (s : Shared) (Q : V → Mm → Prop) : Value → Shared → Prop :=
  fun v s' => ∃ X M', St C F A B L cs loc M' s' ∧ KeepT s.heap s'.heap ∧ Den s'.heap X v ∧ Q X M'
noncomputable def EvP (C : Cx) (F : Fi) (e : Expr) (loc : Loc) (M : Mm) (Q : V → Mm → Prop) : Prop :=
  ∀ A B s L nm fa cd cs, St C F A B L cs loc M s → wpAny (model P0 C.w) A (eval e (envX nm F.sc L fa cd cs)) (Pv C F A B L cs loc s Q) noE s
noncomputable def EvsP (C : Cx) (F : Fi) (es : List Expr) (loc : Loc) (M : Mm) (Q : List V → Mm → Prop) : Prop :=
  ∀ A B s L nm fa cd cs pos, St C F A B L cs loc M s → wpAny (model P0 C.w) A (spliced (backTo pos (starEach es (envX nm F.sc L fa cd cs))))
    (fun vs s' => ∃ Xs M', St C F A B L cs loc M' s' ∧ KeepT s.heap s'.heap ∧ DenL s'.heap Xs vs ∧ Q Xs M') noE s
noncomputable def TsP (C : Cx) (F : Fi) (e : Expr) (loc : Loc) (M : Mm) (Q : Bool → Mm → Prop) : Prop :=
  ∀ A B s L nm fa cd cs, St C F A B L cs loc M s → wpAny (model P0 C.w) A (isTrue e (envX nm F.sc L fa cd cs) (eval e (envX nm F.sc L fa cd cs)))
    (fun b s' => ∃ M', St C F A B L cs loc M' s' ∧ KeepT s.heap s'.heap ∧ Q b M') noE s
set_option genInjectivity false in
inductive Fl where
  | next | brk | cont
  | ret (X : V)
noncomputable def DenF (h : Heap) : Fl → Flow → Prop
  | .next, f => f = .next
  | .brk, f => f = .brk
  | .cont, f => f = .cont
  | .ret X, f => ∃ v, f = .ret v ∧ Den h X v
noncomputable def Pf (C : Cx) (F : Fi) (A : Around) (B : Base) (L : Addr) (cs : List (Str × Addr)) (s : Shared) (Q : Fl → Loc → Mm → Prop) : Flow → Shared → Prop :=
  fun f s' => ∃ G loc' M', St C F A B L cs loc' M' s' ∧ KeepT s.heap s'.heap ∧ DenF s'.heap G f ∧ Q G loc' M'
noncomputable def ExP (C : Cx) (F : Fi) (st : Stmt) (loc : Loc) (M : Mm) (Q : Fl → Loc → Mm → Prop) : Prop :=
  ∀ A B s L nm fa cd cs, St C F A B L cs loc M s → wpAny (model P0 C.w) A (exec st (envX nm F.sc L fa cd cs)) (Pf C F A B L cs s Q) noE s
noncomputable def ExsP (C : Cx) (F : Fi) (ss : List Stmt) (loc : Loc) (M : Mm) (Q : Fl → Loc → Mm → Prop) : Prop :=
  ∀ A B s L nm fa cd cs, St C F A B L cs loc M s → wpAny (model P0 C.w) A (execs ss (envX nm F.sc L fa cd cs)) (Pf C F A B L cs s Q) noE s
theorem Pv.tr {s₁ s₂ : Shared} {Q : V → Mm → Prop} {v : Value} (k : KeepT s₁.heap s₂.heap) {s₃ : Shared} (h : Pv C F A B L cs loc s₂ Q v s₃) : Pv C F A B L cs loc s₁ Q v s₃ :=
  let ⟨X, M', a, b, c⟩ := h; ⟨X, M', a, k.trans b, c⟩
theorem Pf.tr {s₁ s₂ : Shared} {Q : Fl → Loc → Mm → Prop} {v : Flow} (k : KeepT s₁.heap s₂.heap) {s₃ : Shared} (h : Pf C F A B L cs s₂ Q v s₃) : Pf C F A B L cs s₁ Q v s₃ :=
  let ⟨X, l, M', a, b, c⟩ := h; ⟨X, l, M', a, k.trans b, c⟩
theorem EvP.mono {e : Expr} {Q Q' : V → Mm → Prop} (h : EvP C F e loc M Q) (hq : ∀ X M', Q X M' → Q' X M') : EvP C F e loc M Q' :=
  fun A B s L nm fa cd cs S => wpAny_mono (h A B s L nm fa cd cs S) (fun v s' z => by obtain ⟨X, M', a, b, c, d⟩ := z; exact ⟨X, M', a, b, c, hq _ _ d⟩) fun _ _ x => x
theorem EvsP.mono {e : List Expr} {Q Q' : List V → Mm → Prop} (h : EvsP C F e loc M Q) (hq : ∀ X M', Q X M' → Q' X M') : EvsP C F e loc M Q' :=
  fun A B s L nm fa cd cs pos S => wpAny_mono (h A B s L nm fa cd cs pos S) (fun v s' z => by obtain ⟨X, M', a, b, c, d⟩ := z; exact ⟨X, M', a, b, c, hq _ _ d⟩) fun _ _ x => x
theorem TsP.mono {e : Expr} {Q Q' : Bool → Mm → Prop} (h : TsP C F e loc M Q) (hq : ∀ X M', Q X M' → Q' X M') : TsP C F e loc M Q' :=
  fun A B s L nm fa cd cs S => wpAny_mono (h A B s L nm fa cd cs S) (fun v s' z => by obtain ⟨M', a, b, c⟩ := z; exact ⟨M', a, b, hq _ _ c⟩) fun _ _ x => x
theorem ExsP.mono {e : List Stmt} {Q Q' : Fl → Loc → Mm → Prop} (h : ExsP C F e loc M Q) (hq : ∀ X l M', Q X l M' → Q' X l M') : ExsP C F e loc M Q' :=
  fun A B s L nm fa cd cs S => wpAny_mono (h A B s L nm fa cd cs S) (fun v s' z => by obtain ⟨X, l, M', a, b, c, d⟩ := z; exact ⟨X, l, M', a, b, c, hq _ _ _ d⟩) fun _ _ x => x
theorem ExP.mono {e : Stmt} {Q Q' : Fl → Loc → Mm → Prop} (h : ExP C F e loc M Q) (hq : ∀ X l M', Q X l M' → Q' X l M') : ExP C F e loc M Q' :=
  fun A B s L nm fa cd cs S => wpAny_mono (h A B s L nm fa cd cs S) (fun v s' z => by obtain ⟨X, l, M', a, b, c, d⟩ := z; exact ⟨X, l, M', a, b, c, hq _ _ _ d⟩) fun _ _ x => x

section
variable {nm : Str} {fa : Addr} {cd : Value} {e : Expr} {es : List Expr} {st : Stmt} {ss : List Stmt} {pos : Pos} {s₀ : Shared}
theorem EvP.run {Q : V → Mm → Prop} (h : EvP C F e loc M Q) (S : St C F A B L cs loc M s) {R : Value → Shared → Prop} (k : ∀ v s₁ X M₁, St C F A B L cs loc M₁ s₁ → KeepT s.heap s₁.heap → Den s₁.heap X v → Q X M₁ → R v s₁) :
    wpAny (model P0 C.w) A (eval e (envX nm F.sc L fa cd cs)) R noE s := wpAny_mono (h A B s L nm fa cd cs S) (fun v s₁ z => by obtain ⟨X, M₁, a, b, c, d⟩ := z; exact k v s₁ X M₁ a b c d) fun _ _ x => x
theorem EvsP.run {Q : List V → Mm → Prop} (h : EvsP C F es loc M Q) (S : St C F A B L cs loc M s) {R : List Value → Shared → Prop} (k : ∀ vs s₁ Xs M₁, St C F A B L cs loc M₁ s₁ → KeepT s.heap s₁.heap → DenL s₁.heap Xs vs → Q Xs M₁ → R vs s₁) :
    wpAny (model P0 C.w) A (spliced (backTo pos (starEach es (envX nm F.sc L fa cd cs)))) R noE s := wpAny_mono (h A B s L nm fa cd cs pos S) (fun v s₁ z => by obtain ⟨X, M₁, a, b, c, d⟩ := z; exact k v s₁ X M₁ a b c d) fun _ _ x => x
theorem TsP.run {Q : Bool → Mm → Prop} (h : TsP C F e loc M Q) (S : St C F A B L cs loc M s) {E : Value → Shared → Prop} {R : Bool → Shared → Prop} (k : ∀ b s₁ M₁, St C F A B L cs loc M₁ s₁ → KeepT s.heap s₁.heap → Q b M₁ → R b s₁) :
    wpAny (model P0 C.w) A (isTrue e (envX nm F.sc L fa cd cs) (eval e (envX nm F.sc L fa cd cs))) R E s := wpAny_mono (h A B s L nm fa cd cs S) (fun v s₁ z => by obtain ⟨M₁, a, b, c⟩ := z; exact k v s₁ M₁ a b c) fun _ _ x => x.elim
theorem ExP.run {Q : Fl → Loc → Mm → Prop} (h : ExP C F st loc M Q) (S : St C F A B L cs loc M s) {R : Flow → Shared → Prop} (k : ∀ f s₁ G l M₁, St C F A B L cs l M₁ s₁ → KeepT s.heap s₁.heap → DenF s₁.heap G f → Q G l M₁ → R f s₁) :
    wpAny (model P0 C.w) A (exec st (envX nm F.sc L fa cd cs)) R noE s := wpAny_mono (h A B s L nm fa cd cs S) (fun v s₁ z => by obtain ⟨G, l, M₁, a, b, c, d⟩ := z; exact k v s₁ G l M₁ a b c d) fun _ _ x => x
theorem ExsP.run {Q : Fl → Loc → Mm → Prop} (h : ExsP C F ss loc M Q) (S : St C F A B L cs loc M s) {E : Value → Shared → Prop} {R : Flow → Shared → Prop} (k : ∀ f s₁ G l M₁, St C F A B L cs l M₁ s₁ → KeepT s.heap s₁.heap → DenF s₁.heap G f → Q G l M₁ → R f s₁) :
    wpAny (model P0 C.w) A (execs ss (envX nm F.sc L fa cd cs)) R E s := wpAny_mono (h A B s L nm fa cd cs S) (fun v s₁ z => by obtain ⟨G, l, M₁, a, b, c, d⟩ := z; exact k v s₁ G l M₁ a b c d) fun _ _ x => x.elim
theorem OpP.run {t : List Value → Sem Value} {xs : List V} {Q : V → Mm → Prop} (h : OpP C F.k t xs M Q) (S : St C F A B L cs loc M s) {vs : List Value} (d : DenL s.heap xs vs) {R : Value → Shared → Prop} (k : ∀ v s₁ X M₁, St C F A B L cs loc M₁ s₁ → KeepT s.heap s₁.heap → Den s₁.heap X v → Q X M₁ → R v s₁) :
    wpAny (model P0 C.w) A (t vs) R noE s := wpAny_mono (h A _ s vs S.aok S.rel.rest d) (fun v s₁ z => by obtain ⟨X, M₁, r, b, c, q⟩ := z; exact k v s₁ X M₁ (S.back r b) b c q) fun _ _ x => x
theorem OpP.fin {t : List Value → Sem Value} {xs : List V} {Q : V → Mm → Prop} (h : OpP C F.k t xs M Q) (S : St C F A B L cs loc M s) {vs : List Value} (d : DenL s.heap xs vs) (kk : KeepT s₀.heap s.heap) :
    wpAny (model P0 C.w) A (t vs) (Pv C F A B L cs loc s₀ Q) noE s := h.run S d fun v s₁ X M₁ a b c q => ⟨X, M₁, a, kk.trans b, c, q⟩
theorem EvP.fin {Q : V → Mm → Prop} (h : EvP C F e loc M Q) (S : St C F A B L cs loc M s) (kk : KeepT s₀.heap s.heap) : wpAny (model P0 C.w) A (eval e (envX nm F.sc L fa cd cs)) (Pv C F A B L cs loc s₀ Q) noE s := h.run S fun v s₁ X M₁ a b c q => ⟨X, M₁, a, kk.trans b, c, q⟩
theorem ExsP.fin {Q : Fl → Loc → Mm → Prop} (h : ExsP C F ss loc M Q) (S : St C F A B L cs loc M s) (kk : KeepT s₀.heap s.heap) : wpAny (model P0 C.w) A (execs ss (envX nm F.sc L fa cd cs)) (Pf C F A B L cs s₀ Q) noE s := h.run S fun v s₁ G l M₁ a b c q => ⟨G, l, M₁, a, kk.trans b, c, q⟩
end
end
end Mine

end
section
open PySem PySem.W PyProof.Rows PySem.Calls
set_option Elab.async false
set_option maxRecDepth 100000
set_option linter.all false
namespace Mine
noncomputable section
variable {C : Cx} {F : Fi} {loc : Loc} {M : Mm}
theorem up {α : Type} {Mo : Model} {A : Around} {t : Sem α} {Q Q' : α → Shared → Prop} {s : Shared} (h : wpAny Mo A t Q noE s) (hq : ∀ a s', Q a s' → Q' a s') {E : Value → Shared → Prop} : wpAny Mo A t Q' E s :=
  wpAny_mono h hq fun _ _ x => x.elim
section
variable {Q : V → Mm → Prop}
theorem ev_int {i : Int} {k pos} (h : Q (.int i) M) : EvP C F (.Constant (.int i) k pos) loc M Q := fun A B s L nm fa cd cs S =>
  wpAny_Constant_int ⟨.int i, M, S.toks _, .refl _, ⟨_, rfl⟩, h⟩
theorem ev_str {i : Str} {k pos} (h : Q (.str i) M) : EvP C F (.Constant (.str i) k pos) loc M Q := fun A B s L nm fa cd cs S =>
  Constant_str ⟨.str i, M, S.toks _, .refl _, ⟨_, rfl⟩, h⟩
theorem ev_bool {i : Bool} {k pos} (h : Q (.bool i) M) : EvP C F (.Constant (.bool i) k pos) loc M Q := fun A B s L nm fa cd cs S =>
  Constant_bool ⟨.bool i, M, S, .refl _, rfl, h⟩
theorem ev_none {k pos} (h : Q .none M) : EvP C F (.Constant .none k pos) loc M Q := fun A B s L nm fa cd cs S =>
  Constant_none ⟨.none, M, S, .refl _, rfl, h⟩
-- a name's look in a frame
theorem ev_local {x : Str} {X : V} {pos} (hl : lk x loc = some X) (hk : F.sc.names.lookup x = some .local) (hd : (x == ("__debug__" : Str)) = false) (h : Q X M) : EvP C F (.Name x pos) loc M Q := fun A B s L nm fa cd cs S => by
  obtain ⟨m, hn, hm⟩ := S.frm.ns
  obtain ⟨v, hv, d⟩ := hm x X hl
  exact wpAny_Name (wpAny_loadName_local S.knd hk hn hv ⟨X, M, S, .refl _, d, h⟩) hd
theorem ev_cell {x : Str} {X : V} {pos} (hl : lk x F.cl = some X) (hk : F.sc.names.lookup x = some .cell) (hd : (x == ("__debug__" : Str)) = false) (h : Q X M) : EvP C F (.Name x pos) loc M Q := fun A B s L nm fa cd cs S => by
  obtain ⟨ca, v, o, hc, hb, ho, d⟩ := S.cel x X hl
  exact wpAny_Name (wpAny_loadName_cell S.knd hk hc ⟨o, S.rel.base _ _ hb, ho⟩ ⟨X, M, S, .refl _, d, h⟩) hd
theorem ev_free {x : Str} {X : V} {pos} (hl : lk x F.cl = some X) (hk : F.sc.names.lookup x = some .free) (hd : (x == ("__debug__" : Str)) = false) (hn : (x == ("__classdict__" : Str)) = false) (h : Q X M) : EvP C F (.Name x pos) loc M Q := fun A B s L nm fa cd cs S => by
  obtain ⟨ca, v, o, hc, hb, ho, d⟩ := S.cel x X hl
  exact wpAny_Name (wpAny_loadName_free S.knd hk hc ⟨o, S.rel.base _ _ hb, ho⟩ ⟨X, M, S, .refl _, d, h⟩ hn) hd
theorem St.g {A B s L cs} (S : St C F A B L cs loc M s) : s.heap.Ns mainGlobals C.mg := C.g.keeps S.rel.keep0
theorem ev_glob {x : Str} {X : V} {v : Value} {pos} (e : nsIn (KT C.w.params) mainGlobals x = some (some v)) (hx : ∀ h, Den h X v) (hk : F.sc.names.lookup x = some .globalImplicit) (hd : (x == ("__debug__" : Str)) = false) (h : Q X M) :
    EvP C F (.Name x pos) loc M Q := fun A B s L nm fa cd cs S =>
  Name_function_global S.knd hk (loadGlobal_global (env := envX nm F.sc L fa cd cs) S.g (mg_of C.kin C.g e) ⟨X, M, S, .refl _, hx _, h⟩) hd
theorem ev_bi {x : Str} {X : V} {v : Value} {pos} (e : nsIn (KT C.w.params) mainGlobals x = some none) (hv : bootBuiltins x = some v) (hn : x ≠ "__name__") (hx : ∀ h, Den h X v) (hk : F.sc.names.lookup x = some .globalImplicit) (hd : (x == ("__debug__" : Str)) = false) (h : Q X M) :
    EvP C F (.Name x pos) loc M Q := fun A B s L nm fa cd cs S =>
  Name_function_global S.knd hk (loadGlobal_builtin (env := envX nm F.sc L fa cd cs) S.g (mg_none_of C.kin C.g e) (C.b.keeps S.rel.keep0) ((C.builtins x hn).trans hv) ⟨X, M, S, .refl _, hx _, h⟩) hd
theorem evs_nil {Q : List V → Mm → Prop} (h : Q [] M) : EvsP C F [] loc M Q := fun A B s L nm fa cd cs pos S => wpAny_items_nil ⟨[], M, S, .refl _, .nil, h⟩
theorem evs_cons {e : Expr} {r : List Expr} {Q : List V → Mm → Prop} (he : ∀ env, starEach (e :: r) env = (false, eval e env) :: starEach r env)
    (h : EvP C F e loc M fun X M' => EvsP C F r loc M' fun Xs M'' => Q (X :: Xs) M'') : EvsP C F (e :: r) loc M Q := fun A B s L nm fa cd cs pos S =>
  wpAny_items_cons (h.run S fun v s₁ X M₁ S₁ k₁ d₁ h₁ => h₁.run S₁ fun vs s₂ Xs M₂ S₂ k₂ d₂ h₂ => ⟨X :: Xs, M₂, S₂, k₁.trans k₂, .cons (d₁.keep k₂ X) d₂, h₂⟩) (he _)
theorem push_keep {h : Heap} {o : Obj} : ∀ b q, h.get? b = some q → (h.push o).get? b = some q := fun b q e => Heap.get?_push_of_some _ e
theorem ev_tuple {es : List Expr} {k pos} (h : EvsP C F es loc M fun Xs M' => Xs.length ≤ 1000 ∧ Q (.tup Xs) M') : EvP C F (.Tuple es k pos) loc M Q := fun A B s L nm fa cd cs S =>
  wpAny_Tuple (h.run S fun vs s₁ Xs M₁ S₁ k₁ d₁ h₁ => ⟨by rw [d₁.length]; exact Nat.le_trans h₁.1 (by decide),
    .tup Xs, M₁, S₁.grow push_keep _, k₁.trans (.of push_keep), ⟨_, vs, rfl, ⟨_, Heap.get?_push_size _ rfl, rfl, _, rfl⟩, d₁.keep (.of push_keep)⟩, h₁.2⟩)
theorem own_list_push {w : World} {h : Heap} {Xs : List V} {vs : List Value} {n : Nat} (d : DenL h Xs vs) : Own w (h.push (listOf vs.toArray n)) h.objs.size (.list Xs) := ⟨vs, n, Heap.get?_push_size _ rfl, d.keep (.of push_keep)⟩
theorem ev_list {es : List Expr} {pos} (h : EvsP C F es loc M fun Xs M' => Xs.length ≤ 1000 ∧ ∀ a, M' a = none → Q (.ref a) (Mine.upd M' a (.list Xs))) : EvP C F (.List es pos) loc M Q := fun A B s L nm fa cd cs S =>
  wpAny_List (h.run S fun vs s₁ Xs M₁ S₁ k₁ d₁ h₁ => ⟨by rw [d₁.length]; exact Nat.le_trans h₁.1 (by decide),
    .ref _, _, S₁.alloc (x := .list Xs) push_keep (own_list_push d₁) _, k₁.trans (.of push_keep), rfl, h₁.2 _ S₁.rel.fresh.1⟩)
theorem ev_if {t b o : Expr} {pos} (h : TsP C F t loc M fun c M' => (c = true → EvP C F b loc M' Q) ∧ (c = false → EvP C F o loc M' Q)) : EvP C F (.IfExp t b o pos) loc M Q := fun A B s L nm fa cd cs S =>
  IfExp_ (h.run S fun c s₁ M₁ S₁ k₁ h₁ => by
    cases c
    · exact (h₁.2 rfl).fin S₁ k₁
    · exact (h₁.1 rfl).fin S₁ k₁)
theorem ev_bin {l r : Expr} {op pos} (h : EvP C F l loc M fun X M' => EvP C F r loc M' fun Y M'' => OpP C F.k (fun vs => match vs with | [a, b] => binaryOp op a b | _ => Sem.pure .none) [X, Y] M'' Q) : EvP C F (.BinOp l op r pos) loc M Q :=
  fun A B s L nm fa cd cs S => wpAny_BinOp (h.run S fun a s₁ X M₁ S₁ k₁ d₁ h₁ => h₁.run S₁ fun b s₂ Y M₂ S₂ k₂ d₂ h₂ => h₂.fin S₂ (vs := [a, b]) (.cons (d₁.keep k₂ X) (.cons d₂ .nil)) (k₁.trans k₂))
theorem ev_cmp {l r : Expr} {op pos} (hm : behindInMarks op r = false) (h : EvP C F l loc M fun X M' => EvP C F r loc M' fun Y M'' => OpP C F.k (fun vs => match vs with | [a, b] => compareOp op a b | _ => Sem.pure .none) [X, Y] M'' Q) :
    EvP C F (.Compare l [op] [r] pos) loc M Q :=
  fun A B s L nm fa cd cs S => wpAny_Compare1 (h.run S fun a s₁ X M₁ S₁ k₁ d₁ h₁ => h₁.run S₁ fun b s₂ Y M₂ S₂ k₂ d₂ h₂ => h₂.fin S₂ (vs := [a, b]) (.cons (d₁.keep k₂ X) (.cons d₂ .nil)) (k₁.trans k₂)) hm
end
section
variable {Q : Bool → Mm → Prop}
-- a value's truth: here of bools alone
noncomputable def vTruth (X : V) (Q : Bool → Prop) : Prop := match X with
  | .bool b => Q b
  | _ => False
theorem vTruth.inv {X : V} {Q : Bool → Prop} (h : vTruth X Q) : ∃ b, X = .bool b ∧ Q b := by
  cases X <;> first | exact h.elim | exact ⟨_, rfl, h⟩
theorem ts_cmp {l r : Expr} {op pos} (hm : behindInMarks op r = false) (h : EvP C F l loc M fun X M' => EvP C F r loc M' fun Y M'' => OpP C F.k (fun vs => match vs with | [a, b] => compareOp op a b | _ => Sem.pure .none) [X, Y] M'' fun Z M₃ => vTruth Z fun b => Q b M₃) :
    TsP C F (.Compare l [op] [r] pos) loc M Q :=
  fun A B s L nm fa cd cs S => wpAny_isTrue_Compare1 (h.run S fun a s₁ X M₁ S₁ k₁ d₁ h₁ => h₁.run S₁ fun b s₂ Y M₂ S₂ k₂ d₂ h₂ => h₂.run S₂ (vs := [a, b]) (.cons (d₁.keep k₂ X) (.cons d₂ .nil)) fun c s₃ Z M₃ S₃ k₃ d₃ h₃ => by
    obtain ⟨b, rfl, h₃⟩ := h₃.inv
    cases d₃
    exact wpAny_truthy_bool ⟨M₃, S₃, k₁.trans (k₂.trans k₃), h₃⟩) hm
theorem ts_not {e : Expr} {pos} (h : TsP C F e loc M fun b M' => Q (!b) M') : TsP C F (.UnaryOp .Not e pos) loc M Q := fun A B s L nm fa cd cs S =>
  isTrue_not (h A B s L nm fa cd cs S)
theorem ts_and_nil {pos} (h : Q true M) : TsP C F (.BoolOp .And [] pos) loc M Q := fun A B s L nm fa cd cs S => isTrue_and_nil ⟨M, S, .refl _, h⟩
theorem ts_or_nil {pos} (h : Q false M) : TsP C F (.BoolOp .Or [] pos) loc M Q := fun A B s L nm fa cd cs S => isTrue_or_nil ⟨M, S, .refl _, h⟩
theorem ts_and {e : Expr} {r : List Expr} {pos} (h : TsP C F e loc M fun b M' => (b = true → TsP C F (.BoolOp .And r pos) loc M' Q) ∧ (b = false → Q false M')) : TsP C F (.BoolOp .And (e :: r) pos) loc M Q :=
  fun A B s L nm fa cd cs S => isTrue_and (h.run S fun c s₁ M₁ S₁ k₁ h₁ => by
    cases c
    · exact ⟨M₁, S₁, k₁, h₁.2 rfl⟩
    · exact (h₁.1 rfl).run S₁ fun _ _ M₂ a b c => ⟨M₂, a, k₁.trans b, c⟩)
theorem ts_or {e : Expr} {r : List Expr} {pos} (h : TsP C F e loc M fun b M' => (b = false → TsP C F (.BoolOp .Or r pos) loc M' Q) ∧ (b = true → Q true M')) : TsP C F (.BoolOp .Or (e :: r) pos) loc M Q :=
  fun A B s L nm fa cd cs S => isTrue_or (h.run S fun c s₁ M₁ S₁ k₁ h₁ => by
    cases c
    · exact (h₁.1 rfl).run S₁ fun _ _ M₂ a b c => ⟨M₂, a, k₁.trans b, c⟩
    · exact ⟨M₁, S₁, k₁, h₁.2 rfl⟩)
theorem ts_plain {e : Expr} (he : ∀ env whole, isTrue e env whole = (do let v ← whole; standAt e.pos; holding [v] (truthy v))) (h : EvP C F e loc M fun Z M' => vTruth Z fun b => Q b M') : TsP C F e loc M Q := fun A B s L nm fa cd cs S =>
  isTrue_plain (h.run S fun c s₁ Z M₁ S₁ k₁ d₁ h₁ => by
    obtain ⟨b, rfl, h₁⟩ := h₁.inv
    cases d₁
    exact wpAny_truthy_bool ⟨M₁, S₁, k₁, h₁⟩) (he _ _)
end
section
variable {Q : V → Mm → Prop}
theorem ev_not {e : Expr} {pos} (h : EvP C F e loc M fun Z M' => vTruth Z fun b => Q (.bool (!b)) M') : EvP C F (.UnaryOp .Not e pos) loc M Q := fun A B s L nm fa cd cs S =>
  UnaryOp_ (h.run S fun c s₁ Z M₁ S₁ k₁ d₁ h₁ => not_of (by
    obtain ⟨b, rfl, h₁⟩ := h₁.inv
    cases d₁
    exact wpAny_truthy_bool ⟨.bool _, M₁, S₁, k₁, rfl, h₁⟩))
theorem eval_bo1 {op : BoolOp} {e : Expr} {pos : Pos} {env : Env} : eval (.BoolOp op [e] pos) env = eval e env := by cases op <;> rfl
theorem ev_and1 {op : BoolOp} {e : Expr} {pos} (h : EvP C F e loc M Q) : EvP C F (.BoolOp op [e] pos) loc M Q := fun A B s L nm fa cd cs S => by
  rw [eval_bo1]; exact h A B s L nm fa cd cs S
theorem ev_and {e e₂ : Expr} {r : List Expr} {pos} (h : EvP C F e loc M fun Z M' => vTruth Z fun b => (b = true → EvP C F (.BoolOp .And (e₂ :: r) pos) loc M' Q) ∧ (b = false → Q (.bool false) M')) : EvP C F (.BoolOp .And (e :: e₂ :: r) pos) loc M Q :=
  fun A B s L nm fa cd cs S => BoolOp_and (h.run S fun c s₁ Z M₁ S₁ k₁ d₁ h₁ => by
    obtain ⟨b, rfl, h₁⟩ := h₁.inv
    cases d₁
    cases b <;> refine wpAny_truthy_bool ?_
    · exact ⟨.bool false, M₁, S₁, k₁, rfl, h₁.2 rfl⟩
    · exact (h₁.1 rfl).fin S₁ k₁)
theorem ev_or {e e₂ : Expr} {r : List Expr} {pos} (h : EvP C F e loc M fun Z M' => vTruth Z fun b => (b = false → EvP C F (.BoolOp .Or (e₂ :: r) pos) loc M' Q) ∧ (b = true → Q (.bool true) M')) : EvP C F (.BoolOp .Or (e :: e₂ :: r) pos) loc M Q :=
  fun A B s L nm fa cd cs S => BoolOp_or (h.run S fun c s₁ Z M₁ S₁ k₁ d₁ h₁ => by
    obtain ⟨b, rfl, h₁⟩ := h₁.inv
    cases d₁
    cases b <;> refine wpAny_truthy_bool ?_
    · exact (h₁.1 rfl).fin S₁ k₁
    · exact ⟨.bool true, M₁, S₁, k₁, rfl, h₁.2 rfl⟩)
end
section
variable {Q : Fl → Loc → Mm → Prop}
theorem xs_nil (h : Q .next loc M) : ExsP C F [] loc M Q := fun A B s L nm fa cd cs S => wpAny_execs_nil ⟨.next, loc, M, S, .refl _, rfl, h⟩
-- what follows a statement
noncomputable def go (Q : Fl → Loc → Mm → Prop) (K : Loc → Mm → Prop) : Fl → Loc → Mm → Prop := fun G l M' => match G with
  | .next => K l M'
  | .brk => Q .brk l M'
  | .cont => Q .cont l M'
  | .ret X => Q (.ret X) l M'
theorem xs_cons {st : Stmt} {r : List Stmt} (h : ExP C F st loc M (go Q fun l M' => ExsP C F r l M' Q)) : ExsP C F (st :: r) loc M Q := fun A B s L nm fa cd cs S =>
  wpAny_execs_cons (h.run S fun f s₁ G l₁ M₁ S₁ k₁ d₁ h₁ => by
    cases G with
    | next => cases d₁; exact ExsP.fin h₁ S₁ k₁
    | brk => cases d₁; exact ⟨.brk, l₁, M₁, S₁, k₁, rfl, h₁⟩
    | cont => cases d₁; exact ⟨.cont, l₁, M₁, S₁, k₁, rfl, h₁⟩
    | ret X => obtain ⟨v, rfl, d⟩ := d₁; exact ⟨.ret X, l₁, M₁, S₁, k₁, ⟨v, rfl, d⟩, h₁⟩)
end
end
end Mine

end
section
open PySem PySem.W PyProof.Rows PySem.Calls
set_option Elab.async false
set_option maxRecDepth 100000
set_option linter.all false
namespace Mine
noncomputable section
variable {C : Cx} {F : Fi} {loc : Loc} {M : Mm}
noncomputable def notCall (e : Expr) : Bool := !(Nat.beq e.ctorIdx 16)
theorem base_of {o : Expr} {x : Str} {env : Env} (h : notCall o = true) : attributeBase o x env (eval o env) = eval o env := by
  cases o <;> first | rfl | cases h
noncomputable def noStar (e : Expr) : Bool := !(Nat.beq e.ctorIdx 22)
theorem star_of {e : Expr} {r : List Expr} {env : Env} (h : noStar e = true) : starEach (e :: r) env = (false, eval e env) :: starEach r env := by
  cases e <;> first | rfl | cases h
noncomputable def noComp (e : Expr) : Bool := !(Nat.ble 8 e.ctorIdx && Nat.ble e.ctorIdx 10)
theorem swaps_of {v : Expr} {t : Option Expr} {n : Nat} {env : Env} (h : noComp v = true) : swapsWith v t n env = pure false := by
  cases v <;> first | rfl | cases h
theorem all_head {e : Expr} {r : List Expr} (h : (e :: r).all noStar = true) : noStar e = true := (Bool.and_eq_true_iff.mp h).1
theorem all_tail {e : Expr} {r : List Expr} (h : (e :: r).all noStar = true) : r.all noStar = true := (Bool.and_eq_true_iff.mp h).2
theorem star_any {env : Env} {pos : Pos} : ∀ {es : List Expr}, es.all noStar = true → (backTo pos (starEach es env)).any (·.1) = false
  | [], _ => rfl
  | e :: r, h => by
    rw [star_of (all_head h)]
    show (false || (backTo pos (starEach r env)).any (·.1)) = false
    rw [star_any (all_tail h)]; rfl
theorem star_all {env : Env} {pos : Pos} : ∀ {es : List Expr}, es.all noStar = true → (backTo pos (starEach es env)).all (fun x => !x.1) = true
  | [], _ => rfl
  | e :: r, h => by
    rw [star_of (all_head h)]
    show (true && (backTo pos (starEach r env)).all (fun x => !x.1)) = true
    rw [star_all (all_tail h)]; rfl
-- may be called without a look at another frame
noncomputable def Calm (C : Cx) (f : Value) : Prop := ∀ h, (KT C.w.params).In h → ∃ k, (k = Keeper.frame ∨ k = Keeper.machine ∨ k = Keeper.boundFrame) ∧ Looks (model P0 C.w) h (keeperOf f) k
theorem calm_bi {n : String} : Calm C (.builtin n) := fun h _ => ⟨.machine, .inr (.inl rfl), Looks.of_pure rfl⟩
theorem calm_ty {n : String} : Calm C (.type n) := fun h _ => ⟨.machine, .inr (.inl rfl), Looks.of_pure rfl⟩
theorem calm_in {f : Value} (h : keepIn (KT C.w.params) f = true) : Calm C f := keeps_K h
theorem evalArgs_nil' {Mo : Model} {A : Around} {E : Value → Shared → Prop} {s : Shared} {f : Value} {Q : Args → Shared → Prop} (h : wpAny Mo A (spliced []) (fun vs s' => Q ⟨vs, []⟩ s') E s) : wpAny Mo A (evalArgs f true [] []) Q E s := fun Γ p hΓ => evalArgs_nil3 (show Q ⟨[], []⟩ s from h Γ p hΓ) Γ p hΓ
-- t; none
theorem of_dropped {Mo : Model} {A : Around} {E : Value → Shared → Prop} {s : Shared} {t : Sem Unit} {Q : Value → Shared → Prop} (h : wpAny Mo A (t >>= fun _ => pure Value.none) Q E s) : wpAny Mo A t (fun _ s' => Q .none s') E s := fun Γ p hΓ => by
  have := h Γ p hΓ
  rw [Sem.wp_bind'] at this
  exact Sem.wp_mono Mo Γ _ (fun a p' s' z => by rw [Sem.wp_pure'] at z; exact z) (fun _ _ _ z => z) _ _ this
section
variable {Q : V → Mm → Prop}
theorem callWith_at {A : Around} {B : Base} {L : Addr} {cs : List (Str × Addr)} {s : Shared} {nm fa cd} {f : Value} {first : List Value} {FX : List V} {es : List Expr} {pos : Pos} (hc : Calm C f) (hp : es.all noStar = true)
    (h : EvsP C F es loc M fun Xs M' => OpP C F.k (fun vs => call f vs) (FX ++ Xs) M' Q) (S : St C F A B L cs loc M s) (d : DenL s.heap FX first) :
    wpAny (model P0 C.w) A (callWith pos f first (backTo pos (starEach es (envX nm F.sc L fa cd cs))) []) (Pv C F A B L cs loc s Q) noE s := by
  refine callWith_of (P := fun h => (KT C.w.params).In h) (by rw [star_any hp]; rfl) hc ?_
  have h0 := h.run (nm := nm) (fa := fa) (cd := cd) (pos := pos) S (R := fun vs s₁ => (KT C.w.params).In s₁.heap ∧ wpAny (model P0 C.w) A (call f (first ++ vs) []) (Pv C F A B L cs loc s Q) noE s₁)
    fun vs s₁ Xs M' S₁ k₁ d₁ o => ⟨S₁.rel.kin, o.fin S₁ ((d.keep k₁).append d₁) k₁⟩
  cases es with
  | nil => exact evalArgs_nil' h0
  | cons e r =>
    rw [star_of (all_head hp)] at h0 ⊢
    exact evalArgs_plain h0
-- a call of a name
theorem ev_callN {g : Str} {p pos : Pos} {es : List Expr} (hp : es.all noStar = true)
    (h : EvP C F (.Name g p) loc M fun f M' => ∃ fv, (∀ h, Den h f fv) ∧ (∀ h v, Den h f v → v = fv) ∧ Calm C fv ∧ EvsP C F es loc M' fun Xs M'' => OpP C F.k (fun vs => call fv vs) Xs M'' Q) :
    EvP C F (.Call (.Name g p) es [] pos) loc M Q := fun A B s L nm fa cd cs S =>
  Call_Name rfl (h.run S fun f s₁ X M₁ S₁ k₁ d₁ z => by
    obtain ⟨fv, _, he, hc, h₁⟩ := z
    cases he _ _ d₁
    exact wpAny_mono (callWith_at (FX := []) hc hp h₁ S₁ .nil) (fun _ _ z => z.tr k₁) fun _ _ x => x)
-- what the look for a method gives
noncomputable def MetP (C : Cx) (k : Nat) (x : Str) (X : V) (M : Mm) (f : Value) (FX : List V) : Prop :=
  ∀ (A : Around) (B : Base) (s : Shared) (v : Value) (pl : Sem Bool), Aok k A → Rel C B M s → Den s.heap X v → Calm C f ∧
    ∀ R : Value × List Value → Shared → Prop, (∀ vs, DenL s.heap FX vs → R (f, vs) s) → wpAny (model P0 C.w) A (getMethod v x pl) R noE s
theorem ev_callM {o : Expr} {x : Str} {p pos : Pos} {es : List Expr} (ho : notCall o = true) (hp : es.all noStar = true) (hn : es.length < 30) (hl : (p.endLine == pos.line) = true)
    (h : EvP C F o loc M fun X M' => ∃ f FX, MetP C F.k x X M' f FX ∧ EvsP C F es loc M' fun Xs M'' => OpP C F.k (fun vs => call f vs) (FX ++ Xs) M'' Q) :
    EvP C F (.Call (.Attribute o x p) es [] pos) loc M Q := fun A B s L nm fa cd cs S => by
  rw [arm_eval_Call, base_of ho]
  refine wpAny_bind (h.run S fun v s₁ X M₁ S₁ k₁ d₁ z => ?_)
  obtain ⟨f, FX, hm, h₁⟩ := z
  refine wpAny_bind (wpAny_standAt ?_)
  have hform : methodCallForm (es.length + ([] : List Keyword).length) (backTo pos (starEach es (envX nm F.sc L fa cd cs))) (backToKw pos (keywordEach [] (envX nm F.sc L fa cd cs))) = true := by
    unfold methodCallForm
    rw [star_all hp]
    show (true && true && decide (es.length + 0 + 0 < 30)) = true
    simp [hn]
  have hpos : methodCallPos true o (envX nm F.sc L fa cd cs) p pos = pure pos := by unfold methodCallPos; simp [hl]
  unfold methodCall
  rw [hform]
  obtain ⟨hc, hg⟩ := hm A B s₁ v (do return (← importBound o (envX nm F.sc L fa cd cs)).getD true) S₁.aok S₁.rel d₁
  refine wpAny_bind (wpAny_holding ?_)
  refine hg _ fun vs dv => ?_
  exact wpAny_bind (wpAny_of_eq hpos (wpAny_mono (callWith_at hc hp h₁ S₁ dv) (fun _ _ z => z.tr k₁) fun _ _ x => x))
-- an attribute's look
theorem ev_attr {o : Expr} {x : Str} {p : Pos} (ho : notCall o = true) (h : EvP C F o loc M fun X M' => OpP C F.k (fun vs => match vs with | [a] => getAttr a x true | _ => Sem.pure .none) [X] M' Q) : EvP C F (.Attribute o x p) loc M Q :=
  fun A B s L nm fa cd cs S => by
  rw [arm_eval_Attribute, base_of ho]
  refine wpAny_bind (h.run S fun v s₁ X M₁ S₁ k₁ d₁ h₁ => ?_)
  refine wpAny_bind (wpAny_standAt (wpAny_bind (wpAny_holding (h₁.run S₁ (vs := [v]) (.cons d₁ .nil) fun r s₂ Y M₂ S₂ k₂ d₂ q => ?_))))
  exact wpAny_bind (wpAny_letTemporaryGo (wpAny_pure ⟨Y, M₂, S₂, k₁.trans k₂, d₂, q⟩))
-- a subscript's look
noncomputable def notSlice (e : Expr) : Bool := !(Nat.beq e.ctorIdx 26)
theorem subscripted_of {e : Expr} {o i : Value} (h : notSlice e = true) : subscripted e false o i = operate [o, i] (getItem o i) := by
  cases e <;> first | rfl | cases h
noncomputable def SubP (C : Cx) (k : Nat) (X Y : V) (M : Mm) (Q : V → Mm → Prop) : Prop :=
  OpP C k (fun vs => match vs with | [a, b] => getItem a b | _ => Sem.pure .none) [X, Y] M Q ∧
    ∀ B s v, Rel C B M s → Den s.heap X v → ∃ T id, s.TypeIs v T ∧ typeLookup (.type T) "__getitem__" = pure (some (.builtin id))
theorem ev_sub {o i : Expr} {p : Pos} (hi : notSlice i = true) (h : EvP C F o loc M fun X M' => EvP C F i loc M' fun Y M'' => SubP C F.k X Y M'' Q) : EvP C F (.Subscript o i p) loc M Q :=
  fun A B s L nm fa cd cs S => Subscript_ (h.run S fun a s₁ X M₁ S₁ k₁ d₁ h₁ => h₁.run S₁ fun b s₂ Y M₂ S₂ k₂ d₂ h₂ => by
    obtain ⟨T, id, hT, hl⟩ := h₂.2 B s₂ a S₂.rel (d₁.keep k₂ X)
    exact tail_any hT hl (h₂.1.fin S₂ (vs := [a, b]) (.cons (d₁.keep k₂ X) (.cons d₂ .nil)) (k₁.trans k₂)) (subscripted_of hi))
-- [:n]
noncomputable def CutP (C : Cx) (k : Nat) (X Y : V) (M : Mm) (Q : V → Mm → Prop) : Prop :=
  ∀ (A : Around) (B : Base) (s : Shared) (a b : Value) (sl : Addr), Aok k A → Rel C B M s → Den s.heap X a → Den s.heap Y b → s.heap.IsSliceOf sl .none b .none →
    (∃ T id, s.TypeIs a T ∧ typeLookup (.type T) "__getitem__" = pure (some (.builtin id))) ∧
    wpAny (model P0 C.w) A (getItem a (.ref sl)) (fun v s' => ∃ X M', Rel C B M' s' ∧ KeepT s.heap s'.heap ∧ Den s'.heap X v ∧ Q X M') noE s
theorem ev_cut {o i : Expr} {p p' : Pos} (h : EvP C F o loc M fun X M' => EvP C F i loc M' fun Y M'' => CutP C F.k X Y M'' Q) : EvP C F (.Subscript o (.Slice none (some i) none p) p') loc M Q :=
  fun A B s L nm fa cd cs S => Subscript_ (h.run S fun a s₁ X M₁ S₁ k₁ d₁ h₁ => by
    refine wpAny_Slice ?_
    refine wpAny_pure (a := Value.none) ?_
    refine h₁.run S₁ fun b s₂ Y M₂ S₂ k₂ d₂ h₂ => ?_
    refine wpAny_pure (a := Value.none) ?_
    have k₃ : KeepT s₂.heap (s₂.heap.push { cls := .type "slice", data := .fields #[Value.none, b, Value.none] }) := .of push_keep
    have S₃ := S₂.grow (h' := s₂.heap.push { cls := .type "slice", data := .fields #[Value.none, b, Value.none] }) push_keep s₂.toks
    obtain ⟨⟨T, id, hT, hl⟩, hg⟩ := h₂ A _ _ a b s₂.heap.objs.size S₃.aok S₃.rel.rest ((d₁.keep k₂ X).keep k₃ X) (d₂.keep k₃ Y) (Heap.IsSliceOf.new ..)
    refine tail_any hT hl (wpAny_mono hg (fun v s' z => ?_) fun _ _ x => x) rfl
    obtain ⟨Z, M', r, k, dv, q⟩ := z
    exact ⟨Z, M', S₃.back r k, ((k₁.trans k₂).trans k₃).trans k, dv, q⟩)
end
section
variable {Q : Fl → Loc → Mm → Prop}
theorem St.store {E : Value → Shared → Prop} {A : Around} {B : Base} {L : Addr} {cs : List (Str × Addr)} {s : Shared} {nm fa cd} {x : Str} {X : V} {v : Value} {R : Unit → Shared → Prop} (S : St C F A B L cs loc M s) (d : Den s.heap X v) (hk : F.sc.names.lookup x = some .local)
    (h : ∀ s', St C F A B L cs (Mine.st x X loc) M s' → KeepT s.heap s'.heap → R () s') : wpAny (model P0 C.w) A (storeName (envX nm F.sc L fa cd cs) x v) R E s := by
  obtain ⟨m, hn, hm⟩ := id S.frm.ns
  refine wpAny_storeName_local hk hn (fun h' hn' hs => ?_) ?_
  · obtain ⟨S', k⟩ := S.local (x := x) d hs (fun m' hm' => by
      have e : (fun y => if y = x then some v else m' y) = fun y => if y = x then some v else m y := by
        obtain ⟨o, es, ep, ho, hd, _, hf⟩ := hm'
        obtain ⟨o', es', ep', ho', hd', _, hf'⟩ := hn
        rw [ho] at ho'; cases ho'; rw [hd] at hd'; cases hd'
        funext y
        have : m' y = m y := by rw [← hf y, ← hf' y]
        rw [this]
      rw [e]; exact hn') (s.toks + 1)
    exact h _ S' k
  · show (F.sc.kind == .class || (F.sc.kind == .module && L != mainGlobals)) = false
    rw [S.knd]; rfl
theorem x_name {x : Str} {v : Expr} {p pos : Pos} (hv : noComp v = true) (hk : F.sc.names.lookup x = some .local) (h : EvP C F v loc M fun X M' => Q .next (Mine.st x X loc) M') : ExP C F (.Assign [.Name x p] v pos) loc M Q :=
  fun A B s L nm fa cd cs S => wpAny_Assign_Name (h.run S fun a s₁ X M₁ S₁ k₁ d₁ h₁ => S₁.store d₁ hk fun s' S' k' => ⟨.next, _, M₁, S', k₁.trans k', rfl, h₁⟩) (swaps_of hv)
theorem x_aug {x : Str} {op : Operator} {v : Expr} {p pos : Pos} {X : V} (hl : lk x loc = some X) (hk : F.sc.names.lookup x = some .local)
    (h : EvP C F v loc M fun Y M' => OpP C F.k (fun vs => match vs with | [a, b] => inplaceOp op a b | _ => Sem.pure .none) [X, Y] M' fun Z M'' => Q .next (Mine.st x Z loc) M'') : ExP C F (.AugAssign (.Name x p) op v pos) loc M Q :=
  fun A B s L nm fa cd cs S => wpAny_AugAssign_Name (by
    obtain ⟨m, hn, hm⟩ := S.frm.ns
    obtain ⟨a, ha, da⟩ := hm x X hl
    refine wpAny_loadName_local S.knd hk hn ha ?_
    refine h.run S fun b s₁ Y M₁ S₁ k₁ d₁ h₁ => h₁.run S₁ (vs := [a, b]) (.cons (da.keep k₁ X) (.cons d₁ .nil)) fun c s₂ Z M₂ S₂ k₂ d₂ h₂ => ?_
    exact S₂.store d₂ hk fun s' S' k' => ⟨.next, _, M₂, S', (k₁.trans k₂).trans k', rfl, h₂⟩)
theorem x_expr {v : Expr} {pos : Pos} (hv : noComp v = true) (h : EvP C F v loc M fun X M' => Q .next loc M') : ExP C F (.Expr v pos) loc M Q :=
  fun A B s L nm fa cd cs S => wpAny_Expr_any (h.run S fun a s₁ X M₁ S₁ k₁ d₁ h₁ => ⟨.next, loc, M₁, S₁, k₁, rfl, h₁⟩)
    (by show (F.sc.kind == .module && _) = false; rw [S.knd]; rfl) (swaps_of hv)
theorem x_ret {v : Expr} {pos : Pos} (h : EvP C F v loc M fun X M' => Q (.ret X) loc M') : ExP C F (.Return (some v) pos) loc M Q :=
  fun A B s L nm fa cd cs S => wpAny_Return_some (h.run S fun a s₁ X M₁ S₁ k₁ d₁ h₁ => ⟨.ret X, loc, M₁, S₁, k₁, ⟨a, rfl, d₁⟩, h₁⟩)
theorem x_ret0 {pos : Pos} (h : Q (.ret .none) loc M) : ExP C F (.Return none pos) loc M Q :=
  fun A B s L nm fa cd cs S => wpAny_Return_none ⟨.ret .none, loc, M, S, .refl _, ⟨_, rfl, rfl⟩, h⟩
theorem x_cont {pos : Pos} (h : Q .cont loc M) : ExP C F (.Continue pos) loc M Q :=
  fun A B s L nm fa cd cs S => wpAny_Continue ⟨.cont, loc, M, S, .refl _, rfl, h⟩
theorem x_pass {pos : Pos} (h : Q .next loc M) : ExP C F (.Pass pos) loc M Q :=
  fun A B s L nm fa cd cs S => wpAny_Pass ⟨.next, loc, M, S, .refl _, rfl, h⟩
theorem x_if {t : Expr} {b o : List Stmt} {pos : Pos} (h : TsP C F t loc M fun c M' => (c = true → ExsP C F b loc M' Q) ∧ (c = false → ExsP C F o loc M' Q)) : ExP C F (.If t b o pos) loc M Q :=
  fun A B s L nm fa cd cs S => wpAny_If (h.run S fun c s₁ M₁ S₁ k₁ h₁ => by
    cases c
    · exact (h₁.2 rfl).fin S₁ k₁
    · exact (h₁.1 rfl).fin S₁ k₁)
-- an operation whose value is dropped
theorem x_setAttr {o v : Expr} {x : Str} {p pos : Pos} (hv : noComp v = true)
    (h : EvP C F v loc M fun X M' => EvP C F o loc M' fun O M'' => OpP C F.k (fun vs => match vs with | [a, b] => setAttr b x a >>= fun _ => pure .none | _ => Sem.pure .none) [X, O] M'' fun _ M₃ => Q .next loc M₃) : ExP C F (.Assign [.Attribute o x p] v pos) loc M Q :=
  fun A B s L nm fa cd cs S => plainObj_wpAny_Assign_Attribute (h.run S fun a s₁ X M₁ S₁ k₁ d₁ h₁ => h₁.run S₁ fun b s₂ Y M₂ S₂ k₂ d₂ h₂ =>
    of_dropped (Q := fun _ => Pf C F A B L cs s Q .next) (h₂.run S₂ (vs := [a, b]) (.cons (d₁.keep k₂ X) (.cons d₂ .nil)) fun _ s₃ Z M₃ S₃ k₃ d₃ h₃ => ⟨.next, loc, M₃, S₃, (k₁.trans k₂).trans k₃, rfl, h₃⟩)) (swaps_of hv)
theorem x_setItem {o i v : Expr} {p pos : Pos} (hv : noComp v = true)
    (h : EvP C F v loc M fun X M' => EvP C F o loc M' fun O M'' => EvP C F i loc M'' fun I M₃ => OpP C F.k (fun vs => match vs with | [a, b, c] => setItem b c a >>= fun _ => pure .none | _ => Sem.pure .none) [X, O, I] M₃ fun _ M₄ => Q .next loc M₄) : ExP C F (.Assign [.Subscript o i p] v pos) loc M Q :=
  fun A B s L nm fa cd cs S => wpAny_Assign_Subscript (h.run S fun a s₁ X M₁ S₁ k₁ d₁ h₁ => h₁.run S₁ fun b s₂ Y M₂ S₂ k₂ d₂ h₂ => h₂.run S₂ fun c s₃ I M₃ S₃ k₃ d₃ h₃ =>
    of_dropped (Q := fun _ => Pf C F A B L cs s Q .next) (h₃.run S₃ (vs := [a, b, c]) (.cons (d₁.keep (k₂.trans k₃) X) (.cons (d₂.keep k₃ Y) (.cons d₃ .nil))) fun _ s₄ Z M₄ S₄ k₄ d₄ h₄ => ⟨.next, loc, M₄, S₄, ((k₁.trans k₂).trans k₃).trans k₄, rfl, h₄⟩)) (swaps_of hv)
end
end
end Mine

end
section
open PySem PySem.W PyProof.Rows PySem.Calls
set_option Elab.async false
set_option maxRecDepth 100000
set_option linter.all false
namespace Mine
noncomputable section
variable {C : Cx} {F : Fi} {loc : Loc} {M : Mm} {Q : Fl → Loc → Mm → Prop}
-- how a loop's turn ends
noncomputable def turnQ (Q : Fl → Loc → Mm → Prop) (N : Loc → Mm → Prop) : Fl → Loc → Mm → Prop := fun G l M' => match G with
  | .next => N l M'
  | .cont => N l M'
  | .brk => Q .next l M'
  | .ret X => Q (.ret X) l M'
theorem turnQ.mono {Q : Fl → Loc → Mm → Prop} {N N' : Loc → Mm → Prop} {G : Fl} {l : Loc} {M : Mm} (h : turnQ Q N G l M) (k : N l M → N' l M) : turnQ Q N' G l M := by
  cases G <;> first | exact k h | exact h
theorem x_while {t : Expr} {b : List Stmt} {pos : Pos} (W : Nat → Loc → Mm → Prop) (h0 : ∃ n, W n loc M)
    (turn : ∀ n l M', W n l M' → TsP C F t l M' fun c M'' => (c = true → ExsP C F b l M'' (turnQ Q fun l' M₃ => ∃ m l'', m < n ∧ (∀ x X, lk x l'' = some X → lk x l' = some X) ∧ W m l'' M₃)) ∧ (c = false → Q .next l M'')) : ExP C F (.While t b [] pos) loc M Q :=
  fun A B s L nm fa cd cs S => wpAny_While (by
    obtain ⟨n, hW⟩ := h0
    refine codeAny_whileLoop (I := fun n s' => ∃ l M', W n l M' ∧ St C F A B L cs l M' s' ∧ KeepT s.heap s'.heap) (fun n s₁ z => ?_) n ⟨loc, M, hW, S, .refl _⟩
    obtain ⟨l, M₁, w, S₁, k₁⟩ := z
    refine (turn n l M₁ w).run S₁ fun c s₂ M₂ S₂ k₂ h₂ => ?_
    cases c
    · exact wpAny_execs_nil ⟨.next, l, M₂, S₂, k₁.trans k₂, rfl, h₂.2 rfl⟩
    · refine (h₂.1 rfl).run S₂ fun f s₃ G l₃ M₃ S₃ k₃ d₃ h₃ => ?_
      cases G with
      | next => cases d₃; obtain ⟨m, l', hm, hl, w'⟩ := h₃; exact ⟨m, hm, l', M₃, w', S₃.less hl, (k₁.trans k₂).trans k₃⟩
      | cont => cases d₃; obtain ⟨m, l', hm, hl, w'⟩ := h₃; exact ⟨m, hm, l', M₃, w', S₃.less hl, (k₁.trans k₂).trans k₃⟩
      | brk => cases d₃; exact ⟨.next, l₃, M₃, S₃, (k₁.trans k₂).trans k₃, rfl, h₃⟩
      | ret X => obtain ⟨v, rfl, d⟩ := d₃; exact ⟨.ret X, l₃, M₃, S₃, (k₁.trans k₂).trans k₃, ⟨v, rfl, d⟩, h₃⟩)
theorem x_less {st : Stmt} {loc' : Loc} (hl : ∀ x X, lk x loc' = some X → lk x loc = some X) (h : ExP C F st loc' M Q) : ExP C F st loc M Q :=
  fun A B s L nm fa cd cs S => h A B s L nm fa cd cs (S.less hl)

-- one more object that stays: an iterator
noncomputable def Bw (B : Base) (it : Addr) (o : Obj) : Base := fun b q => B b q ∨ (b = it ∧ q = o)
section
variable {A : Around} {B : Base} {L : Addr} {cs : List (Str × Addr)} {s : Shared} {it : Addr} {o : Obj}
theorem Rel.notIt (R : Rel C (Bw B it o) M s) : M it = none := by
  cases q : M it with
  | none => rfl
  | some x => exact absurd (Or.inr ⟨rfl, rfl⟩) (R.apart it x q o)
-- the iterator comes to be
theorem St.iter (S : St C F A B L cs loc M s) (o : Obj) (hf : o.isFreed = false) (t : Nat) : St C F A (Bw B s.heap.objs.size o) L cs loc M { s with heap := s.heap.push o, toks := t } := by
  have G := S.grow (h' := s.heap.push o) push_keep t
  have fr := S.rel.fresh
  refine ⟨G.aok, ⟨fun b q e => .inl (G.rel.low b q e), fun b q e => ?_, G.rel.own, fun a x e q z => ?_, G.rel.os, G.rel.gens, G.rel.one⟩, ⟨G.frm.ns, G.frm.free, fun q z => ?_⟩, fun x X e => ?_, G.knd⟩
  · rcases e with e | ⟨rfl, rfl⟩
    · exact G.rel.base b q e
    · exact Heap.get?_push_size _ hf
  · rcases z with z | ⟨rfl, rfl⟩
    · exact G.rel.apart a x e q z
    · rw [fr.1] at e; cases e
  · rcases z with z | ⟨rfl, rfl⟩
    · exact G.frm.out q z
    · obtain ⟨⟨m, ⟨ob, _, _, ho, _⟩, _⟩, _, _⟩ := S.frm
      exact absurd (Heap.lt_size ho) (Nat.lt_irrefl _)
  · obtain ⟨ca, v, ob, a, b, c, d⟩ := G.cel x X e
    exact ⟨ca, v, ob, a, .inl b, c, d⟩
theorem keepT_it {h h' : Heap} (ho : h.get? it = some o) (hc : ¬ o.cls = .type "tuple") (hs : Heap.ExtBut it h h') : KeepT h h' := fun a vs x => by
  obtain ⟨o', ho', hc', r⟩ := x
  have ne : a ≠ it := by rintro rfl; rw [ho] at ho'; cases ho'; exact hc hc'
  exact ⟨o', hs a o' ne ho', hc', r⟩
-- the iterator is let go
theorem St.letGo (S₀ : St C F A B L cs loc' M' s₀) (hB : ∀ q, ¬ B it q) (S : St C F A (Bw B it o) L cs loc M s) (hc : ¬ o.cls = .type "tuple") {h' : Heap} (hs : Heap.ExtBut it s.heap h') (k : KeepT s₀.heap s.heap) (t : Nat) :
    St C F A B L cs loc M { s with heap := h', toks := t } ∧ KeepT s.heap h' := by
  have k' := keepT_it (S.rel.base it o (.inr ⟨rfl, rfl⟩)) hc hs
  have nB : ∀ b q, B b q → b ≠ it := fun b q e z => hB q (z ▸ e)
  have mI := S.rel.notIt
  refine ⟨⟨S.aok, ⟨S₀.rel.low, fun b q e => hs b q (nB b q e) (S.rel.base b q (.inl e)), fun a x e => ?_, fun a x e q z => S.rel.apart a x e q (.inl z), S.rel.os, S.rel.gens, S.rel.one⟩, ?_, S₀.celK (k.trans k'), S.knd⟩, k'⟩
  · have ne : a ≠ it := by rintro rfl; rw [mI] at e; cases e
    exact (S.rel.own a x e).keep k' fun q hq => hs a q ne hq
  · obtain ⟨⟨m, ⟨oL, es, ep, ho, r⟩, hm⟩, f, ou⟩ := S.frm
    have ne : L ≠ it := by rintro rfl; exact ou o (.inr ⟨rfl, rfl⟩)
    exact ⟨⟨m, ⟨oL, es, ep, hs L oL ne ho, r⟩, fun x X e => let ⟨v, a, d⟩ := hm x X e; ⟨v, a, d.keep k' X⟩⟩, f, fun q z => ou q (.inl z)⟩
-- the iterator goes on
theorem St.goOn (S₀ : St C F A B L cs loc' M' s₀) (hB : ∀ q, ¬ B it q) (S : St C F A (Bw B it o) L cs loc M s) (hc : ¬ o.cls = .type "tuple") {h' : Heap} {o' : Obj} (hs : Heap.SameBut it s.heap h') (ho : h'.get? it = some o') (k : KeepT s₀.heap s.heap) (t : Nat) :
    St C F A (Bw B it o') L cs loc M { s with heap := h', toks := t } ∧ KeepT s.heap h' := by
  have k' := keepT_it (S.rel.base it o (.inr ⟨rfl, rfl⟩)) hc hs.extBut
  have nB : ∀ b q, B b q → b ≠ it := fun b q e z => hB q (z ▸ e)
  have mI := S.rel.notIt
  have oI : it ≠ L := by rintro rfl; exact S.frm.out o (.inr ⟨rfl, rfl⟩)
  refine ⟨⟨S.aok, ⟨fun b q e => ?_, fun b q e => ?_, fun a x e => ?_, fun a x e q z => ?_, S.rel.os, S.rel.gens, S.rel.one⟩, ?_, fun x X e => ?_, S.knd⟩, k'⟩
  · exact .inl (S₀.rel.low b q e)
  · rcases e with e | ⟨rfl, rfl⟩
    · exact hs.extBut b q (nB b q e) (S.rel.base b q (.inl e))
    · exact ho
  · have ne : a ≠ it := by rintro rfl; rw [mI] at e; cases e
    exact (S.rel.own a x e).keep k' fun q hq => hs.extBut a q ne hq
  · rcases z with z | ⟨rfl, rfl⟩
    · exact S.rel.apart a x e q (.inl z)
    · rw [mI] at e; cases e
  · obtain ⟨⟨m, ⟨oL, es, ep, ho, r⟩, hm⟩, f, ou⟩ := S.frm
    exact ⟨⟨m, ⟨oL, es, ep, hs.extBut L oL (Ne.symm oI) ho, r⟩, fun x X e => let ⟨v, a, d⟩ := hm x X e; ⟨v, a, d.keep k' X⟩⟩, f, fun q z => z.elim (fun z => ou q (.inl z)) fun z => oI z.1.symm⟩
  · obtain ⟨ca, v, ob, a, b, c, d⟩ := S₀.celK (k.trans k') x X e
    exact ⟨ca, v, ob, a, .inl b, c, d⟩

-- a draw of one item after the other
structure Drw (C : Cx) (k : Nat) (it : Addr) (items : List V) (J : Nat → Obj → Prop) (Ok : Heap → Prop) : Prop where
  cls : ∀ i o, J i o → ¬ o.cls = .type "tuple"
  next : ∀ (A : Around) (s : Shared) (i : Nat) (x : V) (o : Obj), Aok k A → s.heap.get? it = some o → J i o → Ok s.heap → items[i]? = some x → ∀ (R : Option Value → Shared → Prop) (E : Value → Shared → Prop),
    (∀ h' o' t v, h'.get? it = some o' → J (i + 1) o' → Heap.SameBut it s.heap h' → Den s.heap x v → R (some v) { s with heap := h', toks := t }) → wpAny (model P0 C.w) A (pyNext (.ref it)) R E s
  last : ∀ (A : Around) (s : Shared) (i : Nat) (o : Obj), Aok k A → s.heap.get? it = some o → J i o → Ok s.heap → items[i]? = none → ∀ (R : Option Value → Shared → Prop) (E : Value → Shared → Prop),
    (∀ h' t, Heap.ExtBut it s.heap h' → R none { s with heap := h', toks := t }) → wpAny (model P0 C.w) A (pyNext (.ref it)) R E s
theorem dec_ {n i l : Nat} (h : n + i = l + 1) (hi : i ≤ l) : l - i < n := by omega
theorem dec_' {i l : Nat} (hi : i ≤ l) : l - i + (i + 1) = l + 1 := by omega
theorem for_gen {x : Str} {px : Pos} {b : List Stmt} {items : List V} {J : Nat → Obj → Prop} {Ok : Heap → Prop} {nm fa cd} (D : Drw C F.k it items J Ok) (S₀ : St C F A B L cs loc M s₀) (hB : ∀ q, ¬ B it q)
    (hk : F.sc.names.lookup x = some .local) (W : Nat → Loc → Mm → Prop)
    (okW : ∀ i l M', W i l M' → ∀ B' s', Rel C B' M' s' → KeepT s₀.heap s'.heap → Ok s'.heap)
    (turn : ∀ i X l M', items[i]? = some X → W i l M' → ExsP C F b (Mine.st x X l) M' (turnQ Q fun l' M₃ => ∃ l'', (∀ x X, lk x l'' = some X → lk x l' = some X) ∧ W (i + 1) l'' M₃))
    (fin : ∀ l M', W items.length l M' → Q .next l M') {s₁ : Shared} (o₁ : Obj) {loc₁ : Loc} {M₁ : Mm} (hW : W 0 loc₁ M₁) (hJ : J 0 o₁) (S₁ : St C F A (Bw B it o₁) L cs loc₁ M₁ s₁) (k₁ : KeepT s₀.heap s₁.heap) {R : Result → Shared → Prop}
    (hR : ∀ f s', Pf C F A B L cs s₀ Q f s' → R (.ok f) s') :
    codeAny (model P0 C.w) A (.forLoop (.Name x px) (.ref it) b [] (envX nm F.sc L fa cd cs)) R s₁ := by
  refine codeAny_forLoop (I := fun n s' => ∃ i o' l M', n + i = items.length + 1 ∧ W i l M' ∧ i ≤ items.length ∧ J i o' ∧ St C F A (Bw B it o') L cs l M' s' ∧ KeepT s₀.heap s'.heap) (fun n s' z => ?_)
    (items.length + 1) ⟨0, o₁, loc₁, M₁, rfl, hW, Nat.zero_le _, hJ, S₁, k₁⟩
  obtain ⟨i, o', l, M', hn, w, hi, j, S', k'⟩ := z
  have ho := S'.rel.base it o' (.inr ⟨rfl, rfl⟩)
  have hOk := okW i l M' w _ _ S'.rel k'
  cases hx : items[i]? with
  | none =>
    cases Nat.le_antisymm hi (List.getElem?_eq_none_iff.mp hx)
    refine D.last A s' _ o' S₀.aok ho j hOk hx _ _ fun h' t e => ?_
    obtain ⟨S'', k''⟩ := S₀.letGo hB S' (D.cls _ _ j) e k' t
    exact wpAny_execs_nil (hR _ _ ⟨.next, l, M', S'', k'.trans k'', rfl, fin l M' w⟩)
  | some X =>
    have hlt : i < items.length := (List.getElem?_eq_some_iff.mp hx).1
    refine D.next A s' i X o' S₀.aok ho j hOk hx _ _ fun h' o'' t v ho'' j'' hs dv => ?_
    obtain ⟨S'', k''⟩ := S₀.goOn hB S' (D.cls _ _ j) hs ho'' k' t
    refine wpAny_assign_Name (S''.store (nm := nm) (fa := fa) (cd := cd) (dv.keep k'' X) hk fun s₃ S₃ k₃ => ?_)
    refine (turn i X l M' hx w).run S₃ fun f s₄ G l₄ M₄ S₄ k₄ d₄ h₄ => ?_
    have kk := ((k'.trans k'').trans k₃).trans k₄
    have back : ∀ {l M'}, St C F A (Bw B it o'') L cs l M' s₄ → St C F A B L cs l M' s₄ := fun S => (S₀.letGo hB S (D.cls _ _ j'') (fun _ _ _ e => e) kk s₄.toks).1
    cases G with
    | next => cases d₄; obtain ⟨l', hl, w'⟩ := h₄; exact ⟨items.length - i, dec_ hn hi, i + 1, o'', l', M₄, dec_' hi, w', hlt, j'', S₄.less hl, kk⟩
    | cont => cases d₄; obtain ⟨l', hl, w'⟩ := h₄; exact ⟨items.length - i, dec_ hn hi, i + 1, o'', l', M₄, dec_' hi, w', hlt, j'', S₄.less hl, kk⟩
    | brk => cases d₄; exact hR _ _ ⟨.next, l₄, M₄, back S₄, kk, rfl, h₄⟩
    | ret X => obtain ⟨v, rfl, d⟩ := d₄; exact hR _ _ ⟨.ret X, l₄, M₄, back S₄, kk, ⟨v, rfl, d⟩, h₄⟩
end
theorem drw_list {k : Nat} {it l : Addr} {items : List V} : Drw C k it items (fun i o => o.cls = .type "list_iterator" ∧ o.data = .fields #[.ref l, .int i 0]) (fun h => ∃ vs : List Value, h.IsList l vs.toArray ∧ DenL h items vs) where
  cls := fun i o h e => by rw [h.1] at e; simp at e
  next := fun A s i x o a ho j z hx R E hR => by
    obtain ⟨vs, hl, d⟩ := z
    obtain ⟨v, hv, dv⟩ := d.get hx
    refine wpAny_pyNext_list_item (i := i) ⟨o, ho, j⟩ hl (by simpa using hv) fun h' ⟨o', ho', j'⟩ hs => hR h' o' s.toks v ho' j' hs dv
  last := fun A s i o a ho j z hx R E hR => by
    obtain ⟨vs, hl, d⟩ := z
    refine wpAny_pyNext_list_end (i := i) a.1 ⟨o, ho, j⟩ hl ?_ fun h' hs => hR h' s.toks hs
    have := List.getElem?_eq_none_iff.mp hx
    simp [d.length, this]
theorem drw_tup {k : Nat} {it l : Addr} {items : List V} : Drw C k it items (fun i o => o.cls = .type "tuple_iterator" ∧ o.data = .fields #[.ref l, .int i 0]) (fun h => ∃ vs : List Value, IsTup h l vs.toArray ∧ DenL h items vs) where
  cls := fun i o h e => by rw [h.1] at e; simp at e
  next := fun A s i x o a ho j z hx R E hR => by
    obtain ⟨vs, hl, d⟩ := z
    obtain ⟨v, hv, dv⟩ := d.get hx
    refine wpAny_pyNext_tuple_item (i := i) ⟨o, ho, j⟩ hl (by simpa using hv) fun h' ⟨o', ho', j'⟩ hs => hR h' o' s.toks v ho' j' hs dv
  last := fun A s i o a ho j z hx R E hR => by
    obtain ⟨vs, hl, d⟩ := z
    refine wpAny_pyNext_tuple_end (i := i) a.1 ⟨o, ho, j⟩ hl ?_ fun h' hs => hR h' s.toks hs
    have := List.getElem?_eq_none_iff.mp hx
    simp [d.length, this]
noncomputable def rngL (a c : Int) (n : Nat) : List V := (List.range n).map fun i : Nat => V.int (a + i * c)
theorem rngL_get {a c : Int} {n i : Nat} {x : V} (h : (rngL a c n)[i]? = some x) : i < n ∧ x = .int (a + i * c) := by
  unfold rngL at h
  rw [List.getElem?_map] at h
  obtain ⟨j, hj, rfl⟩ := Option.map_eq_some_iff.mp h
  obtain ⟨h1, h2⟩ := List.getElem?_eq_some_iff.mp hj
  rw [List.length_range] at h1
  simp at h2; subst h2
  exact ⟨h1, rfl⟩
theorem drw_rng {k : Nat} {it : Addr} {a c : Int} {n : Nat} : Drw C k it (rngL a c n) (fun i o => o = { cls := .type "range_iterator", data := .fields #[rawInt (a + i * c), rawInt ((n : Int) - i), rawInt c] }) (fun h => True) where
  cls := fun i o h e => by rw [h] at e; simp at e
  next := fun A s i x o ha ho j _ hx R E hR => by
    obtain ⟨h1, rfl⟩ := rngL_get hx
    subst j
    refine wpAny_pyNext_range_item (x := a + i * c) (left := (n : Int) - i) (step := c) ho (by omega) fun h' hi hs => hR h' _ _ _ hi ?_ hs ⟨_, rfl⟩
    have e1 : a + i * c + c = a + ((i + 1 : Nat) : Int) * c := by rw [Int.natCast_add, Int.add_mul]; omega
    have e2 : (n : Int) - i - 1 = (n : Int) - ((i + 1 : Nat) : Int) := by omega
    rw [e1, e2]
  last := fun A s i o ha ho j _ hx R E hR => by
    subst j
    have h2 := List.getElem?_eq_none_iff.mp hx
    simp only [rngL, List.length_map, List.length_range] at h2
    exact wpAny_pyNext_range_end ha.1 ho (by omega) fun h' hs => hR h' s.toks hs
section
variable {b : List Stmt} {x : Str} {e : Expr} {px pos : Pos}
noncomputable def notSet (e : Expr) : Bool := !(Nat.beq e.ctorIdx 7)
theorem fold_of {e : Expr} (h : notSet e = true) {env : Env} {x : Value} : foldedSetIterable e env x = pure x := by
  cases e <;> first | rfl | cases h
-- over a list that stays, or over a tuple
noncomputable def ForL (C : Cx) (F : Fi) (x : Str) (b : List Stmt) (src : V) (loc : Loc) (M : Mm) (Q : Fl → Loc → Mm → Prop) : Prop :=
  ∃ (items : List V) (W : Nat → Loc → Mm → Prop), (∃ l₀, (∀ x X, lk x l₀ = some X → lk x loc = some X) ∧ W 0 l₀ M) ∧
    (match src with
      | .tup l => items = l
      | .ref a => ∀ i l' M', W i l' M' → M' a = some (.list items)
      | _ => False) ∧
    (∀ i X l' M', items[i]? = some X → W i l' M' → ExsP C F b (Mine.st x X l') M' (turnQ Q fun l₃ M₃ => ∃ l'', (∀ x X, lk x l'' = some X → lk x l₃ = some X) ∧ W (i + 1) l'' M₃)) ∧
    (∀ l' M', W items.length l' M' → Q .next l' M')
theorem x_for (he : notSet e = true) (hk : F.sc.names.lookup x = some .local) (h : EvP C F e loc M fun X M' => ForL C F x b X loc M' Q) : ExP C F (.For (.Name x px) e b [] pos) loc M Q :=
  fun A B s L nm fa cd cs S => wpAny_For (h.run S fun v s₁ X M₁ S₁ k₁ d₁ z => by
    obtain ⟨items, W, z, src, turn, fin⟩ := z
    obtain ⟨l₀, hl₀, w0⟩ := z
    cases X with
    | tup l =>
      cases src
      obtain ⟨a, vs, rfl, ht, dl⟩ := den_tup d₁
      refine wpAny_pyIter_tuple ht ?_
      have S₂ := S₁.iter { cls := .type "tuple_iterator", data := .fields #[.ref a, .int 0 0] } rfl s₁.toks
      exact for_gen (Q := Q) (F := F) (D := drw_tup (l := a) (items := items)) (it := s₁.heap.objs.size) S₁ S₁.rel.fresh.2 hk W (fun i l M' w B' s' R' k' => ⟨vs, k' _ _ ht, dl.keep k'⟩) turn fin _ w0 ⟨rfl, rfl⟩ (S₂.less hl₀) (.of push_keep) fun f s' z => z.tr k₁
    | ref a =>
      cases den_ref d₁
      obtain ⟨vs, n, ho, dl⟩ := S₁.rel.own a _ (src 0 _ _ w0)
      refine wpAny_pyIter_list (PySem.IsL.isList ho) ?_
      have S₂ := S₁.iter { cls := .type "list_iterator", data := .fields #[.ref a, .int 0 0] } rfl s₁.toks
      exact for_gen (Q := Q) (F := F) (D := drw_list (l := a) (items := items)) (it := s₁.heap.objs.size) S₁ S₁.rel.fresh.2 hk W (fun i l M' w B' s' R' k' => by
        obtain ⟨vs', n', ho', dl'⟩ := R'.own a _ (src i l M' w)
        exact ⟨vs', PySem.IsL.isList ho', dl'⟩) turn fin _ w0 ⟨rfl, rfl⟩ (S₂.less hl₀) (.of push_keep) fun f s' z => z.tr k₁
    | _ => exact src.elim) fun _ => fold_of he
noncomputable def ForR (C : Cx) (F : Fi) (x : Str) (b : List Stmt) (Xs : List V) (loc : Loc) (M : Mm) (Q : Fl → Loc → Mm → Prop) : Prop :=
  ∃ (a c : Int) (n : Nat) (W : Nat → Loc → Mm → Prop), (∃ l₀, (∀ x X, lk x l₀ = some X → lk x loc = some X) ∧ W 0 l₀ M) ∧
    ((∃ m, Xs = [.int m] ∧ a = 0 ∧ c = 1 ∧ n = m.toNat ∧ -1000 < m ∧ m < 1000) ∨ (Xs = [.int a, .int (-1), .int (-1)] ∧ c = -1 ∧ n = (a + 1).toNat ∧ -1000 < a ∧ a < 1000)) ∧
    (∀ (i : Nat) l' M', i < n → W i l' M' → ExsP C F b (Mine.st x (.int (a + i * c)) l') M' (turnQ Q fun l₃ M₃ => ∃ l'', (∀ x X, lk x l'' = some X → lk x l₃ = some X) ∧ W (i + 1) l'' M₃)) ∧
    (∀ l' M', W n l' M' → Q .next l' M')
theorem rngL_len {a c : Int} {n : Nat} : (rngL a c n).length = n := by simp [rngL]
theorem for_rng {A : Around} {B : Base} {L : Addr} {cs : List (Str × Addr)} {s s₁ : Shared} {nm fa cd} {a c e : Int} {n : Nat} {W : Nat → Loc → Mm → Prop} {M₁ : Mm} {r : Addr} {t u v : Tok} (hk : F.sc.names.lookup x = some .local) (S₁ : St C F A B L cs loc M₁ s₁) (k₁ : KeepT s.heap s₁.heap)
    (hr : IsRange s₁.heap r a e c t u v) (hsm : Builtin.Range.small a e c = true) (hn : Builtin.Range.rangeSize a e c = n) {l₀ : Loc} (hl₀ : ∀ x X, lk x l₀ = some X → lk x loc = some X) (w0 : W 0 l₀ M₁)
    (turn : ∀ (i : Nat) l' M', i < n → W i l' M' → ExsP C F b (Mine.st x (.int (a + i * c)) l') M' (turnQ Q fun l₃ M₃ => ∃ l'', (∀ x X, lk x l'' = some X → lk x l₃ = some X) ∧ W (i + 1) l'' M₃))
    (fin : ∀ l' M', W n l' M' → Q .next l' M') :
    wpAny (model P0 C.w) A (pyIter (.ref r)) (fun it s₂ => codeAny (model P0 C.w) A (.forLoop (.Name x px) it b [] (envX nm F.sc L fa cd cs)) (fun r s' => match r with | .ok f => Pf C F A B L cs s Q f s' | .error e => cameBackBy (model P0 C.w) A (envX nm F.sc L fa cd cs) noE e s') s₂) noE s₁ := by
  refine wpAny_pyIter_range hr hsm ?_
  rw [hn]
  have S₂ := S₁.iter { cls := .type "range_iterator", data := .fields #[rawInt a, rawInt (n : Int), rawInt c] } rfl s₁.toks
  refine for_gen (Q := Q) (F := F) (D := drw_rng (a := a) (c := c) (n := n)) (it := s₁.heap.objs.size) S₁ S₁.rel.fresh.2 hk W (fun i l M' w B' s' R' k' => trivial) (fun i X l M' hx w => ?_) (fun l M' w => fin l M' (by rwa [rngL_len] at w)) _ w0 ?_ (S₂.less hl₀) (.of push_keep) fun f s' z => z.tr k₁
  · obtain ⟨h1, rfl⟩ := rngL_get hx
    exact turn i l M' h1 w
  · simp
theorem size1 (m : Int) : Builtin.Range.rangeSize 0 m 1 = (m.toNat : Int) := by
  unfold Builtin.Range.rangeSize
  rw [if_pos (by decide), Int.ediv_one]
  split <;> omega
theorem size3 (m : Int) : Builtin.Range.rangeSize m (-1) (-1) = ((m + 1).toNat : Int) := by
  unfold Builtin.Range.rangeSize
  rw [if_neg (by decide), Int.neg_neg, Int.ediv_one]
  split <;> omega
theorem fits_ {i : Int} (h : -100000 < i) (h' : i < 100000) : Builtin.Range.rangeFitsLong i = true := by
  unfold Builtin.Range.rangeFitsLong; simp; omega
theorem small1 {m : Int} (h : -1000 < m) (h' : m < 1000) : Builtin.Range.small 0 m 1 = true := by
  unfold Builtin.Range.small
  rw [size1]
  simp [fits_, show Builtin.Range.rangeFitsLong 0 = true from fits_ (by decide) (by decide), show Builtin.Range.rangeFitsLong 1 = true from fits_ (by decide) (by decide), fits_ (i := m) (by omega) (by omega), fits_ (i := max m 0) (by omega) (by omega)]
theorem small3 {m : Int} (h : -1000 < m) (h' : m < 1000) : Builtin.Range.small m (-1) (-1) = true := by
  unfold Builtin.Range.small
  rw [size3]
  simp [show Builtin.Range.rangeFitsLong (-1) = true from fits_ (by decide) (by decide), fits_ (i := m) (by omega) (by omega), fits_ (i := max (m + 1) 0) (by omega) (by omega)]
theorem x_forR {f : Str} {p p' : Pos} {es : List Expr} (hp : es.all noStar = true) (hf : nsIn (KT C.w.params) mainGlobals f = some none) (hb : bootBuiltins f = some (.type "range")) (hn : f ≠ "__name__") (hkf : F.sc.names.lookup f = some .globalImplicit) (hd : (f == ("__debug__" : Str)) = false)
    (hk : F.sc.names.lookup x = some .local) (h : EvsP C F es loc M fun Xs M' => ForR C F x b Xs loc M' Q) : ExP C F (.For (.Name x px) (.Call (.Name f p) es [] p') b [] pos) loc M Q :=
  fun A B s L nm fa cd cs S => wpAny_For (Call_Name rfl (Name_function_global S.knd hkf (loadGlobal_builtin (env := envX nm F.sc L fa cd cs) S.g (mg_none_of C.kin C.g hf) (C.b.keeps S.rel.keep0) ((C.builtins f hn).trans hb) (by
    refine callWith_of (P := fun h => True) (by rw [star_any hp]; rfl) (fun h _ => ⟨.machine, .inr (.inl rfl), Looks.of_pure rfl⟩) ?_
    have h0 := h.run (nm := nm) (fa := fa) (cd := cd) (pos := p') S (R := fun vs s₁ => True ∧ wpAny (model P0 C.w) A (call (.type "range") ([] ++ vs) []) (fun v s₂ => wpAny (model P0 C.w) A (pyIter v) (fun it s₂ => codeAny (model P0 C.w) A (.forLoop (.Name x px) it b [] (envX nm F.sc L fa cd cs)) (fun r s' => match r with | .ok f => Pf C F A B L cs s Q f s' | .error e => cameBackBy (model P0 C.w) A (envX nm F.sc L fa cd cs) noE e s') s₂) noE s₂) noE s₁)
      fun vs s₁ Xs M₁ S₁ k₁ d₁ z => by
      obtain ⟨a, c, n, W, z, src, turn, fin⟩ := z
      obtain ⟨l₀, hl₀, w0⟩ := z
      refine ⟨trivial, ?_⟩
      rcases src with ⟨m, rfl, rfl, rfl, rfl, hn, hn'⟩ | ⟨rfl, rfl, rfl, hn, hn'⟩
      · obtain ⟨v, rfl, dv⟩ := den1 d₁
        obtain ⟨t, rfl⟩ := den_int dv
        refine call_range_1 ?_
        exact for_rng hk (S₁.grow (h' := s₁.heap.push _) push_keep _) (k₁.trans (.of push_keep)) (IsRange.new ..) (small1 hn hn') (size1 _) hl₀ w0 turn fin
      · obtain ⟨v, v₂, v₃, rfl, dv, dv₂, dv₃⟩ := den3 d₁
        obtain ⟨t, rfl⟩ := den_int dv
        obtain ⟨t₂, rfl⟩ := den_int dv₂
        obtain ⟨t₃, rfl⟩ := den_int dv₃
        refine call_range_3 (by decide) ?_ (.inl (PyProof.noPylong_small (by decide)))
        exact for_rng hk (S₁.grow (h' := s₁.heap.push _) push_keep _) (k₁.trans (.of push_keep)) (IsRange.new ..) (small3 hn hn') (size3 _) hl₀ w0 turn fin
    cases es with
    | nil => exact evalArgs_nil' h0
    | cons e r =>
      rw [star_of (all_head hp)] at h0 ⊢
      exact evalArgs_plain h0)) hd)) fun _ => rfl
end
end
end Mine

end
section
open PySem PySem.W PyProof.Rows PySem.Calls
set_option Elab.async false
set_option maxRecDepth 100000
set_option linter.all false
namespace Mine
noncomputable section
variable {C : Cx} {F : Fi} {loc : Loc} {M : Mm} {Q : Fl → Loc → Mm → Prop}
noncomputable def notTuple (e : Expr) : Bool := !(Nat.beq e.ctorIdx 25)
theorem swapped_of {x y : Str} {p p1 p2 : Pos} {k : Nat} {v : Expr} {env : Env} (h : notTuple v = true) : swappedStores [.Tuple [.Name x p1, .Name y p2] k p] v env = pure none := by
  cases v <;> first | rfl | cases h
theorem x_pair {x y : Str} {v : Expr} {p p1 p2 pos : Pos} {k : Nat} (hv : noComp v = true) (ht : notTuple v = true) (hx : F.sc.names.lookup x = some .local) (hy : F.sc.names.lookup y = some .local)
    (h : EvP C F v loc M fun X M' => ∃ a b, X = .tup [a, b] ∧ Q .next (Mine.st y b (Mine.st x a loc)) M') : ExP C F (.Assign [.Tuple [.Name x p1, .Name y p2] k p] v pos) loc M Q :=
  fun A B s L nm fa cd cs S => wpAny_Assign_stores (h.run S fun w s₁ X M₁ S₁ k₁ d₁ z => by
    obtain ⟨a, b, rfl, h₁⟩ := z
    obtain ⟨t, vs, rfl, it, dl⟩ := den_tup d₁
    obtain ⟨va, vb, rfl, da, db⟩ := den2 dl
    refine wpAny_assign_Tuple (x1 := k) S₁.aok.1 (items := [va, vb].toArray) it rfl rfl fun h' he => ?_
    have kk : ∀ b o, s₁.heap.get? b = some o → h'.get? b = some o := fun b o e => he b o (Nat.ne_of_lt (Heap.lt_size e)) e
    have S₂ := S₁.grow kk s₁.toks
    refine wpAny_bind (wpAny_holding (wpAny_assign_Name (S₂.store (nm := nm) (fa := fa) (cd := cd) (da.keep (.of kk) a) hx fun s₃ S₃ k₃ => ?_)))
    refine wpAny_bind (wpAny_holding (wpAny_assign_Name (S₃.store (nm := nm) (fa := fa) (cd := cd) (db.keep (KeepT.trans (.of kk) k₃) b) hy fun s₄ S₄ k₄ => ?_)))
    exact wpAny_pure ⟨.next, _, M₁, S₄, ((k₁.trans (.of kk)).trans k₃).trans k₄, rfl, h₁⟩) (show swapsWith v (some (.Tuple [.Name x p1, .Name y p2] k p)) pos.line (envX nm F.sc L fa cd cs) = pure false from swaps_of hv) (swapped_of ht)
theorem aug_of {i : Expr} {ov iv new : Value} (h : notSlice i = true) : augStore i ov iv new = (do holding [new, ov, iv] (setItem ov iv new); release [new, ov, iv] []; pure .next) := by
  cases i <;> first | rfl | cases h
theorem x_augItem {o i v : Expr} {op : Operator} {p pos : Pos} (hi : notSlice i = true)
    (h : EvP C F o loc M fun O M' => EvP C F i loc M' fun I M'' => OpP C F.k (fun vs => match vs with | [a, b] => getItem a b | _ => Sem.pure .none) [O, I] M'' fun X M₃ => EvP C F v loc M₃ fun Y M₄ =>
      OpP C F.k (fun vs => match vs with | [a, b] => inplaceOp op a b | _ => Sem.pure .none) [X, Y] M₄ fun Z M₅ => OpP C F.k (fun vs => match vs with | [a, b, c] => setItem b c a >>= fun _ => pure .none | _ => Sem.pure .none) [Z, O, I] M₅ fun _ M₆ => Q .next loc M₆) :
    ExP C F (.AugAssign (.Subscript o i p) op v pos) loc M Q :=
  fun A B s L nm fa cd cs S => wpAny_AugAssign_SubscriptAny (h.run S fun ov s₁ O M₁ S₁ k₁ d₁ h₁ => h₁.run S₁ fun iv s₂ I M₂ S₂ k₂ d₂ h₂ =>
    h₂.run S₂ (vs := [ov, iv]) (.cons (d₁.keep k₂ O) (.cons d₂ .nil)) fun old s₃ X M₃ S₃ k₃ d₃ h₃ => h₃.run S₃ fun b s₄ Y M₄ S₄ k₄ d₄ h₄ =>
    h₄.run S₄ (vs := [old, b]) (.cons (d₃.keep k₄ X) (.cons d₄ .nil)) fun new s₅ Z M₅ S₅ k₅ d₅ h₅ => by
      have kI := (k₃.trans k₄).trans k₅
      refine of_dropped (Q := fun _ => Pf C F A B L cs s Q .next) (h₅.run S₅ (vs := [new, ov, iv]) (.cons d₅ (.cons (d₁.keep (k₂.trans kI) O) (.cons (d₂.keep kI I) .nil))) fun _ s₆ _ M₆ S₆ k₆ _ h₆ => ?_)
      exact ⟨.next, loc, M₆, S₆, ((k₁.trans k₂).trans kI).trans k₆, rfl, h₆⟩) (fun _ _ _ => aug_of hi)
end
end Mine

end
section
open PySem PySem.W PyProof.Rows PySem.Calls
set_option Elab.async false
set_option maxRecDepth 100000
set_option linter.all false
namespace Mine
noncomputable section
variable {C : Cx} {k : Nat} {M : Mm} {Q : V → Mm → Prop}
-- nothing but a mark is drawn
theorem done_toks {B : Base} {s : Shared} {v : Value} {X : V} {t : Nat} (R : Rel C B M s) (d : Den s.heap X v) (h : Q X M) :
    ∃ X M', Rel C B M' { s with toks := t } ∧ KeepT s.heap s.heap ∧ Den s.heap X v ∧ Q X M' := ⟨X, M, R.toks t, .refl _, d, h⟩
theorem done_same {B : Base} {s : Shared} {v : Value} {X : V} (R : Rel C B M s) (d : Den s.heap X v) (h : Q X M) :
    ∃ X M', Rel C B M' s ∧ KeepT s.heap s.heap ∧ Den s.heap X v ∧ Q X M' := ⟨X, M, R, .refl _, d, h⟩
theorem done_grow {B : Base} {s : Shared} {v : Value} {X : V} {h' : Heap} {t : Nat} (R : Rel C B M s) (kk : ∀ b o, s.heap.get? b = some o → h'.get? b = some o) (d : Den h' X v) (h : Q X M) :
    ∃ X M', Rel C B M' { s with heap := h', toks := t } ∧ KeepT s.heap h' ∧ Den h' X v ∧ Q X M' := ⟨X, M, R.grow kk t, .of kk, d, h⟩
theorem done_upd {B : Base} {s : Shared} {v : Value} {X : V} {h' : Heap} {t : Nat} {d : Addr} {x x' : MO} (R : Rel C B M s) (hd : M d = some x) (hs : Heap.SameBut d s.heap h') (hx : KeepT s.heap h' → Own C.w h' d x') (dv : KeepT s.heap h' → Den h' X v) (h : Q X (Mine.upd M d x')) :
    ∃ X M', Rel C B M' { s with heap := h', toks := t } ∧ KeepT s.heap h' ∧ Den h' X v ∧ Q X M' :=
  let ⟨r, kk⟩ := R.upd hd hs hx t; ⟨X, _, r, kk, dv kk, h⟩
theorem done_alloc {B : Base} {s : Shared} {h' : Heap} {t : Nat} {x : MO} (R : Rel C B M s) (kk : ∀ b o, s.heap.get? b = some o → h'.get? b = some o) (hx : Own C.w h' s.heap.objs.size x) (h : ∀ a, M a = none → Q (.ref a) (Mine.upd M a x)) :
    ∃ X M', Rel C B M' { s with heap := h', toks := t } ∧ KeepT s.heap h' ∧ Den h' X (.ref s.heap.objs.size) ∧ Q X M' :=
  ⟨.ref s.heap.objs.size, _, R.alloc kk hx t, .of kk, by simp [Den], h _ R.fresh.1⟩

noncomputable def intV (X : V) (K : Int → Prop) : Prop := match X with
  | .int i => K i
  | _ => False
noncomputable def strV (X : V) (K : Str → Prop) : Prop := match X with
  | .str i => K i
  | _ => False
noncomputable def refV (X : V) (K : Addr → Prop) : Prop := match X with
  | .ref i => K i
  | _ => False
noncomputable def oneV (l : List V) (K : V → Prop) : Prop := match l with
  | [] => False
  | x :: r => match r with
    | [] => K x
    | _ :: _ => False
noncomputable def twoV (l : List V) (K : V → V → Prop) : Prop := match l with
  | [] => False
  | x :: r => oneV r (K x)
noncomputable def i2V (X : V) (K : Int → Int → Prop) : Prop := match X with
  | .tup l => twoV l fun A B => intV A fun i => intV B fun j => K i j
  | _ => False
theorem intV_e {X : V} {K : Int → Prop} (h : intV X K) : ∃ i, X = .int i ∧ K i := by cases X <;> first | exact ⟨_, rfl, h⟩ | exact h.elim
theorem strV_e {X : V} {K : Str → Prop} (h : strV X K) : ∃ i, X = .str i ∧ K i := by cases X <;> first | exact ⟨_, rfl, h⟩ | exact h.elim
theorem refV_e {X : V} {K : Addr → Prop} (h : refV X K) : ∃ i, X = .ref i ∧ K i := by cases X <;> first | exact ⟨_, rfl, h⟩ | exact h.elim
theorem oneV_e {l : List V} {K : V → Prop} (h : oneV l K) : ∃ x, l = [x] ∧ K x := by
  rcases l with _ | ⟨x, _ | ⟨y, r⟩⟩
  · exact h.elim
  · exact ⟨x, rfl, h⟩
  · exact h.elim
theorem twoV_e {l : List V} {K : V → V → Prop} (h : twoV l K) : ∃ x y, l = [x, y] ∧ K x y := by
  cases l with
  | nil => exact h.elim
  | cons x r => replace h := oneV_e (K := K x) h; obtain ⟨y, rfl, h⟩ := h; exact ⟨x, y, rfl, h⟩
theorem i2V_e {X : V} {K : Int → Int → Prop} (h : i2V X K) : ∃ i j, X = .tup [.int i, .int j] ∧ K i j := by
  cases X with
  | tup l =>
    replace h := twoV_e (K := fun A B => intV A fun i => intV B fun j => K i j) h; obtain ⟨x, y, rfl, h⟩ := h
    replace h := intV_e h; obtain ⟨i, rfl, h⟩ := h
    replace h := intV_e h; obtain ⟨j, rfl, h⟩ := h
    exact ⟨i, j, rfl, h⟩
  | _ => exact h.elim
-- binary operators on ints
noncomputable def binV (op : Operator) (X Y : V) (Q : V → Prop) : Prop := intV X fun a => intV Y fun b => match op with
  | .Add => Q (.int (a + b))
  | .Sub => Q (.int (a - b))
  | .Mult => a.natAbs < 100000 ∧ b.natAbs < 100000 ∧ Q (.int (a * b))
  | .Mod => b ≠ 0 ∧ Q (.int (a.fmod b))
  | _ => False
theorem mul_small {a b : Int} (h1 : a.natAbs < 100000) (h2 : b.natAbs < 100000) : Builtin.Int.intBits b ≤ 64 := intBits_le_64 (by omega) (by omega)
theorem op_bin {op : Operator} {X Y : V} (h : binV op X Y fun Z => Q Z M) : OpP C k (fun vs => match vs with | [a, b] => binaryOp op a b | _ => Sem.pure .none) [X, Y] M Q := fun A B s vs ha R d => by
  obtain ⟨a, b, rfl, da, db⟩ := den2 d
  replace h := intV_e h; obtain ⟨i, rfl, h⟩ := h
  replace h := intV_e h; obtain ⟨j, rfl, h⟩ := h
  obtain ⟨t, rfl⟩ := den_int da
  obtain ⟨u, rfl⟩ := den_int db
  cases op with
  | Add => exact P.add_int (done_toks R (X := .int (i + j)) ⟨_, rfl⟩ h)
  | Sub => exact P.sub_int (done_toks R (X := .int (i - j)) ⟨_, rfl⟩ h)
  | Mult => exact P.mul_int (done_toks R (X := .int (i * j)) ⟨_, rfl⟩ h.2.2) (IntMulOk.of_right (mul_small h.1 h.2.1))
  | Mod => exact PyProof.Rows.mod_int h.1 (done_toks R (X := .int (i.fmod j)) ⟨_, rfl⟩ h.2)
  | _ => exact h.elim
noncomputable def augV (op : Operator) (X Y : V) (Q : V → Prop) : Prop := intV X fun a => intV Y fun b => match op with
  | .Add => Q (.int (a + b))
  | _ => False
theorem op_aug {op : Operator} {X Y : V} (h : augV op X Y fun Z => Q Z M) : OpP C k (fun vs => match vs with | [a, b] => inplaceOp op a b | _ => Sem.pure .none) [X, Y] M Q := fun A B s vs ha R d => by
  obtain ⟨a, b, rfl, da, db⟩ := den2 d
  replace h := intV_e h; obtain ⟨i, rfl, h⟩ := h
  replace h := intV_e h; obtain ⟨j, rfl, h⟩ := h
  obtain ⟨t, rfl⟩ := den_int da
  obtain ⟨u, rfl⟩ := den_int db
  cases op with
  | Add => exact P.iadd_int (done_toks R (X := .int (i + j)) ⟨_, rfl⟩ h)
  | _ => exact h.elim
noncomputable def datR (M : Mm) (a : Addr) (f : List V → Option (List PyData)) : Option PyData := match M a with
  | none => none
  | some o => match o with
    | .list l => (f l).map .list
    | _ => none
theorem datR_e {a : Addr} {f : List V → Option (List PyData)} {d : PyData} (h : datR M a f = some d) : ∃ l, M a = some (.list l) ∧ (f l).map .list = some d := by
  unfold datR at h
  cases hm : M a with
  | none => rw [hm] at h; cases h
  | some o => rw [hm] at h; cases o <;> first | exact ⟨_, rfl, h⟩ | cases h
theorem datR_of {M : Mm} {a : Addr} {f : List V → Option (List PyData)} {l : List V} (h : M a = some (.list l)) : datR M a f = (f l).map .list := by unfold datR; rw [h]
noncomputable def dat2 (a : Option PyData) (b : Option (List PyData)) : Option (List PyData) := a.bind fun d => b.map fun e => d :: e
theorem dat2_e {a : Option PyData} {b : Option (List PyData)} {e : List PyData} (h : dat2 a b = some e) : ∃ d e', a = some d ∧ b = some e' ∧ d :: e' = e := by
  cases a with
  | none => cases h
  | some d => cases b with
    | none => cases h
    | some e' => exact ⟨d, e', rfl, rfl, Option.some.inj h⟩
mutual
-- a value as a datum, lists told by the table
noncomputable def datV (M : Mm) (n : Nat) (X : V) : Option PyData := match n with
  | 0 => none
  | n + 1 => match X with
    | .none => some .none
    | .bool b => some (.bool b)
    | .int i => some (.int i)
    | .str x => some (.str x)
    | .tup l => (datL M n l).map .tuple
    | .ref a => datR M a (datL M n)
    | .bi _ => none
    | .ty _ => none
noncomputable def datL (M : Mm) (n : Nat) (l : List V) : Option (List PyData) := match n with
  | 0 => none
  | n + 1 => match l with
    | [] => some []
    | x :: l => dat2 (datV M n x) (datL M n l)
end
theorem dat_reads {B : Base} {s : Shared} (R : Rel C B M s) : ∀ n, (∀ X d v, datV M n X = some d → Den s.heap X v → ∃ as, Reads s.heap v d as) ∧ (∀ l e vs, datL M n l = some e → DenL s.heap l vs → ∃ as, ReadsAll s.heap vs e as)
  | 0 => ⟨(fun X d v h => nomatch (show none = some d from h)), fun l e vs h => nomatch (show none = some e from h)⟩
  | n + 1 => by
    obtain ⟨i1, i2⟩ := dat_reads R n
    refine ⟨fun X d v h dv => ?_, fun l e vs h dv => ?_⟩
    · cases X with
      | none => cases Option.some.inj (show some PyData.none = some d from h); cases (show v = .none from dv); exact ⟨_, .none⟩
      | bool b => cases Option.some.inj (show some (PyData.bool b) = some d from h); cases (show v = .bool b from dv); exact ⟨_, .bool b⟩
      | int i => cases Option.some.inj (show some (PyData.int i) = some d from h); obtain ⟨t, rfl⟩ := den_int dv; exact ⟨_, .int i t⟩
      | str i => cases Option.some.inj (show some (PyData.str i) = some d from h); obtain ⟨t, rfl⟩ := den_str dv; exact ⟨_, .str i t⟩
      | tup l =>
        obtain ⟨e, he, rfl⟩ := Option.map_eq_some_iff.mp (show (datL M n l).map PyData.tuple = some d from h)
        obtain ⟨a, vs, rfl, ⟨o, ho, hc, m, hd⟩, dl⟩ := den_tup dv
        obtain ⟨as, ra⟩ := i2 l e vs he dl
        exact ⟨_, .tuple ho hc hd ra⟩
      | ref a =>
        obtain ⟨l, hl, h⟩ := datR_e (show datR M a (datL M n) = some d from h)
        obtain ⟨e, he, rfl⟩ := Option.map_eq_some_iff.mp h
        cases den_ref dv
        obtain ⟨vs, m, ho, dl⟩ := R.own a _ hl
        obtain ⟨as, ra⟩ := i2 l e vs he dl
        exact ⟨_, .list ho rfl rfl ra⟩
      | bi _ => exact nomatch (show none = some d from h)
      | ty _ => exact nomatch (show none = some d from h)
    · cases l with
      | nil => cases Option.some.inj (show some [] = some e from h); cases dv.inv_nil; exact ⟨_, .nil⟩
      | cons x l =>
        obtain ⟨d, e', hd, he, rfl⟩ := dat2_e (show dat2 (datV M n x) (datL M n l) = some e from h)
        obtain ⟨v, r, rfl, dx, dl⟩ := dv.inv_cons
        obtain ⟨as, ra⟩ := i1 x d v hd dx
        obtain ⟨bs, rb⟩ := i2 l e' r he dl
        exact ⟨_, .cons ra rb⟩
noncomputable def pairL (l : List V) : Option (Int × Int) := match l with
  | [] => none
  | X :: r => match X with
    | .int a => match r with
      | [] => none
      | Y :: r => match Y with
        | .int b => match r with
          | [] => some (a, b)
          | _ :: _ => none
        | _ => none
    | _ => none
theorem pairL_e {l : List V} {p : Int × Int} (h : pairL l = some p) : l = [.int p.1, .int p.2] := by
  rcases l with _ | ⟨X, r⟩
  · cases h
  cases X <;> try cases h
  rcases r with _ | ⟨Y, r⟩
  · cases h
  cases Y <;> try cases h
  cases r <;> cases h
  rfl
noncomputable def eqD (M : Mm) (X Y : V) (Q : Bool → Prop) : Prop := ∃ n d e, datV M n X = some d ∧ datV M n Y = some e ∧ SeqAt.shaped d = true ∧ SeqAt.shaped e = true ∧ Q (PyData.eqv d e)
noncomputable def eqV (M : Mm) (X Y : V) (Q : Bool → Prop) : Prop := match X with
  | .int a => intV Y fun b => Q (decide (a = b))
  | .bool a => match Y with
    | .bool b => Q (a == b)
    | _ => False
  | .str a => strV Y fun b => Q (sq a b)
  | .tup l => match pairL l with
    | some p => i2V Y fun c d => Q (decide (p.1 = c) && decide (p.2 = d))
    | none => eqD M (.tup l) Y Q
  | .ref a => eqD M (.ref a) Y Q
  | _ => False
theorem ibeq (a b : Int) : (a == b) = decide (a = b) := by by_cases h : a = b <;> simp [h]
-- == and != of two values give q and not q
noncomputable def EqGive (C : Cx) (k : Nat) (M : Mm) (X Y : V) (q : Bool) : Prop := ∀ (A : Around) (B : Base) (s : Shared) (a b : Value) (R : Value → Shared → Prop), Aok k A → Rel C B M s → Den s.heap X a → Den s.heap Y b →
  (R (.bool q) s → wpAny (model P0 C.w) A (compareOp .Eq a b) R noE s) ∧ (R (.bool (!q)) s → wpAny (model P0 C.w) A (compareOp .NotEq a b) R noE s)
theorem eqGive_data {X Y : V} {d e : PyData} (n : Nat) (hd : datV M n X = some d) (he : datV M n Y = some e) (sd : SeqAt.shaped d = true) (se : SeqAt.shaped e = true) : EqGive C k M X Y (PyData.eqv d e) := fun A B s a b R ha hr da db => by
  obtain ⟨as, ra⟩ := (dat_reads hr n).1 X d a hd da
  obtain ⟨bs, rb⟩ := (dat_reads hr n).1 Y e b he db
  exact ⟨fun h => eq_dataH ra rb sd se ha.units h, fun h => ne_dataH ra rb sd se ha.units h⟩
theorem eqD_give {X Y : V} {K : Bool → Prop} (h : eqD M X Y K) : ∃ q, K q ∧ EqGive C k M X Y q := by
  obtain ⟨n, d, e, h1, h2, h3, h4, h5⟩ := h
  exact ⟨_, h5, eqGive_data n h1 h2 h3 h4⟩
theorem eqGive_as {X Y : V} {d e : PyData} {q : Bool} (n : Nat) (hq : PyData.eqv d e = q) (hd : datV M n X = some d) (he : datV M n Y = some e) (sd : SeqAt.shaped d = true) (se : SeqAt.shaped e = true) : EqGive C k M X Y q := hq ▸ eqGive_data n hd he sd se
theorem eqV_give {X Y : V} {K : Bool → Prop} (h : eqV M X Y K) : ∃ q, K q ∧ EqGive C k M X Y q := by
  cases X with
  | int a =>
    replace h := intV_e (K := fun b => K (decide (a = b))) h; obtain ⟨b, rfl, h⟩ := h
    exact ⟨_, h, eqGive_as (d := .int a) (e := .int b) 9 (by simp [PyData.eqv, ibeq]) rfl rfl rfl rfl⟩
  | bool a =>
    cases Y with
    | bool b => exact ⟨_, h, eqGive_as (d := .bool a) (e := .bool b) 9 (by simp [PyData.eqv]) rfl rfl rfl rfl⟩
    | _ => exact h.elim
  | str a =>
    replace h := strV_e (K := fun b => K (sq a b)) h; obtain ⟨b, rfl, h⟩ := h
    refine ⟨_, h, fun A B s x y R ha hr da db => ?_⟩
    obtain ⟨t, rfl⟩ := den_str da
    obtain ⟨u, rfl⟩ := den_str db
    exact ⟨fun h => P.eq_str h, fun h => P.ne_str h⟩
  | tup l =>
    have h : (match pairL l with | some p => i2V Y fun c d => K (decide (p.1 = c) && decide (p.2 = d)) | none => eqD M (.tup l) Y K) := h
    cases e : pairL l with
    | none => rw [e] at h; exact eqD_give h
    | some p =>
      rw [e] at h
      cases pairL_e e
      replace h := i2V_e h; obtain ⟨c, d, rfl, h⟩ := h
      exact ⟨_, h, eqGive_as (d := .tuple [.int p.1, .int p.2]) (e := .tuple [.int c, .int d]) 9 (by simp [PyData.eqv, PyData.eqvAll, ibeq]) rfl rfl rfl rfl⟩
  | ref a => exact eqD_give h
  | _ => exact h.elim
theorem not_sys {B : Base} {s : Shared} {a : Addr} {o : MO} (R : Rel C B M s) (h : M a = some o) : (a == sysModules) = false := by
  rw [beq_eq_false_iff_ne]
  rintro rfl
  have := R.one
  rw [show M 1 = M sysModules from rfl, h] at this; cases this
theorem kvAt_is {h : Heap} {l : List (Int × V)} {kvs : List (Int × Value)} (x : KvL h l kvs) (i : Int) : (valueAt kvs i).isSome = (kvAt l i).isSome := by
  cases e : kvAt l i with
  | none => rw [x.at_none e]; rfl
  | some X => obtain ⟨v, hv, _⟩ := x.at_some e; rw [hv]; rfl
noncomputable def inV (M : Mm) (X : V) (a : Addr) (Q : Bool → Prop) : Prop := intV X fun i => ∃ o, M a = some o ∧ match o with
  | .idic l => Q (kvAt l i).isSome
  | .set S _ => Q (S i)
  | _ => False
noncomputable def cmpV (M : Mm) (op : CmpOp) (X Y : V) (Q : Bool → Prop) : Prop := match op with
  | .Eq => eqV M X Y Q
  | .NotEq => eqV M X Y fun b => Q (!b)
  | .Lt => intV X fun a => intV Y fun b => Q (decide (a < b))
  | .LtE => intV X fun a => intV Y fun b => Q (decide (a ≤ b))
  | .Gt => intV X fun a => intV Y fun b => Q (decide (a > b))
  | .GtE => intV X fun a => intV Y fun b => Q (decide (a ≥ b))
  | .In => refV Y fun a => inV M X a Q
  | .NotIn => refV Y fun a => inV M X a fun b => Q (!b)
  | _ => False
theorem cmp2 {h : Heap} {X Y : V} {a b : Value} {K : Int → Int → Prop} (hk : intV X fun i => intV Y fun j => K i j) (da : Den h X a) (db : Den h Y b) : ∃ i j t u, a = .int i t ∧ b = .int j u ∧ K i j := by
  replace hk := intV_e hk; obtain ⟨i, rfl, hk⟩ := hk
  replace hk := intV_e hk; obtain ⟨j, rfl, hk⟩ := hk
  obtain ⟨t, rfl⟩ := den_int da
  obtain ⟨u, rfl⟩ := den_int db
  exact ⟨i, j, t, u, rfl, rfl, hk⟩
theorem op_cmp {op : CmpOp} {X Y : V} (h : cmpV M op X Y fun b => Q (.bool b) M) : OpP C k (fun vs => match vs with | [a, b] => compareOp op a b | _ => Sem.pure .none) [X, Y] M Q := fun A B s vs ha R d => by
  obtain ⟨a, b, rfl, da, db⟩ := den2 d
  cases op with
  | Eq =>
    obtain ⟨q, hq, he⟩ := eqV_give (C := C) (k := k) (K := fun b => Q (.bool b) M) h
    exact (he A B s a b _ ha R da db).1 (done_same R (X := .bool q) rfl hq)
  | NotEq =>
    obtain ⟨q, hq, he⟩ := eqV_give (C := C) (k := k) (K := fun b => Q (.bool !b) M) h
    exact (he A B s a b _ ha R da db).2 (done_same R (X := .bool !q) rfl hq)
  | Lt => obtain ⟨i, j, t, u, rfl, rfl, h⟩ := cmp2 (K := fun a b => Q (.bool (decide (a < b))) M) h da db; exact P.lt_int (done_same R (X := .bool _) rfl h)
  | LtE => obtain ⟨i, j, t, u, rfl, rfl, h⟩ := cmp2 (K := fun a b => Q (.bool (decide (a ≤ b))) M) h da db; exact P.le_int (done_same R (X := .bool _) rfl h)
  | Gt => obtain ⟨i, j, t, u, rfl, rfl, h⟩ := cmp2 (K := fun a b => Q (.bool (decide (a > b))) M) h da db; exact P.gt_int (done_same R (X := .bool _) rfl h)
  | GtE => obtain ⟨i, j, t, u, rfl, rfl, h⟩ := cmp2 (K := fun a b => Q (.bool (decide (a ≥ b))) M) h da db; exact P.ge_int (done_same R (X := .bool _) rfl h)
  | In =>
    replace h := refV_e (K := fun a => inV M X a fun b => Q (.bool b) M) h; obtain ⟨c, rfl, h⟩ := h
    replace h := intV_e h; obtain ⟨i, rfl, o, ho, h⟩ := h
    obtain ⟨t, rfl⟩ := den_int da
    cases den_ref db
    cases o with
    | idic l =>
      obtain ⟨kvs, hd, hk⟩ := R.own _ _ ho
      exact wpAny_in_of (intKind_is ..) (not_sys R ho) hd.mapOf (done_toks R (X := .bool _) rfl (show Q (.bool (valueAt kvs i).isSome) M from kvAt_is hk i ▸ h))
    | set S n => exact wpAny_inSet_of (intKind_is ..) rfl (R.own _ _ ho) (done_toks R (X := .bool _) rfl h)
    | _ => exact h.elim
  | NotIn =>
    replace h := refV_e (K := fun a => inV M X a fun b => Q (.bool !b) M) h; obtain ⟨c, rfl, h⟩ := h
    replace h := intV_e h; obtain ⟨i, rfl, o, ho, h⟩ := h
    obtain ⟨t, rfl⟩ := den_int da
    cases den_ref db
    cases o with
    | idic l =>
      obtain ⟨kvs, hd, hk⟩ := R.own _ _ ho
      exact wpAny_notIn_of (intKind_is ..) (not_sys R ho) hd.mapOf (done_toks R (X := .bool _) rfl (show Q (.bool !(valueAt kvs i).isSome) M from kvAt_is hk i ▸ h))
    | set S n => exact wpAny_notInSet_of (intKind_is ..) rfl (R.own _ _ ho) (done_toks R (X := .bool _) rfl h)
    | _ => exact h.elim
  | _ => exact h.elim
end
end Mine

end
section
open PySem PySem.W PyProof.Rows PySem.Calls
open Builtin Builtin.ObjectAttr
set_option Elab.async false
set_option maxRecDepth 100000
set_option linter.all false
namespace Mine
noncomputable section
variable {C : Cx} {k : Nat} {M : Mm} {Q : V → Mm → Prop}
theorem isStr_of {x y : Str} {t : Tok} : (Value.str x t).isStr y = decide (x = y) := by
  show (x == y) = _
  by_cases h : x = y <;> simp [h]
theorem NsRel.noRef {h : Heap} : ∀ {l : List (Str × V)} {es : List DictEntry}, NsRel h l es → es.any (·.refKey) = false
  | [], _, e => by cases e; rfl
  | (x, X) :: l, _, ⟨e, r, rfl, ⟨t, ht⟩, _, n⟩ => by
    simp only [List.any_cons, NsRel.noRef n, Bool.or_false]
    unfold DictEntry.refKey; rw [ht]
theorem NsRel.get {h : Heap} {x : Str} : ∀ {l : List (Str × V)} {es : List DictEntry}, NsRel h l es → ∀ {X : V}, lk x l = some X → ∃ v, getL x es = some (some v) ∧ Den h X v
  | [], _, _, X, e => by cases e
  | (y, Y) :: l, _, ⟨e, r, rfl, ⟨t, ht⟩, d, n⟩, X, q => by
    rw [lk_cons] at q
    unfold getL
    simp only [List.find?_cons, ht, isStr_of]
    by_cases hx : x = y
    · rw [if_pos hx] at q; cases q
      subst hx
      exact ⟨e.val, by simp, d⟩
    · rw [if_neg hx] at q
      obtain ⟨v, hv, dv⟩ := NsRel.get n q
      refine ⟨v, ?_, dv⟩
      unfold getL at hv
      simp only [show decide (y = x) = false from by simp [Ne.symm hx]]
      split at hv
      · rename_i e' he; rw [he]; exact hv
      · split at hv <;> cases hv
theorem NsRel.miss {h : Heap} {x : Str} : ∀ {l : List (Str × V)} {es : List DictEntry}, NsRel h l es → lk x l = none → getL x es = some none
  | [], _, e, _ => by cases e; rfl
  | (y, Y) :: l, _, ⟨e, r, rfl, ⟨t, ht⟩, d, n⟩, q => by
    rw [lk_cons] at q
    by_cases hx : x = y
    · rw [if_pos hx] at q; cases q
    · rw [if_neg hx] at q
      have hv := NsRel.miss n q
      unfold getL at hv ⊢
      simp only [List.find?_cons, ht, isStr_of, show decide (y = x) = false from by simp [Ne.symm hx]]
      split at hv
      · cases hv
      · rename_i he; rw [he]
        have := NsRel.noRef n
        simp only [List.any_cons, this, Bool.or_false]
        unfold DictEntry.refKey; rw [ht]; rfl
theorem NsRel.put {h : Heap} {x : Str} {t : Tok} {hsh : Int} {X : V} {v : Value} (d : Den h X v) : ∀ {l : List (Str × V)} {es : List DictEntry}, NsRel h l es → NsRel h (Mine.st x X l) (putL x hsh (.str x t) v es)
  | [], _, e => by cases e; exact ⟨_, _, rfl, ⟨t, rfl⟩, d, rfl⟩
  | (y, Y) :: l, _, ⟨e, r, rfl, ⟨u, ht⟩, dy, n⟩ => by
    show NsRel h (match sq x y with | true => (y, X) :: l | false => (y, Y) :: Mine.st x X l) _
    unfold putL
    rw [ht, isStr_of]
    cases q : sq x y with
    | true =>
      have := sq_iff.mp q; subst this
      simp only [decide_true, if_true]
      exact ⟨_, _, rfl, ⟨u, rfl⟩, d, n⟩
    | false =>
      have ne : ¬ y = x := fun z => by rw [sq_iff.mpr z.symm] at q; cases q
      simp only [show decide (y = x) = false from by simp [ne], Bool.false_eq_true, if_false]
      exact ⟨_, _, rfl, ⟨u, ht⟩, dy, NsRel.put d n⟩
theorem NsRel.length {h : Heap} : ∀ {l : List (Str × V)} {es : List DictEntry}, NsRel h l es → es.length = l.length
  | [], _, e => by cases e; rfl
  | (x, X) :: l, _, ⟨e, r, rfl, _, _, n⟩ => by simp [NsRel.length n]

-- the classes' own attributes
noncomputable def notBi : V → Bool
  | .bi _ => false
  | _ => true
theorem handed_of {h : Heap} {X : V} {v : Value} (hb : notBi X = true) (d : Den h X v) : handedIn v = true := by
  cases X with
  | bi n => cases hb
  | none => simp only [Den] at d; subst d; rfl
  | bool b => simp only [Den] at d; subst d; rfl
  | int i => simp only [Den] at d; obtain ⟨t, rfl⟩ := d; rfl
  | str i => simp only [Den] at d; obtain ⟨t, rfl⟩ := d; rfl
  | tup l => simp only [Den] at d; obtain ⟨a, vs, rfl, _⟩ := d; rfl
  | ref a => simp only [Den] at d; subst d; rfl
  | ty n => simp only [Den] at d; subst d; rfl
-- what makes reads and stores of x plain at the class c
structure AttrOk (P : Params) (c : Addr) (x : Str) : Prop where
  ga : plainGet (KT P) c x = true
  hd : hasDictIn (KT P) c = true
  no : findIn (KT P) (.ref c) x = some none
  sa : findIn (KT P) (.ref c) "__setattr__" = some (some (.builtin "object.__setattr__"))
  po : plainOver (KT P) c = true
-- a method of the class c
structure MethOk (P : Params) (c : Addr) (x : Str) (f : Addr) : Prop where
  ga : plainGet (KT P) c x = true
  at_ : findIn (KT P) (.ref c) x = some (some (.ref f))
  fn : isFn (KT P) (.ref f) = true
  kp : keepIn (KT P) (.ref f) = true
theorem inst_at {B : Base} {s : Shared} {a c d : Addr} {l : List (Str × V)} (R : Rel C B M s) (ha : M a = some (.inst c d)) (hd : M d = some (.ns l)) :
    ∃ ox es n, InstAt s.heap a ox c (some (dictOf es n)) ∧ ox.dict = some d ∧ NsRel s.heap l es ∧ s.heap.get? d = some (dictOf es n) := by
  obtain ⟨sl, h1⟩ := R.own a _ ha
  obtain ⟨es, n, h2, h3⟩ := R.own d _ hd
  exact ⟨_, es, n, ⟨h1, rfl, rfl, h2⟩, rfl, h3, h2⟩
noncomputable def attrV (M : Mm) (ok : Addr → Str → Bool) (X : V) (x : Str) (Q : V → Prop) : Prop := match X with
  | .ref a => ∃ c d l Y, M a = some (.inst c d) ∧ M d = some (.ns l) ∧ ok c x = true ∧ lk x l = some Y ∧ notBi Y = true ∧ Q Y
  | _ => False
theorem op_attr {ok : Addr → Str → Bool} (hok : ∀ c x, ok c x = true → AttrOk C.w.params c x) {X : V} {x : Str} (h : attrV M ok X x fun Y => Q Y M) : OpP C k (fun vs => match vs with | [a] => getAttr a x true | _ => Sem.pure .none) [X] M Q := fun A B s vs ha R d => by
  obtain ⟨a, rfl, da⟩ := den1 d
  unfold attrV at h
  split at h
  · simp only [Den] at da; subst da
    obtain ⟨c, d, l, Y, h1, h2, h3, h4, h5, h6⟩ := h
    obtain ⟨ox, es, n, I, _, hn, _⟩ := inst_at R h1 h2
    obtain ⟨v, hv, dv⟩ := hn.get h4
    have O := hok _ _ h3
    exact get_value R.kin I (plainGet_of O.ga).1 (findObj_own O.hd O.no rfl hv) (handed_of h5 dv) (done_toks R dv h6)
  · exact h.elim
theorem set_own {P : Program} {w : World} {K : Frag} {A : Around} {E : Value → Shared → Prop} {s : Shared} {x c dx : Addr} {ox : Obj} {es : List DictEntry} {n : Nat} {name : Str} {v : Value} {R : Unit → Shared → Prop}
    (X : K.In s.heap) (I : InstAt s.heap x ox c (some (dictOf es n))) (hd : ox.dict = some dx) (D : s.heap.get? dx = some (dictOf es n)) (hs : findIn K (.ref c) "__setattr__" = some (some (.builtin "object.__setattr__"))) (hp : plainOver K c = true)
    (ht : takerIn K c name = some none) (hh : hasDictIn K c = true) (hr : es.any (·.refKey) = false) (hz : (putL name (PyData.keyHash w.params name) (.str name (s.toks + 1)) v es).length ≤ 1000)
    (h : ∀ h' t, Heap.SameBut dx s.heap h' → h'.get? dx = some (dictOf (putL name (PyData.keyHash w.params name) (.str name (s.toks + 1)) v es) (putN name es n)) → R () { s with heap := h', toks := t }) :
    wpAny (model P w) A (setAttr (.ref x) name v) R E s := by
  refine set_plain X I hs (osa_open (s := { s with toks := s.toks + 1 }) X I hp ht fun b => ?_)
  obtain ⟨cd, hc, hd'⟩ := any_some hh
  have e := putName_dict name (PyData.keyHash w.params name) (.str name (s.toks + 1)) v es n
  have D' : (s.heap.update dx (Obj.putName name (PyData.keyHash w.params name) (.str name (s.toks + 1)) v)).get? dx = some (dictOf (putL name (PyData.keyHash w.params name) (.str name (s.toks + 1)) v es) (putN name es n)) := by
    rw [← e]; exact Heap.get?_update_self _ D (by rw [e]; rfl)
  obtain ⟨hx, hcl, hn, -⟩ := I
  obtain ⟨oc, odi, oda, osl⟩ := ox
  dsimp only at hcl hd
  subst hcl hd
  refine wpAny_bind (wpAny_pure (wpAny_bind (wpAny_bind (wpAny_loadPart hx (wpAny_bind (looks_clsIn X hc _ _ _ _ (fun _ _ e => e) ?_))))))
  rw [hd']
  refine wpAny_pure (a := some dx) (wpAny_bind (wpAny_pure (wpAny_bind ?_)))
  unfold nsSet
  refine wpAny_bind (wpAny_bind (wpAny_askSetting (wpAny_pure (wpAny_bind (wpAny_mkText (wpAny_bind (wpAny_loadPart D ?_)))))))
  dsimp only
  have c : (!es.toArray.any (·.key.isStr name) && es.toArray.any (·.refKey)) = false := by
    rw [← Array.any_toList, ← Array.any_toList]
    simp [hr]
  rw [aRefKeyMayBeTheName_at, c]
  refine wpAny_updatePart D ?_
  refine wpAny_bind (wpAny_lookBehind D' (pastItsLine_dict (by rw [List.size_toArray, sizeLine_eq]; omega)) ?_)
  exact wpAny_pure (h _ _ (.update ..) D')
noncomputable def setAttrV (M : Mm) (ok : Addr → Str → Bool) (X O : V) (x : Str) (Q : Mm → Prop) : Prop := match O with
  | .ref a => ∃ c d l, M a = some (.inst c d) ∧ M d = some (.ns l) ∧ ok c x = true ∧ l.length < 100 ∧ Q (Mine.upd M d (.ns (Mine.st x X l)))
  | _ => False
theorem st_len {x : Str} {X : V} : ∀ l, (Mine.st x X l).length ≤ l.length + 1
  | [] => Nat.le_refl _
  | (y, Y) :: r => by
    show (match sq x y with | true => (y, X) :: r | false => (y, Y) :: Mine.st x X r).length ≤ _
    cases sq x y with
    | true => exact Nat.le_succ _
    | false => exact Nat.succ_le_succ (st_len r)
theorem op_setAttr {ok : Addr → Str → Bool} (hok : ∀ c x, ok c x = true → AttrOk C.w.params c x) {X O : V} {x : Str} (h : setAttrV M ok X O x fun M' => Q .none M') :
    OpP C k (fun vs => match vs with | [a, b] => setAttr b x a >>= fun _ => pure .none | _ => Sem.pure .none) [X, O] M Q := fun A B s vs ha R d => by
  obtain ⟨v, a, rfl, dv, da⟩ := den2 d
  unfold setAttrV at h
  split at h
  · simp only [Den] at da; subst da
    obtain ⟨c, d, l, h1, h2, h3, h4, h5⟩ := h
    obtain ⟨ox, es, n, I, hox, hn, D⟩ := inst_at R h1 h2
    have O := hok _ _ h3
    have hl : (putL x (PyData.keyHash C.w.params x) (.str x (s.toks + 1)) v es).length ≤ 1000 := by
      rw [(hn.put (hsh := PyData.keyHash C.w.params x) (t := s.toks + 1) dv).length]
      have := st_len (x := x) (X := X) l
      omega
    refine wpAny_bind (set_own R.kin I hox D O.sa O.po (by unfold takerIn; rw [O.no]; rfl) O.hd hn.noRef hl fun h' t hs hg => wpAny_pure ?_)
    refine done_upd (x' := .ns (Mine.st x X l)) R h2 hs (fun kk => ⟨_, _, hg, NsRel.keep kk _ (hn.put dv)⟩) (fun _ => by simp [Den]) h5
  · exact h.elim
theorem met_fn {x : Str} {a c d f : Addr} {l : List (Str × V)} (h1 : M a = some (.inst c d)) (h2 : M d = some (.ns l)) (h3 : lk x l = none) (O : MethOk C.w.params c x f) : MetP C k x (.ref a) M (.ref f) [.ref a] := fun A B s v pl ha R d => by
  simp only [Den] at d; subst d
  obtain ⟨ox, es, n, I, hox, hn, D⟩ := inst_at R h1 h2
  refine ⟨calm_in O.kp, fun R' hR => ?_⟩
  refine method_fn R.kin I (plainGet_of O.ga).1 (plainGet_of O.ga).2 O.at_ (beq_iff_eq.mp O.fn) ?_ (hR _ (.cons (by simp [Den]) .nil))
  show (lookIn x (dictOf es n)).map _ = _
  rw [lookIn_dict, hn.miss h3]; rfl
end
end Mine

end
section
open PySem PySem.W PyProof.Rows PySem.Calls
set_option Elab.async false
set_option maxRecDepth 100000
set_option linter.all false
namespace Mine
noncomputable section
variable {C : Cx} {k : Nat} {M : Mm} {Q : V → Mm → Prop}
-- o[i]
noncomputable def itemV (M : Mm) (X Y : V) (Q : V → Prop) : Prop := intV Y fun i => match X with
  | .tup l => 0 ≤ i ∧ i < 1000000 ∧ ∃ Z, l[i.toNat]? = some Z ∧ Q Z
  | .ref a => ∃ o, M a = some o ∧ match o with
    | .list l => 0 ≤ i ∧ i < 1000000 ∧ ∃ Z, l[i.toNat]? = some Z ∧ Q Z
    | .idic l => ∃ Z, kvAt l i = some Z ∧ Q Z
    | _ => False
  | _ => False
theorem seqIdx {i : Int} {n : Nat} (h0 : 0 ≤ i) (h : i.toNat < n) : seqIndex? i n = some i.toNat := by
  unfold seqIndex?
  have h1 : ¬ i < 0 := by omega
  have h2 : i < (n : Int) := by omega
  simp [h1, h0, h2]
theorem idx_a {i : Int} (h : 0 ≤ i) : -(2 ^ 63) ≤ i := by omega
theorem idx_b {i : Int} (h : i < 1000000) : i < 2 ^ 63 := by omega
theorem den_none {h : Heap} : Den h .none .none := rfl
theorem idx_c {i : Int} {l : List V} {vs : List Value} (h : i.toNat < l.length) (e : vs.length = l.length) : i < (vs.toArray.size : Int) := by simp only [List.size_toArray]; omega
theorem arr_get {vs : List Value} {i : Nat} {v : Value} (h : vs[i]? = some v) : vs.toArray[i]? = some v := by simpa using h
theorem units1 {A : Around} (ha : Aok k A) : A.units + 1 < cLine := by have := ha.units; omega
theorem op_item {X Y : V} (h : itemV M X Y fun Z => Q Z M) : OpP C k (fun vs => match vs with | [a, b] => getItem a b | _ => Sem.pure .none) [X, Y] M Q := fun A B s vs ha R d => by
  obtain ⟨a, b, rfl, da, db⟩ := den2 d
  replace h := intV_e h; obtain ⟨i, rfl, h⟩ := h
  obtain ⟨u, rfl⟩ := den_int db
  cases X with
  | tup l =>
    obtain ⟨t, vs, rfl, it, dl⟩ := den_tup da
    obtain ⟨h0, h1, Z, hz, hq⟩ := h
    obtain ⟨v, hv, dv⟩ := dl.get hz
    have hlt := (List.getElem?_eq_some_iff.mp hv).1
    exact getItem_tuple it (idx_a h0) (idx_b h1) (seqIdx h0 hlt) (arr_get hv) (done_same R dv hq)
  | ref a =>
    cases den_ref da
    obtain ⟨o, ho, h⟩ := h
    cases o with
    | list l =>
      obtain ⟨h0, h1, Z, hz, hq⟩ := h
      obtain ⟨vs, n, hl, dl⟩ := R.own _ _ ho
      obtain ⟨v, hv, dv⟩ := dl.get hz
      exact wpAny_getItem_list (PySem.IsL.isList hl) h0 (idx_b h1) (arr_get hv) (done_same R dv hq)
    | idic l =>
      obtain ⟨Z, hz, hq⟩ := h
      obtain ⟨kvs, hd, hk⟩ := R.own _ _ ho
      obtain ⟨v, hv, dv⟩ := hk.at_some hz
      exact wpAny_getItem_of (intKind_is ..) hd.mapOf hv (done_toks R dv hq)
    | _ => exact h.elim
  | _ => exact h.elim
theorem op_sub {X Y : V} (h : itemV M X Y fun Z => Q Z M) : SubP C k X Y M Q := ⟨op_item h, fun B s v R d => by
  replace h := intV_e h; obtain ⟨i, rfl, h⟩ := h
  cases X with
  | tup l =>
    obtain ⟨t, vs, rfl, it, dl⟩ := den_tup d
    exact ⟨_, _, it.typeIs, slot_tuple_getitem.lookup⟩
  | ref a =>
    cases den_ref d
    obtain ⟨o, ho, h⟩ := h
    cases o with
    | list l =>
      obtain ⟨vs, n, hl, dl⟩ := R.own _ _ ho
      exact ⟨_, _, (PySem.IsL.isList hl).typeIs, slot_list_getitem.lookup⟩
    | idic l =>
      obtain ⟨kvs, hd, hk⟩ := R.own _ _ ho
      exact ⟨_, _, hd.mapOf.typeIs, slot_dict_getitem.lookup⟩
    | _ => exact h.elim
  | _ => exact h.elim⟩
-- o[i] = x
noncomputable def setItemV (M : Mm) (X O I : V) (Q : Mm → Prop) : Prop := refV O fun a => match I with
  | .int i => ∃ o, M a = some o ∧ match o with
    | .list l => 0 ≤ i ∧ i < 1000000 ∧ i.toNat < l.length ∧ Q (Mine.upd M a (.list (l.set i.toNat X)))
    | .idic l => l.length < 1000 ∧ Q (Mine.upd M a (.idic (kvPut l i X)))
    | _ => False
  | .str x => ∃ l, M a = some (.sdic l) ∧ l.length < 1000 ∧ Q (Mine.upd M a (.sdic (kvPut l x X)))
  | .tup l => i2V (.tup l) fun i j => ∃ l, M a = some (.tdic l) ∧ l.length < 1000 ∧ kvAt l (i, j) = none ∧ Q (Mine.upd M a (.tdic (l ++ [((i, j), X)])))
  | _ => False
theorem tkey_of {w : World} {h : Heap} {i j : Int} {v : Value} (d : Den h (.tup [.int i, .int j]) v) : ∃ a, v = .ref a ∧ IsTupleKey (intKind P0 w) h [i, j] a := by
  obtain ⟨a, vs, rfl, ⟨o, ho, hc, n, hd⟩, dl⟩ := den_tup d
  obtain ⟨x, y, rfl, dx, dy⟩ := den2 dl
  obtain ⟨t, rfl⟩ := den_int dx
  obtain ⟨u, rfl⟩ := den_int dy
  exact ⟨a, rfl, o, _, n, ho, hc, hd, .cons (intKind_is ..) (.cons (intKind_is ..) .nil)⟩
theorem op_setItem {X O I : V} (h : setItemV M X O I fun M' => Q .none M') : OpP C k (fun vs => match vs with | [a, b, c] => setItem b c a >>= fun _ => pure .none | _ => Sem.pure .none) [X, O, I] M Q := fun A B s vs ha R d => by
  obtain ⟨v, a, i, rfl, dv, da, di⟩ := den3 d
  replace h := refV_e h; obtain ⟨a, rfl, h⟩ := h
  cases den_ref da
  cases I with
  | int i =>
    obtain ⟨t, rfl⟩ := den_int di
    obtain ⟨o, ho, h⟩ := h
    cases o with
    | list l =>
      obtain ⟨h0, h1, h2, hq⟩ := h
      obtain ⟨vs, n, hl, dl⟩ := R.own _ _ ho
      refine wpAny_bind (ki_setAt hl h0 (idx_b h1) (idx_c h2 dl.length) (wpAny_pure ?_))
      refine done_upd (x' := .list (_)) R ho (.update ..) (fun kk => ⟨_, n, ?_, (dl.set _ dv).keep kk⟩) (fun _ => den_none) hq
      refine (Heap.get?_update_self _ hl rfl).trans ?_
      simp [Obj.mapSeq, W.listOf]
    | idic l =>
      obtain ⟨hz, hq⟩ := h
      obtain ⟨kvs, hd, hk⟩ := R.own _ _ ho
      refine wpAny_bind (wpAny_setItem_pairs (intKind_is ..) hd (fun h' hd' hs => wpAny_pure ?_) (by rw [hk.length]; exact Nat.le_trans (Nat.le_of_lt hz) (by decide)))
      exact done_upd (x' := .idic (_)) R ho hs (fun kk => ⟨_, hd', (hk.put _ dv).keep kk⟩) (fun _ => den_none) hq
    | _ => exact h.elim
  | str x =>
    obtain ⟨t, rfl⟩ := den_str di
    obtain ⟨l, ho, hz, hq⟩ := h
    obtain ⟨kvs, hd, hk⟩ := R.own _ _ ho
    refine wpAny_bind (wpAny_setItem_pairs (strKind_is ..) hd (fun h' hd' hs => wpAny_pure ?_) (by rw [hk.length]; exact Nat.le_trans (Nat.le_of_lt hz) (by decide)))
    exact done_upd (x' := .sdic (_)) R ho hs (fun kk => ⟨_, hd', (hk.put _ dv).keep kk⟩) (fun _ => den_none) hq
  | tup l =>
    replace h := i2V_e (X := .tup l) h; obtain ⟨i, j, e, l, ho, hz, hn, hq⟩ := h
    rw [e] at di
    obtain ⟨b, rfl, tk⟩ := tkey_of (w := C.w) di
    obtain ⟨xs, hd, hk⟩ := R.own _ _ ho
    refine wpAny_bind (wpAny_setItem_heap (tupleKind_room_in1 (units1 ha)) tk hd (fun h' hd' hs => wpAny_pure ?_) (by rw [hk.length]; exact Nat.le_trans (Nat.le_of_lt hz) (by decide)))
    rw [storedH_new (hk.at_none hn)] at hd'
    exact done_upd (x' := .tdic (_)) R ho hs (fun kk => ⟨_, hd', (hk.append (TdL.cons dv TdL.nil)).keep kk⟩) (fun _ => den_none) hq
  | _ => exact h.elim
-- the methods of the built-in kinds
set_option genInjectivity false in
inductive Mk where
  | fn (f : Addr)
  | append | pop | sget | tget | add
noncomputable def Mk.val : Mk → Value
  | .fn f => .ref f
  | .append => .builtin "list.append"
  | .pop => .builtin "list.pop"
  | .sget => .builtin "dict.get"
  | .tget => .builtin "dict.get"
  | .add => .builtin "set.add"
-- a call of a method
noncomputable def mcallV (C : Cx) (k : Nat) (m : Mk) (O : V) (Xs : List V) (M : Mm) (Q : V → Mm → Prop) : Prop := match m with
  | .fn f => CallP C k (.ref f) (O :: Xs) M Q
  | .append => refV O fun a => oneV Xs fun X => ∃ l, M a = some (.list l) ∧ l.length < 1000000 ∧ Q .none (Mine.upd M a (.list (l ++ [X])))
  | .pop => refV O fun a => match Xs with
    | [] => ∃ l X, M a = some (.list (l ++ [X])) ∧ l.length < 1000000 ∧ Q X (Mine.upd M a (.list l))
    | _ :: _ => False
  | .sget => refV O fun a => twoV Xs fun X Y => strV X fun x => ∃ l, M a = some (.sdic l) ∧ Q ((kvAt l x).getD Y) M
  | .tget => refV O fun a => twoV Xs fun X Y => i2V X fun i j => ∃ l, M a = some (.tdic l) ∧ Q ((kvAt l (i, j)).getD Y) M
  | .add => refV O fun a => oneV Xs fun X => intV X fun i => ∃ S n, M a = some (.set S n) ∧ n + 1 < 4096 ∧ Q .none (Mine.upd M a (.set (fun j => S j || decide (j = i)) (if S i then n else n + 1)))
theorem dropLast_of {l : List V} {X : V} {vs : List Value} {h : Heap} (dl : DenL h (l ++ [X]) vs) : ∃ ws y, vs = ws ++ [y] ∧ DenL h l ws ∧ Den h X y ∧ ws.length = l.length := by
  have hlen := dl.length
  have h1 := dl.dropLast
  rw [List.dropLast_concat] at h1
  obtain ⟨y, hy, dy⟩ := dl.get (i := l.length) (x := X) (by simp)
  rcases List.eq_nil_or_concat vs with rfl | ⟨ws, z, rfl⟩
  · simp at hlen
  · rw [List.concat_eq_append] at h1 hy ⊢
    rw [List.dropLast_concat] at h1
    have e := h1.length
    rw [← e] at hy
    simp at hy; subst hy
    exact ⟨ws, z, rfl, h1, dy, e⟩
theorem op_mcall {m : Mk} {O : V} {Xs : List V} (h : mcallV C k m O Xs M Q) : OpP C k (fun vs => call m.val vs) ([O] ++ Xs) M Q := by
  cases m with
  | fn f => exact CallP.op h
  | append =>
    replace h := refV_e h; obtain ⟨a, rfl, h⟩ := h
    replace h := oneV_e h; obtain ⟨X, rfl, l, ho, hz, hq⟩ := h
    intro A B s vs ha R d
    obtain ⟨o, v, rfl, da, dv⟩ := den2 d
    cases den_ref da
    obtain ⟨vs, n, hl, dl⟩ := R.own _ _ ho
    refine append_at hl (fun h' hs hg => ?_) (by rw [List.size_toArray, dl.length]; exact Nat.le_trans (Nat.le_of_lt hz) (by decide))
    refine done_upd (t := s.toks) (x' := .list (_)) R ho hs (fun kk => ⟨vs ++ [v], n + 1, ?_, (dl.append (.cons dv .nil)).keep kk⟩) (fun _ => den_none) hq
    rw [hg]; simp [W.listOf]
  | pop =>
    replace h := refV_e h; obtain ⟨a, rfl, h⟩ := h
    cases Xs with
    | cons _ _ => exact h.elim
    | nil =>
    obtain ⟨l, X, ho, hz, hq⟩ := h
    intro A B s vs ha R d
    obtain ⟨o, rfl, da⟩ := den1 d
    cases den_ref da
    obtain ⟨vs, n, hl, dl⟩ := R.own _ _ ho
    obtain ⟨ws, y, rfl, dw, dy, hlen⟩ := dropLast_of dl
    refine call_meets F.slot_list_pop ⟨_, hl, rfl⟩ F.entry_list_pop (F.args_list_pop_1 _) (MeetsSeq.list_pop_last _ _ n y (by simp) (by rw [List.size_toArray, dl.length, List.length_append]; exact Nat.le_trans (Nat.succ_le_of_lt hz) (by decide))) ⟨hl, ?_⟩
    refine done_upd (t := s.toks) (x' := .list (_)) R ho (.update ..) (fun kk => ⟨ws, n + 1, ?_, dw.keep kk⟩) (fun kk => dy.keep kk X) hq
    refine (Heap.get?_update_self _ hl rfl).trans ?_
    have e : ((ws ++ [y]).toArray.eraseIdxIfInBounds ((ws ++ [y]).toArray.size - 1)) = ws.toArray := by
      apply Array.toList_inj.mp
      simp [Array.eraseIdxIfInBounds]
      rw [List.eraseIdx_append_of_length_le (Nat.le_refl _)]; simp
    simp only [Obj.mapSeq, W.listOf, e]
    simp
  | sget =>
    replace h := refV_e h; obtain ⟨a, rfl, h⟩ := h
    replace h := twoV_e h; obtain ⟨X, Y, rfl, h⟩ := h
    replace h := strV_e h; obtain ⟨x, rfl, l, ho, hq⟩ := h
    intro A B s vs ha R d
    obtain ⟨o, x, y, rfl, da, dx, dy⟩ := den3 d
    cases den_ref da; obtain ⟨t, rfl⟩ := den_str dx
    obtain ⟨kvs, hd, hk⟩ := R.own _ _ ho
    refine call_meetsIn F.slot_dict_get hd.mapOf.typeIs F.entry_dict_get (F.args_dict_get_3 _ _ _) (meets_dict_get_default _ _ (strKind_is ..) (not_sys R ho) _) ⟨_, hd.mapOf, ?_⟩
    refine done_toks R ?_ hq
    cases e : kvAt l _ with
    | none => rw [hk.at_none e]; exact dy
    | some Z => obtain ⟨z, hz, dz⟩ := hk.at_some e; rw [hz]; exact dz
  | tget =>
    replace h := refV_e h; obtain ⟨a, rfl, h⟩ := h
    replace h := twoV_e h; obtain ⟨X, Y, rfl, h⟩ := h
    replace h := i2V_e h; obtain ⟨i, j, rfl, l, ho, hq⟩ := h
    intro A B s vs ha R d
    obtain ⟨o, x, y, rfl, da, dx, dy⟩ := den3 d
    obtain ⟨b, rfl, tk⟩ := tkey_of (w := C.w) dx
    cases den_ref da
    obtain ⟨xs, hd, hk⟩ := R.own _ _ ho
    refine call_meetsIn F.slot_dict_get hd.typeIs F.entry_dict_get (F.args_dict_get_3 _ _ _) (meetsH_dict_get_default _ _ _ (not_sys R ho) _) ⟨tupleKind_room_in1 (units1 ha), _, _, tk, hd, ?_⟩
    refine done_toks R ?_ hq
    cases e : kvAt l _ with
    | none => rw [hk.at_none e]; exact dy
    | some Z => obtain ⟨c, z, hz, dz⟩ := hk.at_some e; rw [hz]; exact dz
  | add =>
    replace h := refV_e h; obtain ⟨a, rfl, h⟩ := h
    replace h := oneV_e h; obtain ⟨X, rfl, h⟩ := h
    replace h := intV_e h; obtain ⟨i, rfl, S, n, ho, hz, hq⟩ := h
    intro A B s vs ha R d
    obtain ⟨o, v, rfl, da, dv⟩ := den2 d
    cases den_ref da; obtain ⟨t, rfl⟩ := den_int dv
    refine call_set_add (intKind_is ..) rfl (R.own _ _ ho) hz fun h' hs hS => ?_
    exact done_upd (x' := .set _ _) R ho hs (fun kk => hS) (fun _ => den_none) hq
end
end Mine

end
section
open PySem PySem.W PyProof.Rows PySem.Calls
set_option Elab.async false
set_option maxRecDepth 100000
set_option linter.all false
namespace Mine
noncomputable section
variable {C : Cx} {k : Nat} {M : Mm} {Q : V → Mm → Prop}
noncomputable def n_append : Str := u [97, 112, 112, 101, 110, 100]
noncomputable def n_pop : Str := u [112, 111, 112]
noncomputable def n_get : Str := u [103, 101, 116]
noncomputable def n_add : Str := u [97, 100, 100]
-- the look for a method
noncomputable def recvV (M : Mm) (meth : Addr → Str → Option Addr) (O : V) (x : Str) (K : Mk → Prop) : Prop := match O with
  | .ref a => ∃ o, M a = some o ∧ match o with
    | .inst c d => ∃ l f, M d = some (.ns l) ∧ lk x l = none ∧ meth c x = some f ∧ K (.fn f)
    | .list _ => (sq x n_append = true ∧ K .append) ∨ (sq x n_pop = true ∧ K .pop)
    | .sdic _ => sq x n_get = true ∧ K .sget
    | .tdic _ => sq x n_get = true ∧ K .tget
    | .set _ _ => sq x n_add = true ∧ K .add
    | _ => False
  | _ => False
theorem recv_sound {meth : Addr → Str → Option Addr} (hm : ∀ c x f, meth c x = some f → MethOk C.w.params c x f) {O : V} {x : Str} {K : Mk → Prop} (h : recvV M meth O x K) : ∃ m, MetP C k x O M m.val [O] ∧ K m := by
  cases O with
  | ref a =>
    obtain ⟨o, ho, h⟩ := h
    have bi : ∀ {T : String} {id : String}, PlainAttrs T → Slot T x id → typeOf (.builtin id) = pure (.type "method_descriptor") →
        (∀ B s, Rel C B M s → s.TypeIs (.ref a) T ∧ ∃ o, s.heap.get? a = some o ∧ o.dict = none) → MetP C k x (.ref a) M (.builtin id) [.ref a] := fun pa sl ht hd A B s v pl ha R d => by
      simp only [Den] at d; subst d
      obtain ⟨h1, h2⟩ := hd B s R
      exact ⟨calm_bi, fun R' hR => getMethod_builtin h1 pa sl ht (fun b e => by cases e; exact h2) (hR _ (.cons (by simp [Den]) .nil))⟩
    cases o with
    | inst c d =>
      obtain ⟨l, f, h1, h2, h3, h4⟩ := h
      exact ⟨_, met_fn ho h1 h2 (hm _ _ _ h3), h4⟩
    | list l =>
      rcases h with ⟨hx, h⟩ | ⟨hx, h⟩
      · cases sq_iff.mp hx
        refine ⟨.append, bi F.plainAttrs_list F.slot_list_append F.type_list_append (fun B s R => ?_), h⟩
        obtain ⟨vs, n, hl, _⟩ := R.own _ _ ho
        exact ⟨(PySem.IsL.isList hl).typeIs, _, hl, rfl⟩
      · cases sq_iff.mp hx
        refine ⟨.pop, bi F.plainAttrs_list F.slot_list_pop F.type_list_pop (fun B s R => ?_), h⟩
        obtain ⟨vs, n, hl, _⟩ := R.own _ _ ho
        exact ⟨(PySem.IsL.isList hl).typeIs, _, hl, rfl⟩
    | sdic l =>
      cases sq_iff.mp h.1
      refine ⟨.sget, bi F.plainAttrs_dict F.slot_dict_get F.type_dict_get (fun B s R => ?_), h.2⟩
      obtain ⟨kvs, hd, _⟩ := R.own _ _ ho
      exact ⟨hd.mapOf.typeIs, hd.mapOf.noDict a rfl⟩
    | tdic l =>
      cases sq_iff.mp h.1
      refine ⟨.tget, bi F.plainAttrs_dict F.slot_dict_get F.type_dict_get (fun B s R => ?_), h.2⟩
      obtain ⟨xs, hd, _⟩ := R.own _ _ ho
      refine ⟨hd.typeIs, ?_⟩
      obtain ⟨o, es, ep, ho, hc, _⟩ := hd
      exact ⟨o, ho, hc.2.1⟩
    | set S n =>
      cases sq_iff.mp h.1
      refine ⟨.add, bi F.plainAttrs_set F.slot_set_add F.type_set_add (fun B s R => ?_), h.2⟩
      have hS := R.own _ _ ho
      exact ⟨Heap.SetOf.typeIs hS, Heap.SetOf.noDict hS a rfl⟩
    | _ => exact h.elim
  | _ => exact h.elim
noncomputable def tyV (b1 b2 : Bool) (n : String) (Xs : List V) (M : Mm) (Q : V → Mm → Prop) : Prop := match b1 with
    | true => oneV Xs fun X => refV X fun a => ∃ o, M a = some o ∧ match o with
      | .list l => l.length < 1000000 ∧ ∀ b, M b = none → Q (.ref b) (Mine.upd M b (.list l))
      | .idic l => l.length < 1000000 ∧ ∀ b, M b = none → Q (.ref b) (Mine.upd M b (.list (l.map fun p => .int p.1)))
      | _ => False
    | false => match b2 with
      | true => oneV Xs fun X => refV X fun a => ∃ l, M a = some (.list l) ∧ l.length < 1000000 ∧ Q (.tup l) M
      | false => n = "set" ∧ match Xs with
        | [] => ∀ b, M b = none → Q (.ref b) (Mine.upd M b (.set (fun _ => false) 0))
        | _ :: _ => False
-- a call of a name's value
noncomputable def callV (C : Cx) (k : Nat) (f : V) (Xs : List V) (M : Mm) (Q : V → Mm → Prop) : Prop := match f with
  | .ref f => CallP C k (.ref f) Xs M Q
  | .bi n => oneV Xs fun X => n = "len" ∧ match X with
    | .tup l => l.length < 1000000 ∧ Q (.int l.length) M
    | .ref a => ∃ l, M a = some (.list l) ∧ l.length < 1000000 ∧ Q (.int l.length) M
    | _ => False
  | .ty n => tyV (n == "list") (n == "tuple") n Xs M Q
  | _ => False
theorem denL_of_get {h : Heap} : ∀ {l : List V} {vs : List Value}, vs.length = l.length → (∀ (i : Nat) (x : V), l[i]? = some x → ∃ v, vs[i]? = some v ∧ Den h x v) → DenL h l vs := by
  intro l
  induction l with
  | nil => intro vs e hi; cases List.eq_nil_of_length_eq_zero e; exact .nil
  | cons x l ih =>
    intro vs e hi
    cases vs with
    | nil => cases e
    | cons v vs =>
    obtain ⟨v', hv, d⟩ := hi 0 x rfl
    cases hv
    exact .cons d (ih (Nat.succ.inj e) fun i y hy => hi (i + 1) y hy)
theorem len_b {l : List V} {vs : List Value} (h : l.length < 1000000) (e : vs.length = l.length) : (vs.toArray.size : Int) < 2 ^ 63 := by simp only [List.size_toArray]; omega
theorem len_c {l : List V} {vs : List Value} (h : l.length < 1000000) (e : vs.length = l.length) : vs.toArray.size ≤ sizeLine := by rw [List.size_toArray, e]; exact Nat.le_trans (Nat.le_of_lt h) (by decide)
theorem keys_den {h h' : Heap} {l : List (Int × V)} {kvs : List (Int × Value)} {acc : Array Value} (hk : KvL h l kvs) (h1 : acc.size = kvs.length) (h2 : ∀ (i : Nat) (v : Value), acc[i]? = some v → ∃ key z, kvs[i]? = some (key, z) ∧ v.isInt key = true) : DenL h' (l.map fun p => V.int p.1) acc.toList := by
  have hlen := hk.length
  refine denL_of_get (by simp [h1, hlen]) fun i x hx => ?_
  rw [List.getElem?_map] at hx
  obtain ⟨p, hp, rfl⟩ := Option.map_eq_some_iff.mp hx
  have hi := (List.getElem?_eq_some_iff.mp hp).1
  have hi' : i < acc.size := by omega
  obtain ⟨key, z, e1, e2⟩ := h2 i acc[i] (by simp [hi'])
  refine ⟨acc[i], by simp [hi'], ?_⟩
  have e3 := congrArg (fun (l : List Int) => l[i]?) hk.1
  simp only [List.getElem?_map, e1, hp, Option.map_some, Option.some.injEq] at e3
  subst e3
  exact Value.isInt_shape e2
theorem op_call {fv : V} {f : Value} {Xs : List V} (hf : ∀ h, Den h fv f) (h : callV C k fv Xs M Q) : OpP C k (fun vs => call f vs) Xs M Q := by
  cases fv with
  | ref a =>
    cases den_ref (hf default)
    exact CallP.op h
  | bi n =>
    cases (show f = .builtin n from hf default)
    replace h := oneV_e h
    obtain ⟨X, rfl, rfl, h⟩ := h
    intro A B s vs ha R d
    obtain ⟨v, rfl, dv⟩ := den1 d
    cases X with
    | tup l =>
      obtain ⟨t, vs, rfl, it, dl⟩ := den_tup dv
      refine len_tuple it (len_b h.1 dl.length) (done_toks R ?_ h.2)
      exact ⟨_, by rw [List.size_toArray, dl.length]⟩
    | ref a =>
      cases den_ref dv
      obtain ⟨l, ho, hz, hq⟩ := h
      obtain ⟨vs, n, hl, dl⟩ := R.own _ _ ho
      refine call_len_list (PySem.IsL.isList hl) (len_b hz dl.length) (done_toks R ?_ hq)
      exact ⟨_, by rw [List.size_toArray, dl.length]⟩
    | _ => exact h.elim
  | ty n =>
    cases (show f = .type n from hf default)
    have h : tyV (n == "list") (n == "tuple") n Xs M Q := h
    cases e : n == "list" with
    | true =>
      rw [e] at h
      cases beq_iff_eq.mp e
      replace h := oneV_e h
      obtain ⟨X, rfl, h⟩ := h
      replace h := refV_e h
      obtain ⟨a, rfl, o, ho, h⟩ := h
      intro A B s vs ha R d
      obtain ⟨v, rfl, dv⟩ := den1 d
      cases den_ref dv
      cases o with
      | list l =>
        obtain ⟨hz, hq⟩ := h
        obtain ⟨vs, n, hl, dl⟩ := R.own _ _ ho
        refine call_list_seq _ (.inl rfl) hl rfl rfl (fun h' c' kk hg => ?_) (len_c hz dl.length)
        exact done_alloc (t := s.toks) (x := .list _) R kk ⟨vs, c', hg, dl.keep (.of kk)⟩ hq
      | idic l =>
        obtain ⟨hz, hq⟩ := h
        obtain ⟨kvs, hd, hk⟩ := R.own _ _ ho
        obtain ⟨ep, hat⟩ := hd.dictAt
        have hlen := hk.length
        refine kdl_call (kdl_dict (not_sys R ho)) ha.1 hat (by rw [hlen]; exact Nat.le_trans (Nat.le_of_lt hz) (by decide)) fun h' tk acc c' kk hg hacc => ?_
        refine done_alloc (t := tk) (x := .list _) R kk ⟨acc.toList, c', by rw [Array.toArray_toList]; exact hg, ?_⟩ hq
        exact keys_den hk hacc.1 hacc.2
      | _ => exact h.elim
    | false =>
    rw [e] at h
    cases e : n == "tuple" with
    | true =>
      rw [e] at h
      cases beq_iff_eq.mp e
      replace h := oneV_e h
      obtain ⟨X, rfl, h⟩ := h
      replace h := refV_e h
      obtain ⟨a, rfl, l, ho, hz, hq⟩ := h
      intro A B s vs ha R d
      obtain ⟨v, rfl, dv⟩ := den1 d
      cases den_ref dv
      obtain ⟨vs, n, hl, dl⟩ := R.own _ _ ho
      refine call_tuple_list (PySem.IsL.isList hl) (fun h' kk => ?_) (len_c hz dl.length)
      have kk' : ∀ b o, s.heap.get? b = some o → (h'.push { cls := .type "tuple", data := .seq vs.toArray }).get? b = some o := fun b o e => push_keep b o (kk b o e)
      exact done_grow (t := s.toks) R kk' (X := .tup l) ⟨_, vs, rfl, ⟨_, Heap.get?_push_size _ rfl, rfl, _, rfl⟩, dl.keep (.of kk')⟩ hq
    | false =>
    rw [e] at h
    have hz := h.2
    cases h.1
    intro A B s vs ha R d
    cases Xs with
    | cons _ _ => exact hz.elim
    | nil =>
    cases d.inv_nil
    refine call_set_0 fun led => ?_
    refine done_alloc (t := s.toks) (x := .set _ _) R push_keep ?_ hz
    exact ⟨_, #[], 0, _, Heap.get?_push_size _ rfl, ⟨rfl, rfl, rfl⟩, rfl, fun e he => by simp at he, fun k => by simp, by decide, by rfl, rfl⟩
  | _ => exact h.elim
end
end Mine

end
section
open PySem PySem.W PyProof.Rows PySem.Calls
set_option Elab.async false
set_option maxRecDepth 100000
set_option linter.all false
namespace Mine
noncomputable section
section
variable {prog : Program} {w : World} {A : Around} {E : Value → Shared → Prop} {s : Shared}
theorem adjust_to (b n : Nat) (hb : b ≤ n) : Builtin.Slice.sliceAdjust none (some (b : Int)) 1 (n : Int) = ((0 : Int), (b : Int)) := by
  unfold Builtin.Slice.sliceAdjust
  have h1 : ¬ ((1 : Int) < 0) := by omega
  have h2 : ¬ ((b : Int) < 0) := by omega
  simp only [h1, h2, if_false]
  congr 1
  omega
theorem places_to (b : Nat) : Builtin.Slice.slicePlaces (0 : Int) (b : Int) 1 = b := by
  unfold Builtin.Slice.slicePlaces
  have h1 : (1 : Int) > 0 := by omega
  simp only [h1, if_true, Int.ediv_one]
  split <;> omega
theorem sliceApplied_to {sl : Addr} {b n : Nat} {t : Tok} {Q : Int × Int × Nat → Shared → Prop} (hs : s.heap.IsSliceOf sl .none (.int b t) .none) (hb : b ≤ n) (h : Q (0, 1, b) s) :
    wpAny (model prog w) A (Builtin.Slice.sliceApplied (.ref sl) (pure (n : Int))) Q E s := by
  obtain ⟨os, hos, hcs, hds⟩ := id hs
  unfold Builtin.Slice.sliceApplied Builtin.Slice.sliceFields
  refine wpAny_bind (wpAny_bind (wpAny_field hos hds (x := .none) rfl (wpAny_bind (wpAny_field hos hds (x := .int b t) rfl (wpAny_bind (wpAny_field hos hds (x := .none) rfl (wpAny_pure ?_)))))))
  refine wpAny_bind (slicePart_none ?_)
  show wpAny _ _ (if ((1 : Int) == 0) = true then _ else _) _ _ s
  rw [if_neg (by decide)]
  refine wpAny_bind (slicePart_none (wpAny_bind (slicePart_int (wpAny_bind (wpAny_pure ?_)))))
  show wpAny _ _ (match Builtin.Slice.sliceAdjust none (some (b : Int)) 1 (n : Int) with | (lo, hi) => pure (lo, (1 : Int), Builtin.Slice.slicePlaces lo hi 1)) _ _ s
  rw [adjust_to b n hb]
  show wpAny _ _ (pure ((0 : Int), (1 : Int), Builtin.Slice.slicePlaces (0 : Int) (b : Int) 1)) _ _ s
  rw [places_to b]
  exact wpAny_pure h
theorem pick_to (xs : Array Value) (b : Nat) (hb : b ≤ xs.size) : ((List.range b).filterMap fun (k : Nat) => xs[((0 : Int) + (k : Int) * 1).toNat]?).toArray = (xs.toList.take b).toArray := by
  have e : (fun (k : Nat) => xs[((0 : Int) + (k : Int) * 1).toNat]?) = fun k => xs[0 + k]? := by
    funext k
    have : ((0 : Int) + (k : Int) * 1).toNat = 0 + k := by omega
    rw [this]
  rw [e]
  have := pick_run xs 0 b
  rw [List.filterMap_map] at this
  have e2 : ((fun x => xs[x]?) ∘ fun x => 0 + x) = fun k => xs[0 + k]? := rfl
  rw [e2] at this
  rw [this, List.drop_zero]
theorem getItem_tuple_to {t sl : Addr} {items : Array Value} {b : Nat} {u : Tok} {Q : Value → Shared → Prop} (ht : IsTup s.heap t items) (hs : s.heap.IsSliceOf sl .none (.int b u) .none) (hb : b < items.size)
    (h : Q (.ref s.heap.objs.size) { s with heap := s.heap.push { cls := .type "tuple", data := .seq (items.toList.take b).toArray } })
    (hsz : items.size ≤ sizeLine) : wpAny (model prog w) A (getItem (.ref t) (.ref sl)) Q E s := by
  have hfit : sizeOk (.seq (items.toList.take b).toArray) := by
    show (items.toList.take b).toArray.size ≤ sizeLine
    rw [List.size_toArray, List.length_take, Array.length_toList]
    omega
  obtain ⟨os, hos, hcs, hds⟩ := id hs
  have hTs : s.TypeIs (.ref sl) "slice" := ⟨os, hos, hcs⟩
  unfold getItem
  try with_reducible refine wpAny_holding ?_
  first | refine wpAny_bind (wpAny_pure ?_) | skip
  refine wpAny_bind (wpAny_sequenceKey ht.typeIs (by decide) ?_)
  refine wpAny_bind (wpAny_callSpecial?_slot (name := Str.ofString "__getitem__") ht.typeIs slot_tuple_getitem
    (wpAny_call_entry slot_tuple_getitem ht.typeIs entry_tuple_getitem ?_ (args_tuple_getitem _ _)))
  show wpAny _ _ (Builtin.Tuple.tupleItemsOf (.ref t) >>= _) _ _ s
  refine wpAny_bind (tupleItemsOf_ ht ?_)
  refine wpAny_bind (wpAny_typeOf hTs ?_)
  rw [if_pos (by decide)]
  refine wpAny_bind (sliceApplied_to hs (Nat.le_of_lt hb) ?_)
  have hno : ¬ (((0 : Int) == 0 && (1 : Int) == 1 && b == items.size) = true) := by
    have : (b == items.size) = false := by rw [beq_eq_false_iff_ne]; omega
    rw [this]; simp
  show wpAny _ _ (if ((0 : Int) == 0 && (1 : Int) == 1 && b == items.size) = true then _ else _) _ _ s
  rw [if_neg hno, pick_to items b (Nat.le_of_lt hb)]
  first
    | exact wpAny_bind (m := Builtin.Tuple.tupleExact _) (wpAny_newObj_type (wpAny_pure ⟨_, rfl, wpAny_pure h⟩) hfit)
    | exact wpAny_bind (m := Builtin.Tuple.tupleExact _) (wpAny_newObj_type (wpAny_bind (wpAny_pure (wpAny_pure ⟨_, rfl, wpAny_pure h⟩))) hfit)
    | exact wpAny_bind (wpAny_bind (m := Builtin.Tuple.tupleExact _) (wpAny_newObj_type (wpAny_pure (wpAny_pure ⟨_, rfl, wpAny_pure h⟩)) hfit))
    | exact wpAny_bind (wpAny_bind (m := Builtin.Tuple.tupleExact _) (wpAny_newObj_type (wpAny_pure ⟨_, rfl, wpAny_pure h⟩) hfit))
end
variable {C : Cx} {k : Nat} {M : Mm} {Q : V → Mm → Prop}
-- o[:n]
noncomputable def cutV (C : Cx) (M : Mm) (X Y : V) (Q : V → Mm → Prop) : Prop := intV Y fun n => match X with
  | .tup l => 0 ≤ n ∧ n.toNat < l.length ∧ l.length < 1000000 ∧ Q (.tup (l.take n.toNat)) M
  | .ref a => 0 ≤ n ∧ ((∃ l, M a = some (.list l) ∧ l.length < 1000000 ∧ ∀ b, M b = none → Q (.ref b) (Mine.upd M b (.list (l.take n.toNat)))) ∨ (a = C.sc ∧ ∀ b, M b = none → Q (.ref b) (Mine.upd M b (.list ((C.sl.map V.int).take n.toNat)))))
  | _ => False
theorem len_d {l : List V} {vs : List Value} (h : l.length < 1000000) (e : vs.length = l.length) : vs.toArray.size ≤ sizeLine := by rw [List.size_toArray, e]; exact Nat.le_trans (Nat.le_of_lt h) (by decide)
theorem op_cut {X Y : V} (h : cutV C M X Y Q) : CutP C k X Y M Q := fun A B s a b sl ha R da db hs => by
  replace h := intV_e h
  obtain ⟨n, rfl, h⟩ := h
  obtain ⟨u, rfl⟩ := den_int db
  cases X with
  | tup l =>
    obtain ⟨t, vs, rfl, it, dl⟩ := den_tup da
    obtain ⟨h0, h1, h2, hq⟩ := h
    obtain ⟨n, rfl⟩ := Int.eq_ofNat_of_zero_le h0
    refine ⟨⟨_, _, it.typeIs, slot_tuple_getitem.lookup⟩, getItem_tuple_to it hs (by rw [List.size_toArray, dl.length]; exact h1) ?_ (len_d h2 dl.length)⟩
    exact done_grow (t := s.toks) R push_keep (X := .tup (l.take n)) ⟨_, vs.take n, rfl, ⟨_, Heap.get?_push_size _ rfl, rfl, 0, rfl⟩, (dl.take _).keep (.of push_keep)⟩ hq
  | ref a =>
    cases den_ref da
    obtain ⟨h0, h⟩ := h
    obtain ⟨l, h1, hq, vs, m, hl, dl⟩ : ∃ l, l.length < 1000000 ∧ (∀ b, M b = none → Q (.ref b) (Mine.upd M b (.list (l.take n.toNat)))) ∧ ∃ vs n, s.heap.get? a = some (listOf (List.toArray vs) n) ∧ DenL s.heap l vs := by
      rcases h with ⟨l, ho, h1, hq⟩ | ⟨rfl, hq⟩
      · exact ⟨l, h1, hq, R.own _ _ ho⟩
      · obtain ⟨vs, h2, h3⟩ := C.scr
        exact ⟨_, by have := C.sll; simp; omega, hq, vs, 0, R.keep0 _ _ h2, h3.keep (.of R.keep0)⟩
    obtain ⟨n, rfl⟩ := Int.eq_ofNat_of_zero_le h0
    refine ⟨⟨_, _, (PySem.IsL.isList hl).typeIs, slot_list_getitem.lookup⟩, wpAny_getItem_list_slice (PySem.IsL.isList hl) hs .none (.int _ _) .none (by simp) ?_ (len_d h1 dl.length)⟩
    refine done_alloc (t := s.toks) (x := .list _) R push_keep ⟨vs.take n, 0, ?_, (dl.take _).keep (.of push_keep)⟩ hq
    rw [slicePick_upto']
    exact Heap.get?_push_size _ rfl
  | _ => exact h.elim
theorem aok_d {u k : Nat} (h : u + (k + 1) < 900) : u + 1 + k < 900 := by omega
theorem aok_u {u k : Nat} (h : u + 10 * (k + 1) < 9000) : u + 1 + 10 * k < 9000 := by omega
-- an instance comes to be
theorem call_class {c fI : Addr} {Xs : List V} (hm : makesIn (KT C.w.params) c = true) (hi : findIn (KT C.w.params) (.ref c) "__init__" = some (some (.ref fI))) (hf : typeIn (KT C.w.params) (.ref fI) = some (.type "function"))
    (h : ∀ x d, M x = none → M d = none → x ≠ d → CallP C k (.ref fI) (.ref x :: Xs) (Mine.upd (Mine.upd M d (.ns [])) x (.inst c d)) fun X M' => X = .none ∧ Q (.ref x) M') : CallP C (k + 1) (.ref c) Xs M Q := fun A B s vs ha R d => by
  obtain ⟨hh, g, dr, t, os⟩ := s
  have R1 := R.alloc (x := .ns []) push_keep ⟨[], 0, Heap.get?_push_size _ rfl, rfl⟩ t
  have R2 := R1.alloc (x := .inst c hh.objs.size) (h' := (hh.push emptyDict).push (instObj c hh.objs.size)) push_keep ⟨_, Heap.get?_push_size _ rfl⟩ t
  have fr := R.fresh
  have fr1 := R1.fresh
  have e : (hh.push emptyDict).objs.size = hh.objs.size + 1 := Heap.size_push ..
  refine make_core (makes_of R.kin hm) (looks_findIn R.kin hi) (fun self => bind_fn R.kin self hf) (.inl rfl) ?_
  have kk : KeepT hh ((hh.push emptyDict).push (instObj c hh.objs.size)) := .of fun b o e => push_keep b o (push_keep b o e)
  refine codeAny_mono (h (hh.objs.size + 1) hh.objs.size ?_ fr.1 (Nat.succ_ne_self _) (A.under (.builtin "type.__call__" ⟨.ref c :: vs, []⟩)) B ⟨(hh.push emptyDict).push (instObj c hh.objs.size), g, dr, t, os⟩ (.ref (hh.objs.size + 1) :: vs) ?_ ?_ (.cons rfl (d.keep kk))) fun r s' z => ?_
  · have q := fr1.1
    rw [e] at q
    rwa [upd_ne _ _ (Nat.succ_ne_self _)] at q
  · exact ⟨ha.1, aok_d ha.2.1, aok_u ha.2.2⟩
  · rw [← e]; exact R2
  · obtain ⟨v, X, M', hr, R', k', dv, hX, hq⟩ := z
    cases hr; cases hX; cases (show v = .none from dv)
    exact ⟨rfl, .ref (hh.objs.size + 1), .ref (hh.objs.size + 1), M', rfl, R', kk.trans k', rfl, hq⟩
end
end Mine

end
section
open PySem PySem.W PyProof.Rows PySem.Calls
set_option Elab.async false
set_option maxRecDepth 100000
set_option linter.all false
namespace Mine
noncomputable section
noncomputable def n_fixed_atoms : Str := u [102, 105, 120, 101, 100, 95, 97, 116, 111, 109, 115]
noncomputable def n_fixed_functors : Str := u [102, 105, 120, 101, 100, 95, 102, 117, 110, 99, 116, 111, 114, 115]
noncomputable def n_push_arguments : Str := u [112, 117, 115, 104, 95, 97, 114, 103, 117, 109, 101, 110, 116, 115]
noncomputable def n_push_pairs : Str := u [112, 117, 115, 104, 95, 112, 97, 105, 114, 115]
noncomputable def n_same_shape : Str := u [115, 97, 109, 101, 95, 115, 104, 97, 112, 101]
noncomputable def n_is_variable : Str := u [105, 115, 95, 118, 97, 114, 105, 97, 98, 108, 101]
noncomputable def n_unify : Str := u [117, 110, 105, 102, 121]
noncomputable def n_bind_checked : Str := u [98, 105, 110, 100, 95, 99, 104, 101, 99, 107, 101, 100]
noncomputable def n_trial : Str := u [116, 114, 105, 97, 108]
noncomputable def n_occurs_in : Str := u [111, 99, 99, 117, 114, 115, 95, 105, 110]
noncomputable def n_rank : Str := u [114, 97, 110, 107]
noncomputable def n_order : Str := u [111, 114, 100, 101, 114]
noncomputable def n_compare_shapes : Str := u [99, 111, 109, 112, 97, 114, 101, 95, 115, 104, 97, 112, 101, 115]
noncomputable def n_compare_tops : Str := u [99, 111, 109, 112, 97, 114, 101, 95, 116, 111, 112, 115]
noncomputable def n_compare : Str := u [99, 111, 109, 112, 97, 114, 101]
noncomputable def n_identical : Str := u [105, 100, 101, 110, 116, 105, 99, 97, 108]
noncomputable def n_variables : Str := u [118, 97, 114, 105, 97, 98, 108, 101, 115]
noncomputable def n_ground : Str := u [103, 114, 111, 117, 110, 100]
noncomputable def n__law_start : Str := u [95, 108, 97, 119, 95, 115, 116, 97, 114, 116]
noncomputable def n__law_step : Str := u [95, 108, 97, 119, 95, 115, 116, 101, 112]
noncomputable def n__law_tree : Str := u [95, 108, 97, 119, 95, 116, 114, 101, 101]
noncomputable def n__law_areas : Str := u [95, 108, 97, 119, 95, 97, 114, 101, 97, 115]
noncomputable def n_law : Str := u [108, 97, 119]
noncomputable def n_Symbols : Str := u [83, 121, 109, 98, 111, 108, 115]
noncomputable def n_Store : Str := u [83, 116, 111, 114, 101]
noncomputable def n_PairSet : Str := u [80, 97, 105, 114, 83, 101, 116]
noncomputable def n_A_NIL : Str := u [65, 95, 78, 73, 76]
noncomputable def n_F_DOT : Str := u [70, 95, 68, 79, 84]
noncomputable def n_REF : Str := u [82, 69, 70]
noncomputable def n_SRF : Str := u [83, 82, 70]
noncomputable def n_STR : Str := u [83, 84, 82]
noncomputable def n_LIS : Str := u [76, 73, 83]
noncomputable def n_CON : Str := u [67, 79, 78]
noncomputable def n_INT : Str := u [73, 78, 84]
noncomputable def n_FUN : Str := u [70, 85, 78]
noncomputable def n_len : Str := u [108, 101, 110]
noncomputable def n_range : Str := u [114, 97, 110, 103, 101]
noncomputable def n_list : Str := u [108, 105, 115, 116]
noncomputable def n_tuple : Str := u [116, 117, 112, 108, 101]
noncomputable def n_set : Str := u [115, 101, 116]
noncomputable def n_atom : Str := u [97, 116, 111, 109]
noncomputable def n_text : Str := u [116, 101, 120, 116]
noncomputable def n_functor : Str := u [102, 117, 110, 99, 116, 111, 114]
noncomputable def n_func : Str := u [102, 117, 110, 99]
noncomputable def n_name : Str := u [110, 97, 109, 101]
noncomputable def n_arity : Str := u [97, 114, 105, 116, 121]
noncomputable def n_push : Str := u [112, 117, 115, 104]
noncomputable def n_new_var : Str := u [110, 101, 119, 95, 118, 97, 114]
noncomputable def n_reserve : Str := u [114, 101, 115, 101, 114, 118, 101]
noncomputable def n_deref : Str := u [100, 101, 114, 101, 102]
noncomputable def n_is_unbound : Str := u [105, 115, 95, 117, 110, 98, 111, 117, 110, 100]
noncomputable def n_bind : Str := u [98, 105, 110, 100]
noncomputable def n_bind_pair : Str := u [98, 105, 110, 100, 95, 112, 97, 105, 114]
noncomputable def n_globalise : Str := u [103, 108, 111, 98, 97, 108, 105, 115, 101]
noncomputable def n_mark : Str := u [109, 97, 114, 107]
noncomputable def n_undo_to : Str := u [117, 110, 100, 111, 95, 116, 111]
noncomputable def n_stack_put : Str := u [115, 116, 97, 99, 107, 95, 112, 117, 116]
noncomputable def n_is_compound : Str := u [105, 115, 95, 99, 111, 109, 112, 111, 117, 110, 100]
noncomputable def n_functor_of : Str := u [102, 117, 110, 99, 116, 111, 114, 95, 111, 102]
noncomputable def n_width : Str := u [119, 105, 100, 116, 104]
noncomputable def n_base : Str := u [98, 97, 115, 101]
noncomputable def n_new_block : Str := u [110, 101, 119, 95, 98, 108, 111, 99, 107]
noncomputable def n_put_term : Str := u [112, 117, 116, 95, 116, 101, 114, 109]
noncomputable def n_texts : Str := u [116, 101, 120, 116, 115]
noncomputable def n_atom_numbers : Str := u [97, 116, 111, 109, 95, 110, 117, 109, 98, 101, 114, 115]
noncomputable def n_functors : Str := u [102, 117, 110, 99, 116, 111, 114, 115]
noncomputable def n_functor_numbers : Str := u [102, 117, 110, 99, 116, 111, 114, 95, 110, 117, 109, 98, 101, 114, 115]
noncomputable def n_symbols : Str := u [115, 121, 109, 98, 111, 108, 115]
noncomputable def n_max_heap : Str := u [109, 97, 120, 95, 104, 101, 97, 112]
noncomputable def n_heap : Str := u [104, 101, 97, 112]
noncomputable def n_stack : Str := u [115, 116, 97, 99, 107]
noncomputable def n_trail : Str := u [116, 114, 97, 105, 108]
noncomputable def n_hb : Str := u [104, 98]
noncomputable def n_bb : Str := u [98, 98]
noncomputable def n_span : Str := u [115, 112, 97, 110]
noncomputable def n_met : Str := u [109, 101, 116]
noncomputable def n_self : Str := u [115, 101, 108, 102]
noncomputable def n_found : Str := u [102, 111, 117, 110, 100]
noncomputable def n_cell : Str := u [99, 101, 108, 108]
noncomputable def n_count : Str := u [99, 111, 117, 110, 116]
noncomputable def n_first : Str := u [102, 105, 114, 115, 116]
noncomputable def n_place : Str := u [112, 108, 97, 99, 101]
noncomputable def n_value : Str := u [118, 97, 108, 117, 101]
noncomputable def n_c1 : Str := u [99, 49]
noncomputable def n_c2 : Str := u [99, 50]
noncomputable def n_i : Str := u [105]
noncomputable def n_f : Str := u [102]
noncomputable def n_start : Str := u [115, 116, 97, 114, 116]
noncomputable def n_term : Str := u [116, 101, 114, 109]
noncomputable def n_table : Str := u [116, 97, 98, 108, 101]
noncomputable def n_kind : Str := u [107, 105, 110, 100]
noncomputable def n_made : Str := u [109, 97, 100, 101]
noncomputable def n_waiting : Str := u [119, 97, 105, 116, 105, 110, 103]
noncomputable def n_at : Str := u [97, 116]
noncomputable def n_store : Str := u [115, 116, 111, 114, 101]
noncomputable def n_left : Str := u [108, 101, 102, 116]
noncomputable def n_right : Str := u [114, 105, 103, 104, 116]
noncomputable def n_work : Str := u [119, 111, 114, 107]
noncomputable def n_left_place : Str := u [108, 101, 102, 116, 95, 112, 108, 97, 99, 101]
noncomputable def n_right_place : Str := u [114, 105, 103, 104, 116, 95, 112, 108, 97, 99, 101]
noncomputable def n_variable : Str := u [118, 97, 114, 105, 97, 98, 108, 101]
noncomputable def n_occurs : Str := u [111, 99, 99, 117, 114, 115]
noncomputable def n_g : Str := u [103]
noncomputable def n_noted : Str := u [110, 111, 116, 101, 100]
noncomputable def n_script : Str := u [115, 99, 114, 105, 112, 116]
noncomputable def n_kept : Str := u [107, 101, 112, 116]
noncomputable def n_hand : Str := u [104, 97, 110, 100]
noncomputable def n_ways : Str := u [119, 97, 121, 115]
noncomputable def n_names : Str := u [110, 97, 109, 101, 115]
noncomputable def n_deep : Str := u [100, 101, 101, 112]
noncomputable def n_lap : Str := u [108, 97, 112]
noncomputable def n_one : Str := u [111, 110, 101]
noncomputable def n_other : Str := u [111, 116, 104, 101, 114]
noncomputable def n_before : Str := u [98, 101, 102, 111, 114, 101]
noncomputable def n_told : Str := u [116, 111, 108, 100]
noncomputable def n_back : Str := u [98, 97, 99, 107]
noncomputable def n_done : Str := u [100, 111, 110, 101]
-- a global name's value, as ours and as the model's, and is it a built-in?
noncomputable def gRows : List (Str × V × Tok × Bool) := [
  (n_fixed_atoms, .ref 60, 0, false),
  (n_fixed_functors, .ref 67, 0, false),
  (n_push_arguments, .ref 411, 0, false),
  (n_push_pairs, .ref 418, 0, false),
  (n_same_shape, .ref 425, 0, false),
  (n_is_variable, .ref 432, 0, false),
  (n_unify, .ref 439, 0, false),
  (n_bind_checked, .ref 446, 0, false),
  (n_trial, .ref 453, 0, false),
  (n_occurs_in, .ref 460, 0, false),
  (n_rank, .ref 467, 0, false),
  (n_order, .ref 474, 0, false),
  (n_compare_shapes, .ref 481, 0, false),
  (n_compare_tops, .ref 488, 0, false),
  (n_compare, .ref 495, 0, false),
  (n_identical, .ref 502, 0, false),
  (n_variables, .ref 509, 0, false),
  (n_ground, .ref 516, 0, false),
  (n__law_start, .ref 523, 0, false),
  (n__law_step, .ref 530, 0, false),
  (n__law_tree, .ref 535, 0, false),
  (n__law_areas, .ref 542, 0, false),
  (n_law, .ref 549, 0, false),
  (n_Symbols, .ref 154, 0, false),
  (n_Store, .ref 374, 0, false),
  (n_PairSet, .ref 400, 0, false),
  (n_A_NIL, .int 0, 241, false),
  (n_F_DOT, .int 0, 245, false),
  (n_REF, .int 0, 410, false),
  (n_SRF, .int 1, 412, false),
  (n_STR, .int 2, 414, false),
  (n_LIS, .int 3, 416, false),
  (n_CON, .int 4, 418, false),
  (n_INT, .int 5, 420, false),
  (n_FUN, .int 6, 422, false),
  (n_len, .bi "len", 0, true),
  (n_range, .ty "range", 0, true),
  (n_list, .ty "list", 0, true),
  (n_tuple, .ty "tuple", 0, true),
  (n_set, .ty "set", 0, true)]
noncomputable def gval (X : V) (t : Tok) : Value := match X with
  | .ref a => .ref a
  | .int i => .int i t
  | .bi n => .builtin n
  | .ty n => .type n
  | _ => .none
noncomputable def gOk (X : V) (b : Bool) : Bool := match X with
  | .ref _ => !b
  | .int _ => true
  | .bi _ => true
  | .ty _ => true
  | _ => false
noncomputable def aRows : List (Addr × Str) := [(154, n_texts), (154, n_atom_numbers), (154, n_functors), (154, n_functor_numbers), (374, n_symbols), (374, n_max_heap), (374, n_heap), (374, n_stack), (374, n_trail), (374, n_hb), (374, n_bb), (400, n_span), (400, n_met)]
noncomputable def mRows : List (Addr × Str × Addr) := [(154, n_atom, 88), (154, n_text, 95), (154, n_functor, 102), (154, n_func, 109), (154, n_name, 116), (154, n_arity, 123), (374, n_push, 202), (374, n_new_var, 209), (374, n_reserve, 216), (374, n_deref, 230), (374, n_is_unbound, 237), (374, n_bind, 244), (374, n_bind_pair, 251), (374, n_globalise, 258), (374, n_mark, 265), (374, n_undo_to, 272), (374, n_stack_put, 279), (374, n_is_compound, 286), (374, n_functor_of, 293), (374, n_width, 300), (374, n_base, 307), (374, n_new_block, 321), (374, n_put_term, 364), (400, n_add, 397)]
theorem gRows_ok (P : Params) : gRows.map (fun r => nsIn (KT P) mainGlobals r.1) = gRows.map (fun r => some (match r.2.2.2 with | true => none | false => some (gval r.2.1 r.2.2.1))) := by kernel_rfl
theorem gRows_bi : (gRows.filter fun r => r.2.2.2).map (fun r => bootBuiltins r.1) = (gRows.filter fun r => r.2.2.2).map (fun r => some (gval r.2.1 r.2.2.1)) := by kernel_rfl
theorem gRows_nm : gRows.all (fun r => decide (r.1 ≠ "__name__")) = true := by kernel_rfl
noncomputable def gv : List (Str × V × Tok × Bool) → Str → Option (V × Tok × Bool)
  | [], _ => none
  | (y, r) :: l, x => match sq x y with | true => some r | false => gv l x
theorem gv_mem {x : Str} {r : V × Tok × Bool} : ∀ {l : List (Str × V × Tok × Bool)}, gv l x = some r → (x, r) ∈ l := by
  intro l
  induction l with
  | nil => intro h; cases h
  | cons z l ih =>
    intro h
    have h : (match sq x z.1 with | true => some z.2 | false => gv l x) = some r := h
    cases q : sq x z.1 with
    | true => rw [q] at h; cases h; rw [sq_iff.mp q]; exact .head _
    | false => rw [q] at h; exact .tail _ (ih h)
theorem gRows_fit : gRows.all (fun r => gOk r.2.1 r.2.2.2) = true := by kernel_rfl
theorem gv_fit {x : Str} {X : V} {t : Tok} {b : Bool} (h : gv gRows x = some (X, t, b)) : gOk X b = true := List.all_eq_true.mp gRows_fit _ (gv_mem h)
theorem gOk_den {X : V} {t : Tok} {b : Bool} (h : gOk X b = true) (hp : Heap) : Den hp X (gval X t) := by
  cases X <;> first | rfl | exact ⟨_, rfl⟩ | cases h
theorem gOk_one {X : V} {t : Tok} {b : Bool} (h : gOk X b = true) (hX : ∀ i, X ≠ .int i) {hp : Heap} {w : Value} (d : Den hp X w) : w = gval X t := by
  cases X <;> first | exact absurd rfl (hX _) | exact d | cases h
theorem gv_ok {x : Str} {X : V} {t : Tok} {b : Bool} (h : gv gRows x = some (X, t, b)) : (∀ hp, Den hp X (gval X t)) ∧ x ≠ "__name__" ∧
    (b = false → ∀ P, nsIn (KT P) mainGlobals x = some (some (gval X t))) ∧ (b = true → (∀ P, nsIn (KT P) mainGlobals x = some none) ∧ bootBuiltins x = some (gval X t)) := by
  have hm := gv_mem h
  refine ⟨gOk_den (gv_fit h), of_decide_eq_true (List.all_eq_true.mp gRows_nm _ hm), fun hb P => ?_, fun hb => ⟨fun P => ?_, ?_⟩⟩
  · subst hb; exact List.map_inj_left.mp (gRows_ok P) _ hm
  · subst hb; exact List.map_inj_left.mp (gRows_ok P) _ hm
  · subst hb
    exact List.map_inj_left.mp gRows_bi _ (List.mem_filter.mpr ⟨hm, rfl⟩)
noncomputable def attrIn (c : Addr) (x : Str) : Bool := aRows.any fun r => Nat.beq r.1 c && sq r.2 x
theorem aRows_ok (P : Params) : aRows.map (fun r => (plainGet (KT P) r.1 r.2, hasDictIn (KT P) r.1, findIn (KT P) (.ref r.1) r.2, findIn (KT P) (.ref r.1) "__setattr__", plainOver (KT P) r.1)) =
    aRows.map (fun _ => (true, true, some none, some (some (.builtin "object.__setattr__")), true)) := by kernel_rfl
theorem attr_ok {P : Params} {c : Addr} {x : Str} (h : attrIn c x = true) : AttrOk P c x := by
  obtain ⟨r, hm, hr⟩ := List.any_eq_true.mp h
  simp only [Bool.and_eq_true] at hr
  have h1 := Nat.eq_of_beq_eq_true hr.1
  have h2 := sq_iff.mp hr.2
  have := List.map_inj_left.mp (aRows_ok P) _ hm
  simp only [Prod.mk.injEq] at this
  subst h1 h2
  exact ⟨this.1, this.2.1, this.2.2.1, this.2.2.2.1, this.2.2.2.2⟩
noncomputable def mIn : List (Addr × Str × Addr) → Addr → Str → Option Addr
  | [], _, _ => none
  | (d, y, f) :: l, c, x => match Nat.beq d c && sq y x with | true => some f | false => mIn l c x
theorem mIn_mem {c : Addr} {x : Str} {f : Addr} : ∀ {l : List (Addr × Str × Addr)}, mIn l c x = some f → (c, x, f) ∈ l
  | [], h => by cases h
  | (d, y, g) :: l, h => by
    unfold mIn at h
    cases q : (Nat.beq d c && sq y x) with
    | true =>
      rw [q] at h; cases h
      simp only [Bool.and_eq_true] at q
      rw [← Nat.eq_of_beq_eq_true q.1, ← sq_iff.mp q.2]; exact .head _
    | false => rw [q] at h; exact .tail _ (mIn_mem h)
noncomputable def methIn (c : Addr) (x : Str) : Option Addr := mIn mRows c x
theorem mRows_ok (P : Params) : mRows.map (fun r => (plainGet (KT P) r.1 r.2.1, findIn (KT P) (.ref r.1) r.2.1, isFn (KT P) (.ref r.2.2), keepIn (KT P) (.ref r.2.2))) =
    mRows.map (fun r => (true, some (some (.ref r.2.2)), true, true)) := by kernel_rfl
theorem meth_ok {P : Params} {c : Addr} {x : Str} {f : Addr} (h : methIn c x = some f) : MethOk P c x f := by
  have := List.map_inj_left.mp (mRows_ok P) _ (mIn_mem h)
  simp only [Prod.mk.injEq] at this
  exact ⟨this.1, this.2.1, this.2.2.1, this.2.2.2⟩
theorem gRows_keep (P : Params) : (gRows.filter fun r => !r.2.2.2).all (fun r => match r.2.1 with | .ref a => keepIn (KT P) (.ref a) | _ => true) = true := by kernel_rfl
theorem gv_calm {C : Cx} {x : Str} {X : V} {t : Tok} {b : Bool} (h : gv gRows x = some (X, t, b)) (hX : ∀ i, X ≠ .int i) : Calm C (gval X t) := by
  have hf := gv_fit h
  cases X with
  | ref a =>
    cases b with
    | true => cases hf
    | false => exact calm_in (List.all_eq_true.mp (gRows_keep C.w.params) _ (List.mem_filter.mpr ⟨gv_mem h, rfl⟩))
  | int i => exact absurd rfl (hX _)
  | bi n => exact calm_bi
  | ty n => exact calm_ty
  | _ => cases hf
end
end Mine

end
section
open PySem PySem.W PyProof.Rows PySem.Calls
set_option Elab.async false
set_option maxRecDepth 100000
set_option linter.all false
namespace Mine
noncomputable section
noncomputable def chk (b : Bool) (P : Prop) : Prop := match b with
  | true => P
  | false => False
theorem chk.inv {b : Bool} {P : Prop} (h : chk b P) : b = true ∧ P := by cases b <;> first | exact h.elim | exact ⟨rfl, h⟩
theorem chk.c1 {b : Bool} {P : Prop} (h : chk b P) : b = true := h.inv.1
theorem chk.c2 {b : Bool} {P : Prop} (h : chk b P) : P := h.inv.2
theorem bnot {b : Bool} (h : (!b) = true) : b = false := by cases b <;> first | rfl | cases h
theorem band {a b : Bool} (h : (a && b) = true) : a = true ∧ b = true := Bool.and_eq_true_iff.mp h
noncomputable def optV {α : Type} (o : Option α) (K : α → Prop) (N : Prop) : Prop := match o with
  | some X => K X
  | none => N
theorem optV_e {α : Type} {o : Option α} {K : α → Prop} {N : Prop} (h : optV o K N) : (∃ X, o = some X ∧ K X) ∨ N := by
  cases o with
  | none => exact .inr h
  | some X => exact .inl ⟨X, rfl, h⟩
noncomputable def isKd (F : Fi) (x : Str) (kd : NameKind) : Bool := decide (F.sc.names.lookup x = some kd)
noncomputable def noDbg (x : Str) : Bool := !(x == ("__debug__" : Str)) && !(x == ("__classdict__" : Str))
theorem noDbg1 {x : Str} (h : noDbg x = true) : (x == ("__debug__" : Str)) = false := by
  unfold noDbg at h; simp only [Bool.and_eq_true, Bool.not_eq_true'] at h; exact h.1
theorem noDbg2 {x : Str} (h : noDbg x = true) : (x == ("__classdict__" : Str)) = false := by
  unfold noDbg at h; simp only [Bool.and_eq_true, Bool.not_eq_true'] at h; exact h.2
noncomputable def br (b : Bool) (P R : Prop) : Prop := match b with
  | true => P
  | false => R
theorem br.l {b : Bool} {P R : Prop} (h : br b P R) (e : b = true) : P := by subst e; exact h
theorem br.r {b : Bool} {P R : Prop} (h : br b P R) (e : b = false) : R := by subst e; exact h
-- a name's value
noncomputable def nameV (F : Fi) (loc : Loc) (x : Str) (K : V → Prop) : Prop := chk (noDbg x) (optV (lk x loc) (fun X => chk (isKd F x .local) (K X))
  (optV (lk x F.cl) (fun X => chk (isKd F x .cell || isKd F x .free) (K X)) (optV (gv gRows x) (fun r => chk (isKd F x .globalImplicit) (K r.1)) False)))
noncomputable def gatherV : List Str → Loc → (List V → Prop) → Prop
  | [], _, K => K []
  | x :: r, loc, K => optV (lk x loc) (fun X => gatherV r loc fun vs => K (X :: vs)) False
noncomputable def zipL : List Str → List V → Loc
  | x :: r, v :: vs => (x, v) :: zipL r vs
  | _, _ => []
noncomputable def allV : Nat → (List V → Prop) → Prop
  | 0, P => P []
  | n + 1, P => ∀ v, allV n fun l => P (v :: l)
theorem allV.at {n : Nat} : ∀ {P : List V → Prop}, allV n P → ∀ l, l.length = n → P l := by
  induction n with
  | zero => intro P h l e; cases List.eq_nil_of_length_eq_zero e; exact h
  | succ n ih =>
    intro P h l e
    cases l with
    | nil => cases e
    | cons v l => exact ih (h v) l (Nat.succ.inj e)
theorem gatherV.inv {loc : Loc} {ns : List Str} : ∀ {K : List V → Prop}, gatherV ns loc K → ∃ vals, vals.length = ns.length ∧ (∀ x X, lk x (zipL ns vals) = some X → lk x loc = some X) ∧ K vals := by
  induction ns with
  | nil => intro K h; exact ⟨[], rfl, (fun x X e => nomatch e), h⟩
  | cons y r ih =>
    intro K h
    rcases optV_e (K := fun X => gatherV r loc fun vs => K (X :: vs)) h with ⟨Y, hY, h⟩ | h
    · obtain ⟨vals, h1, h2, h3⟩ := ih h
      refine ⟨Y :: vals, congrArg Nat.succ h1, fun x X e => ?_, h3⟩
      have e : lk x ((y, Y) :: zipL r vals) = some X := e
      rw [lk_cons] at e
      by_cases q : x = y
      · rw [if_pos q] at e; cases e; rw [q]; exact hY
      · rw [if_neg q] at e; exact h2 x X e
    · exact h.elim
noncomputable def negV (X : V) (Q : V → Prop) : Prop := match X with
  | .int i => Q (.int (-i))
  | _ => False
noncomputable def pairV (X : V) (Q : V → V → Prop) : Prop := match X with
  | .tup l => twoV l Q
  | _ => False
theorem pairV_e {X : V} {Q : V → V → Prop} (h : pairV X Q) : ∃ a b, X = .tup [a, b] ∧ Q a b := by
  cases X with
  | tup l => obtain ⟨a, b, rfl, h⟩ := twoV_e (K := Q) h; exact ⟨a, b, rfl, h⟩
  | _ => exact h.elim
noncomputable def srcV (X : V) (items : List V) (M : Mm) : Prop := match X with
  | .tup l => items = l
  | .ref a => M a = some (.list items)
  | _ => False
noncomputable def rngV (Xs : List V) (K : Int → Int → Nat → Prop) : Prop := match Xs with
  | [] => False
  | X :: r => intV X fun m => match r with
    | [] => -1000 < m ∧ m < 1000 ∧ K 0 1 m.toNat
    | E :: r => intV E fun e => oneV r fun D => intV D fun d => d = -1 ∧ e = -1 ∧ -1000 < m ∧ m < 1000 ∧ K m (-1) (m + 1).toNat
theorem rngV_e {Xs : List V} {K : Int → Int → Nat → Prop} (h : rngV Xs K) : (∃ m, Xs = [.int m] ∧ -1000 < m ∧ m < 1000 ∧ K 0 1 m.toNat) ∨ (∃ m, Xs = [.int m, .int (-1), .int (-1)] ∧ -1000 < m ∧ m < 1000 ∧ K m (-1) (m + 1).toNat) := by
  cases Xs with
  | nil => exact h.elim
  | cons X r =>
    obtain ⟨m, hX, h1⟩ := intV_e (X := X) h
    cases r with
    | nil => exact .inl ⟨m, by rw [hX], h1⟩
    | cons E r =>
      obtain ⟨e, hE, h2⟩ := intV_e (X := E) h1
      obtain ⟨D, hr, h3⟩ := oneV_e h2
      obtain ⟨d, hD, hd, he, h4⟩ := intV_e h3
      exact .inr ⟨m, by rw [hX, hE, hr, hD, hd, he], h4⟩
noncomputable def isNil {α : Type} : List α → Bool
  | [] => true
  | _ => false
-- what a for goes over
inductive RgV : Expr → Type where
  | rg (f : Str) (p : Pos) (es : List Expr) (p' : Pos) (hf : f = n_range) : RgV (.Call (.Name f p) es [] p')
  | no (e : Expr) : RgV e
noncomputable def rgOf (f : Str) (p : Pos) (es : List Expr) (p' : Pos) : (b : Bool) → sq f n_range = b → RgV (.Call (.Name f p) es [] p')
  | true, h => .rg f p es p' (sq_iff.mp h)
  | false, _ => .no _
noncomputable def rgV (e : Expr) : RgV e := match e with
  | .Call f es kw p' => match f with
    | .Name f p => match kw with
      | [] => rgOf f p es p' _ rfl
      | _ :: _ => .no _
    | _ => .no _
  | _ => .no _
-- a target
inductive TgV : List Expr → Type where
  | name (x : Str) (p : Pos) : TgV [.Name x p]
  | attr (o : Expr) (x : Str) (p : Pos) : TgV [.Attribute o x p]
  | item (o i : Expr) (p : Pos) : TgV [.Subscript o i p]
  | pair (x y : Str) (p1 p2 : Pos) (k : Nat) (p : Pos) : TgV [.Tuple [.Name x p1, .Name y p2] k p]
  | bad (l : List Expr) : TgV l
noncomputable def tgP (k : Nat) (p : Pos) (a b : Expr) : TgV [.Tuple [a, b] k p] := match a with
  | .Name x p1 => match b with
    | .Name y p2 => .pair x y p1 p2 k p
    | _ => .bad _
  | _ => .bad _
noncomputable def tgT (k : Nat) (p : Pos) (es : List Expr) : TgV [.Tuple es k p] := match es with
  | [] => .bad _
  | a :: r => match r with
    | [] => .bad _
    | b :: r => match r with
      | [] => tgP k p a b
      | _ :: _ => .bad _
noncomputable def tgV (l : List Expr) : TgV l := match l with
  | [] => .bad _
  | e :: r => match r with
    | _ :: _ => .bad _
    | [] => match e with
      | .Name x p => .name x p
      | .Attribute o x p => .attr o x p
      | .Subscript o i p => .item o i p
      | .Tuple es k p => tgT k p es
      | _ => .bad _
def emptyD : MO → Prop
  | .idic l => l = []
  | .sdic l => l = []
  | .tdic l => l = []
  | _ => False
-- {}: its kind is one's choice
noncomputable def dictV (M : Mm) (Q : V → Mm → Prop) : Prop := ∃ x, emptyD x ∧ ∀ a, M a = none → Q (.ref a) (Mine.upd M a x)
theorem ev_dict {C : Cx} {F : Fi} {loc : Loc} {M : Mm} {Q : V → Mm → Prop} {pos} (h : dictV M Q) : EvP C F (.Dict [] [] pos) loc M Q := fun A B s L nm fa cd cs S => by
  obtain ⟨x, hx, h⟩ := h
  refine wpAny_Dict_empty ⟨.ref _, _, S.alloc (x := x) push_keep ?_ _, .of push_keep, by simp only [Den], h _ S.rel.fresh.1⟩
  cases x with
  | idic l => cases hx; exact ⟨[], Heap.DictOf.new .., .nil⟩
  | sdic l => cases hx; exact ⟨[], Heap.DictOf.new .., .nil⟩
  | tdic l => cases hx; exact ⟨[], Heap.DictOfH.new .., .nil⟩
  | _ => exact hx.elim
set_option genInjectivity false in
inductive Job where
  | ev (e : Expr) (loc : Loc) (M : Mm) (Q : V → Mm → Prop)
  | evs (es : List Expr) (loc : Loc) (M : Mm) (Q : List V → Mm → Prop)
  | ts (e : Expr) (loc : Loc) (M : Mm) (Q : Bool → Mm → Prop)
  | ex (s : Stmt) (loc : Loc) (M : Mm) (Q : Fl → Loc → Mm → Prop)
  | exs (ss : List Stmt) (loc : Loc) (M : Mm) (Q : Fl → Loc → Mm → Prop)
abbrev Inv := Nat → List Str × (Nat → List V → Mm → Prop)
noncomputable def asgV (F : Fi) (W : Job → Prop) (v : Expr) (loc : Loc) (M : Mm) (Q : Fl → Loc → Mm → Prop) {l : List Expr} (t : TgV l) : Prop := match t with
  | .name x _ => chk (noComp v && isKd F x .local) (W (.ev v loc M fun X M' => Q .next (Mine.st x X loc) M'))
  | .attr o x _ => chk (noComp v) (W (.ev v loc M fun X M' => W (.ev o loc M' fun O M'' => setAttrV M'' attrIn X O x fun M₃ => Q .next loc M₃)))
  | .item o i _ => chk (noComp v) (W (.ev v loc M fun X M' => W (.ev o loc M' fun O M'' => W (.ev i loc M'' fun I M₃ => setItemV M₃ X O I fun M₄ => Q .next loc M₄))))
  | .pair x y _ _ _ _ => chk (noComp v && notTuple v && isKd F x .local && isKd F y .local) (W (.ev v loc M fun X M' => pairV X fun a b => Q .next (Mine.st y b (Mine.st x a loc)) M'))
  | .bad _ => False
noncomputable def frB (W : Job → Prop) (ns : List Str) (Iv : Nat → List V → Mm → Prop) (x : Str) (b : List Stmt) (loc : Loc) (M' : Mm) (Q : Fl → Loc → Mm → Prop) (a c : Int) (m : Nat) : Prop := gatherV ns loc (fun vals => Iv 0 vals M') ∧
    (∀ i : Nat, allV ns.length fun vals => ∀ M'', i < m → Iv i vals M'' → W (.exs b (Mine.st x (.int (a + i * c)) (zipL ns vals)) M'' (turnQ Q fun l' M₃ => gatherV ns l' fun vals' => Iv (i + 1) vals' M₃))) ∧
    allV ns.length fun vals => ∀ M'', Iv m vals M'' → Q .next (zipL ns vals) M''
noncomputable def frV (W : Job → Prop) (ns : List Str) (Iv : Nat → List V → Mm → Prop) (x : Str) (b : List Stmt) (es : List Expr) (loc : Loc) (M : Mm) (Q : Fl → Loc → Mm → Prop) : Prop :=
  W (.evs es loc M fun Xs M' => rngV Xs fun a c m => frB W ns Iv x b loc M' Q a c m)
noncomputable def fgV (W : Job → Prop) (ns : List Str) (Iv : Nat → List V → Mm → Prop) (x : Str) (b : List Stmt) (e : Expr) (loc : Loc) (M : Mm) (Q : Fl → Loc → Mm → Prop) : Prop :=
  W (.ev e loc M fun X M' => ∃ items, srcV X items M' ∧ gatherV ns loc (fun vals => Iv 0 vals M') ∧
    (∀ (i : Nat) Y, allV ns.length fun vals => ∀ M'', items[i]? = some Y → srcV X items M'' → Iv i vals M'' → W (.exs b (Mine.st x Y (zipL ns vals)) M'' (turnQ Q fun l' M₃ => srcV X items M₃ ∧ gatherV ns l' fun vals' => Iv (i + 1) vals' M₃))) ∧
    allV ns.length fun vals => ∀ M'', srcV X items M'' → Iv items.length vals M'' → Q .next (zipL ns vals) M'')
noncomputable def forV (F : Fi) (W : Job → Prop) (ns : List Str) (Iv : Nat → List V → Mm → Prop) (x : Str) (b : List Stmt) (loc : Loc) (M : Mm) (Q : Fl → Loc → Mm → Prop) {e : Expr} (t : RgV e) : Prop := match t with
  | .rg f _ es _ _ => chk (es.all noStar && isKd F f .globalImplicit) (frV W ns Iv x b es loc M Q)
  | .no e => chk (notSet e) (fgV W ns Iv x b e loc M Q)
noncomputable def whV (W : Job → Prop) (ns : List Str) (Iv : Nat → List V → Mm → Prop) (t : Expr) (b : List Stmt) (loc : Loc) (M : Mm) (Q : Fl → Loc → Mm → Prop) : Prop :=
  gatherV ns loc (fun vals => ∃ i, Iv i vals M) ∧
    ∀ i, allV ns.length fun vals => ∀ M', Iv i vals M' → W (.ts t (zipL ns vals) M' fun c M'' =>
      br c (W (.exs b (zipL ns vals) M'' (turnQ Q fun l' M₃ => gatherV ns l' fun vals' => ∃ m, m < i ∧ Iv m vals' M₃))) (Q .next (zipL ns vals) M''))
-- a comparison with one operator
noncomputable def cmp1 (W : Job → Prop) (l : Expr) (ops : List CmpOp) (rs : List Expr) (loc : Loc) (M : Mm) (Q : Bool → Mm → Prop) : Prop := match ops with
  | [] => False
  | op :: o => match o with
    | _ :: _ => False
    | [] => match rs with
      | [] => False
      | r :: s => match s with
        | _ :: _ => False
        | [] => chk (!behindInMarks op r) (W (.ev l loc M fun X M' => W (.ev r loc M' fun Y M'' => cmpV M'' op X Y fun b => Q b M'')))
inductive SlV : Expr → Type where
  | up (e : Expr) (p : Pos) : SlV (.Slice none (some e) none p)
  | no (i : Expr) : SlV i
noncomputable def slU (lo up stp : Option Expr) (p : Pos) : SlV (.Slice lo up stp p) := match lo with
  | some _ => .no _
  | none => match up with
    | none => .no _
    | some e => match stp with
      | none => .up e p
      | some _ => .no _
noncomputable def slV (i : Expr) : SlV i := match i with
  | .Slice lo up stp p => slU lo up stp p
  | _ => .no _
noncomputable def subV (C : Cx) (W : Job → Prop) (o : Expr) (loc : Loc) (M : Mm) (Q : V → Mm → Prop) {i : Expr} (t : SlV i) : Prop := match t with
  | .up e _ => W (.ev o loc M fun X M' => W (.ev e loc M' fun Y M'' => cutV C M'' X Y Q))
  | .no i => chk (notSlice i) (W (.ev o loc M fun X M' => W (.ev i loc M' fun Y M'' => itemV M'' X Y fun Z => Q Z M'')))
theorem cmp1_e {W : Job → Prop} {l : Expr} {ops : List CmpOp} {rs : List Expr} {loc : Loc} {M : Mm} {Q : Bool → Mm → Prop} (h : cmp1 W l ops rs loc M Q) :
    ∃ op r, ops = [op] ∧ rs = [r] ∧ chk (!behindInMarks op r) (W (.ev l loc M fun X M' => W (.ev r loc M' fun Y M'' => cmpV M'' op X Y fun b => Q b M''))) := by
  rcases ops with _ | ⟨op, _ | ⟨_, _⟩⟩
  · exact h.elim
  · rcases rs with _ | ⟨r, _ | ⟨_, _⟩⟩
    · exact h.elim
    · exact ⟨op, r, rfl, rfl, h⟩
    · exact h.elim
  · exact h.elim
noncomputable def notInt : V → Bool
  | .int _ => false
  | _ => true
-- the condition of a piece of text: LS gives a loop's names and invariant by its line
noncomputable def stepV (C : Cx) (F : Fi) (LS : Inv) (W : Job → Prop) : Job → Prop
  | .ev e loc M Q => match e with
    | .Constant c _ _ => (match c with
      | .int i => Q (.int i) M
      | .str x => Q (.str x) M
      | .bool b => Q (.bool b) M
      | .none => Q .none M
      | _ => False)
    | .Name x _ => nameV F loc x fun X => Q X M
    | .Tuple es _ _ => W (.evs es loc M fun Xs M' => chk (Nat.ble Xs.length 1000) (Q (.tup Xs) M'))
    | .List es _ => W (.evs es loc M fun Xs M' => chk (Nat.ble Xs.length 1000) (∀ a, M' a = none → Q (.ref a) (Mine.upd M' a (.list Xs))))
    | .BinOp l op r _ => W (.ev l loc M fun X M' => W (.ev r loc M' fun Y M'' => binV op X Y fun Z => Q Z M''))
    | .UnaryOp op e _ => (match op with
      | .Not => W (.ev e loc M fun Z M' => vTruth Z fun b => Q (.bool (!b)) M')
      | .USub => W (.ev e loc M fun Z M' => negV Z fun Y => Q Y M')
      | _ => False)
    | .IfExp t b o _ => W (.ts t loc M fun c M' => br c (W (.ev b loc M' Q)) (W (.ev o loc M' Q)))
    | .BoolOp op es p => (match es with
      | [] => False
      | e :: r => match r with
        | [] => W (.ev e loc M Q)
        | e₂ :: r => match op with
          | .And => W (.ev e loc M fun Z M' => vTruth Z fun b => br b (W (.ev (.BoolOp .And (e₂ :: r) p) loc M' Q)) (Q (.bool false) M'))
          | .Or => W (.ev e loc M fun Z M' => vTruth Z fun b => br b (Q (.bool true) M') (W (.ev (.BoolOp .Or (e₂ :: r) p) loc M' Q))))
    | .Compare l ops rs _ => cmp1 W l ops rs loc M fun b M' => Q (.bool b) M'
    | .Attribute o x _ => chk (notCall o) (W (.ev o loc M fun X M' => attrV M' attrIn X x fun Y => Q Y M'))
    | .Subscript o i _ => subV C W o loc M Q (slV i)
    | .Call f args kw pos => (match kw with
      | _ :: _ => False
      | [] => match f with
        | .Name g _ => chk (args.all noStar && noDbg g && isKd F g .globalImplicit) (optV (lk g loc) (fun _ => False) (optV (gv gRows g) (fun r => chk (notInt r.1) (W (.evs args loc M fun Xs M' => callV C F.k r.1 Xs M' Q))) False))
        | .Attribute o x p => chk (notCall o && args.all noStar && Nat.ble args.length 20 && (p.endLine == pos.line)) (W (.ev o loc M fun X M' => recvV M' methIn X x fun m => W (.evs args loc M' fun Xs M'' => mcallV C F.k m X Xs M'' Q)))
        | _ => False)
    | .ListComp a b c d => EvP C F (.ListComp a b c d) loc M Q
    | .Dict ks vs _ => chk (isNil ks && isNil vs) (dictV M Q)
    | _ => False
  | .evs es loc M Q => match es with
    | [] => Q [] M
    | e :: r => chk (noStar e) (W (.ev e loc M fun X M' => W (.evs r loc M' fun Xs M'' => Q (X :: Xs) M'')))
  | .ts e loc M Q => match e with
    | .UnaryOp op x _ => (match op with
      | .Not => W (.ts x loc M fun b M' => Q (!b) M')
      | _ => False)
    | .BoolOp op es p => (match es with
      | [] => (match op with
        | .And => Q true M
        | .Or => Q false M)
      | e :: r => match op with
        | .And => W (.ts e loc M fun b M' => br b (W (.ts (.BoolOp .And r p) loc M' Q)) (Q false M'))
        | .Or => W (.ts e loc M fun b M' => br b (Q true M') (W (.ts (.BoolOp .Or r p) loc M' Q))))
    | .Compare l ops rs _ => cmp1 W l ops rs loc M Q
    | .Name a b => W (.ev (.Name a b) loc M fun Z M' => vTruth Z fun b => Q b M')
    | .Call a b c d => W (.ev (.Call a b c d) loc M fun Z M' => vTruth Z fun b => Q b M')
    | .Constant a b c => W (.ev (.Constant a b c) loc M fun Z M' => vTruth Z fun b => Q b M')
    | _ => False
  | .ex st loc M Q => match st with
    | .Expr e _ => chk (noComp e) (W (.ev e loc M fun _ M' => Q .next loc M'))
    | .Assign ts v _ => asgV F W v loc M Q (tgV ts)
    | .AugAssign t op v _ => (match t with
      | .Name x _ => optV (lk x loc) (fun X => chk (isKd F x .local) (W (.ev v loc M fun Y M' => augV op X Y fun Z => Q .next (Mine.st x Z loc) M'))) False
      | .Subscript o i _ => chk (notSlice i) (W (.ev o loc M fun O M' => W (.ev i loc M' fun I M'' => itemV M'' O I fun X => W (.ev v loc M'' fun Y M₄ => augV op X Y fun Z => setItemV M₄ Z O I fun M₅ => Q .next loc M₅))))
      | _ => False)
    | .If t b o _ => W (.ts t loc M fun c M' => br c (W (.exs b loc M' Q)) (W (.exs o loc M' Q)))
    | .Return v _ => (match v with
      | some e => W (.ev e loc M fun X M' => Q (.ret X) loc M')
      | none => Q (.ret .none) loc M)
    | .Continue _ => Q .cont loc M
    | .Pass _ => Q .next loc M
    | .While t b o pos => chk (isNil o) (whV W (LS pos.line).1 (LS pos.line).2 t b loc M Q)
    | .For t e b o pos => (match t with
      | .Name x _ => chk (isNil o && isKd F x .local) (forV F W (LS pos.line).1 (LS pos.line).2 x b loc M Q (rgV e))
      | _ => False)
    | _ => False
  | .exs ss loc M Q => match ss with
    | [] => Q .next loc M
    | s :: r => W (.ex s loc M (go Q fun l M' => W (.exs r l M' Q)))
noncomputable def vc (C : Cx) (F : Fi) (LS : Inv) : Nat → Job → Prop
  | 0 => fun _ => False
  | n + 1 => stepV C F LS (vc C F LS n)
noncomputable def Sd (C : Cx) (F : Fi) : Job → Prop
  | .ev e loc M Q => EvP C F e loc M Q
  | .evs es loc M Q => EvsP C F es loc M Q
  | .ts e loc M Q => TsP C F e loc M Q
  | .ex st loc M Q => ExP C F st loc M Q
  | .exs ss loc M Q => ExsP C F ss loc M Q

theorem ev_neg {C : Cx} {F : Fi} {loc : Loc} {M : Mm} {Q : V → Mm → Prop} {e : Expr} {pos} (h : EvP C F e loc M fun Z M' => negV Z fun Y => Q Y M') : EvP C F (.UnaryOp .USub e pos) loc M Q := fun A B s L nm fa cd cs S =>
  UnaryOp_ (h.run S fun c s₁ Z M₁ S₁ k₁ d₁ h₁ => by
    cases Z with
    | int i => obtain ⟨t, rfl⟩ := den_int d₁; exact P.neg_int ⟨.int _, M₁, S₁.toks _, k₁, ⟨_, rfl⟩, h₁⟩
    | _ => exact h₁.elim)
section
variable {C : Cx} {F : Fi} {LS : Inv} {loc : Loc} {M : Mm}
theorem isKd_of {x : Str} {kd : NameKind} (h : isKd F x kd = true) : F.sc.names.lookup x = some kd := of_decide_eq_true h
theorem sd_name {x : Str} {p : Pos} {Q : V → Mm → Prop} (h : nameV F loc x fun X => Q X M) : EvP C F (.Name x p) loc M Q := by
  have hd := chk.c1 h
  rcases optV_e (chk.c2 h) with ⟨X, hX, h⟩ | h
  · exact ev_local hX (isKd_of h.c1) (noDbg1 hd) h.c2
  rcases optV_e h with ⟨X, hX, h⟩ | h
  · rcases Bool.or_eq_true_iff.mp h.c1 with hk | hk
    · exact ev_cell hX (isKd_of hk) (noDbg1 hd) h.c2
    · exact ev_free hX (isKd_of hk) (noDbg1 hd) (noDbg2 hd) h.c2
  rcases optV_e h with ⟨⟨X, t, b⟩, hX, h⟩ | h
  · obtain ⟨h1, h2, h3, h4⟩ := gv_ok hX
    cases b with
    | false => exact ev_glob (h3 rfl _) h1 (isKd_of h.c1) (noDbg1 hd) h.c2
    | true => exact ev_bi ((h4 rfl).1 _) (h4 rfl).2 h2 h1 (isKd_of h.c1) (noDbg1 hd) h.c2
  · exact h.elim
theorem sd_callN {g : Str} {p pos : Pos} {args : List Expr} {Q : V → Mm → Prop} {X : V} {t : Tok} {b : Bool} (hs : args.all noStar = true) (hd : noDbg g = true) (hk : isKd F g .globalImplicit = true) (hg : gv gRows g = some (X, t, b)) (hX : ∀ i, X ≠ .int i)
    (h : EvsP C F args loc M fun Xs M' => callV C F.k X Xs M' Q) : EvP C F (.Call (.Name g p) args [] pos) loc M Q := by
  obtain ⟨h1, h2, h3, h4⟩ := gv_ok hg
  have K : ∃ fv, (∀ h, Den h X fv) ∧ (∀ h v, Den h X v → v = fv) ∧ Calm C fv ∧ EvsP C F args loc M fun Xs M'' => OpP C F.k (fun vs => call fv vs) Xs M'' Q :=
    ⟨gval X t, h1, fun _ _ d => gOk_one (gv_fit hg) hX d, gv_calm hg hX, h.mono fun Xs M' h => op_call h1 h⟩
  refine ev_callN hs ?_
  cases b with
  | false => exact ev_glob (h3 rfl _) h1 (isKd_of hk) (noDbg1 hd) K
  | true => exact ev_bi ((h4 rfl).1 _) (h4 rfl).2 h2 h1 (isKd_of hk) (noDbg1 hd) K
theorem itemV_mono {X Y : V} {K K' : V → Prop} (h : itemV M X Y K) (hk : ∀ Z, K Z → K' Z) : itemV M X Y K' := by
  have h := intV_e h
  obtain ⟨i, rfl, h⟩ := h
  cases X with
  | tup l => obtain ⟨a, b, Z, c, d⟩ := h; exact ⟨a, b, Z, c, hk _ d⟩
  | ref r =>
    obtain ⟨o, ho, h⟩ := h
    cases o with
    | list l => obtain ⟨a, b, Z, c, d⟩ := h; exact ⟨_, ho, a, b, Z, c, hk _ d⟩
    | idic l => obtain ⟨Z, c, d⟩ := h; exact ⟨_, ho, Z, c, hk _ d⟩
    | _ => exact h.elim
  | _ => exact h.elim
theorem augV_mono {op : Operator} {X Y : V} {K K' : V → Prop} (h : augV op X Y K) (hk : ∀ Z, K Z → K' Z) : augV op X Y K' := by
  obtain ⟨i, hX, h1⟩ := intV_e h
  obtain ⟨j, hY, h2⟩ := intV_e h1
  rw [hX, hY]
  cases op with
  | Add => exact hk _ h2
  | _ => exact h2.elim
-- W is sound
noncomputable def Sds (C : Cx) (F : Fi) (W : Job → Prop) : Prop := ∀ J, W J → Sd C F J
section
variable {W : Job → Prop} {ns : List Str} {Iv : Nat → List V → Mm → Prop} {b : List Stmt} {x : Str}
theorem Sds.ev (ih : Sds C F W) {e : Expr} {Q : V → Mm → Prop} (h : W (.ev e loc M Q)) : EvP C F e loc M Q := ih _ h
theorem Sds.evs (ih : Sds C F W) {e : List Expr} {Q : List V → Mm → Prop} (h : W (.evs e loc M Q)) : EvsP C F e loc M Q := ih _ h
theorem Sds.ts (ih : Sds C F W) {e : Expr} {Q : Bool → Mm → Prop} (h : W (.ts e loc M Q)) : TsP C F e loc M Q := ih _ h
theorem Sds.ex (ih : Sds C F W) {e : Stmt} {Q : Fl → Loc → Mm → Prop} (h : W (.ex e loc M Q)) : ExP C F e loc M Q := ih _ h
theorem Sds.exs (ih : Sds C F W) {e : List Stmt} {Q : Fl → Loc → Mm → Prop} (h : W (.exs e loc M Q)) : ExsP C F e loc M Q := ih _ h
-- the names of a loop hold what its invariant tells
noncomputable def Wl (ns : List Str) (S : Mm → Prop) (I : List V → Mm → Prop) (l : Loc) (M : Mm) : Prop := ∃ vals, vals.length = ns.length ∧ l = zipL ns vals ∧ S M ∧ I vals M
theorem Wl.of {S : Mm → Prop} {I : List V → Mm → Prop} {l : Loc} {M : Mm} (s : S M) (h : gatherV ns l fun vals => I vals M) : ∃ l', (∀ x X, lk x l' = some X → lk x l = some X) ∧ Wl ns S I l' M := by
  obtain ⟨vals, a, b, c⟩ := h.inv
  exact ⟨_, b, vals, a, rfl, s, c⟩
variable {Q : Fl → Loc → Mm → Prop}
theorem fg_sound (ih : Sds C F W) {e : Expr} {px pos : Pos} (hk : isKd F x .local = true) (he : notSet e = true) (h : fgV W ns Iv x b e loc M Q) : ExP C F (.For (.Name x px) e b [] pos) loc M Q := by
  refine x_for he (isKd_of hk) ((ih.ev h).mono fun X M' z => ?_)
  obtain ⟨items, s0, w0, turn, fin⟩ := z
  refine ⟨items, fun i => Wl ns (srcV X items) (Iv i), Wl.of s0 w0, ?_, fun i Y l' M'' hY w => ?_, fun l' M'' w => ?_⟩
  · cases X with
    | tup l => exact s0
    | ref a => intro i l' M' w; obtain ⟨_, _, _, s, _⟩ := w; exact s
    | _ => exact s0.elim
  · obtain ⟨vals', hlen', rfl, s, w⟩ := w
    exact (ih.exs ((turn i Y).at vals' hlen' M'' hY s w)).mono fun G l₃ M₃ z => z.mono fun z => Wl.of z.1 z.2
  · obtain ⟨vals', hlen', rfl, s, w⟩ := w
    exact fin.at vals' hlen' M'' s w
theorem fr_sound (ih : Sds C F W) {f : Str} {es : List Expr} {px pf p' pos : Pos} (hk : isKd F x .local = true) (hf : f = n_range) (hs : es.all noStar = true) (hkf : isKd F f .globalImplicit = true) (h : frV W ns Iv x b es loc M Q) :
    ExP C F (.For (.Name x px) (.Call (.Name f pf) es [] p') b [] pos) loc M Q := by
  subst hf
  have hg : gv gRows n_range = some (.ty "range", 0, true) := by kernel_rfl
  obtain ⟨_, h2, _, h4⟩ := gv_ok hg
  refine x_forR hs ((h4 rfl).1 _) (h4 rfl).2 h2 (isKd_of hkf) (by kernel_rfl) (isKd_of hk) ((ih.evs h).mono fun Xs M' z => ?_)
  have key : ∃ a c n, ((∃ m, Xs = [.int m] ∧ a = 0 ∧ c = 1 ∧ n = m.toNat ∧ -1000 < m ∧ m < 1000) ∨ (Xs = [.int a, .int (-1), .int (-1)] ∧ c = -1 ∧ n = (a + 1).toNat ∧ -1000 < a ∧ a < 1000)) ∧ frB W ns Iv x b loc M' Q a c n := by
    rcases rngV_e z with ⟨m, e, h5, h6, z⟩ | ⟨m, e, h5, h6, z⟩
    · exact ⟨0, 1, _, .inl ⟨m, e, rfl, rfl, rfl, h5, h6⟩, z⟩
    · exact ⟨m, -1, _, .inr ⟨e, rfl, rfl, h5, h6⟩, z⟩
  obtain ⟨a, c, n, src, w0, turn, fin⟩ := key
  refine ⟨a, c, n, fun i => Wl ns (fun _ => True) (Iv i), Wl.of trivial w0, src, fun i l' M'' hi w => ?_, fun l' M'' w => ?_⟩
  · obtain ⟨vals', hlen', rfl, _, w⟩ := w
    exact (ih.exs ((turn i).at vals' hlen' M'' hi w)).mono fun G l₃ M₃ z => z.mono fun z => Wl.of trivial z
  · obtain ⟨vals', hlen', rfl, _, w⟩ := w
    exact fin.at vals' hlen' M'' w
theorem wh_sound (ih : Sds C F W) {t : Expr} {pos : Pos} (h : whV W ns Iv t b loc M Q) : ExP C F (.While t b [] pos) loc M Q := by
  obtain ⟨h0, turn⟩ := h
  obtain ⟨l, hsub, vals, hlen, hl, _, i, hw⟩ := Wl.of (S := fun _ => True) (I := fun vals M => ∃ i, Iv i vals M) trivial h0
  refine x_less hsub (x_while (fun i => Wl ns (fun _ => True) (Iv i)) ⟨i, vals, hlen, hl, trivial, hw⟩ fun j l' M' w => ?_)
  obtain ⟨vals', hlen', rfl, _, w⟩ := w
  refine (ih.ts ((turn j).at vals' hlen' M' w)).mono fun c M'' z => ⟨fun hc => (ih.exs (z.l hc)).mono fun G l₃ M₃ z => z.mono fun z => ?_, z.r⟩
  obtain ⟨l₄, h1, vals₄, a, e, _, m, hm, w₄⟩ := Wl.of (S := fun _ => True) (I := fun vals M => ∃ m, m < j ∧ Iv m vals M) trivial z
  exact ⟨m, l₄, hm, h1, vals₄, a, e, trivial, w₄⟩
theorem asg_sound (ih : Sds C F W) {l : List Expr} {v : Expr} {pos : Pos} (t : TgV l) (h : asgV F W v loc M Q t) : ExP C F (.Assign l v pos) loc M Q := by
  cases t with
  | bad => exact h.elim
  | name x => exact x_name (band (chk.c1 h)).1 (isKd_of (band (chk.c1 h)).2) (ih.ev (chk.c2 h))
  | attr o x => exact x_setAttr (chk.c1 h) ((ih.ev (chk.c2 h)).mono fun X M' h => (ih.ev h).mono fun O M'' h => op_setAttr (Q := fun _ M₃ => Q .next loc M₃) (fun _ _ => attr_ok) h)
  | item o i => exact x_setItem (chk.c1 h) ((ih.ev (chk.c2 h)).mono fun X M' h => (ih.ev h).mono fun O M'' h => (ih.ev h).mono fun I M₃ h => op_setItem (Q := fun _ M₃ => Q .next loc M₃) h)
  | pair x y =>
    have h1 := band (chk.c1 h)
    have h2 := band h1.1
    have h3 := band h2.1
    exact x_pair h3.1 h3.2 (isKd_of h2.2) (isKd_of h1.2) ((ih.ev (chk.c2 h)).mono fun X M' h => pairV_e h)
end
theorem ev_sound {W : Job → Prop} (ih : Sds C F W) {e : Expr} {Q : V → Mm → Prop} (h : stepV C F LS W (.ev e loc M Q)) : EvP C F e loc M Q := by
  cases e <;> try (exact h.elim)
  · rename_i op es p
    cases es with
    | nil => exact h.elim
    | cons e r =>
      cases r with
      | nil => exact ev_and1 (ih.ev h)
      | cons e₂ r =>
        cases op with
        | And => exact ev_and ((ih.ev h).mono fun Z M' z => by obtain ⟨b, rfl, z⟩ := z.inv; exact ⟨fun hb => ih.ev (z.l hb), z.r⟩)
        | Or => exact ev_or ((ih.ev h).mono fun Z M' z => by obtain ⟨b, rfl, z⟩ := z.inv; exact ⟨fun hb => ih.ev (z.r hb), z.l⟩)
  · exact ev_bin ((ih.ev h).mono fun X M' h => (ih.ev h).mono fun Y M'' h => op_bin h)
  · rename_i op e p
    cases op <;> try (exact h.elim)
    · exact ev_not (ih.ev h)
    · exact ev_neg (ih.ev h)
  · exact ev_if ((ih.ts h).mono fun c M' h => ⟨fun hc => ih.ev (h.l hc), fun hc => ih.ev (h.r hc)⟩)
  · rename_i ks vs p
    have hc := band (chk.c1 h)
    have h2 := chk.c2 h
    cases ks with
    | cons _ _ => cases hc.1
    | nil =>
      cases vs with
      | cons _ _ => cases hc.2
      | nil => exact ev_dict h2
  · exact h
  · obtain ⟨op, r, rfl, rfl, h⟩ := cmp1_e h
    exact ev_cmp (bnot h.c1) ((ih.ev h.c2).mono fun X M' h => (ih.ev h).mono fun Y M'' h => op_cmp h)
  · rename_i f args kw pos
    cases kw with
    | cons _ _ => exact h.elim
    | nil =>
      cases f <;> try (exact h.elim)
      · have hc := band (chk.c1 h)
        have h3 := band hc.1
        have h2 := band h3.1
        refine ev_callM h2.1 h2.2 (Nat.lt_of_le_of_lt (Nat.le_of_ble_eq_true h3.2) (by decide)) hc.2 ((ih.ev (chk.c2 h)).mono fun X M' h => ?_)
        obtain ⟨m, hm, h⟩ := recv_sound (C := C) (k := F.k) (fun _ _ _ => meth_ok) h
        exact ⟨m.val, [X], hm, (ih.evs h).mono fun Xs M'' h => op_mcall h⟩
      · have hc := band (chk.c1 h)
        have h1 := band hc.1
        rcases optV_e (chk.c2 h) with ⟨_, _, h⟩ | h
        · exact h.elim
        rcases optV_e h with ⟨⟨X, t, b⟩, h2, h⟩ | h
        · exact sd_callN h1.1 h1.2 hc.2 h2 (fun i e => by cases e; exact nomatch h.c1) (ih.evs h.c2)
        · exact h.elim
  · rename_i c k p
    cases c <;> try (exact h.elim)
    · exact ev_none h
    · exact ev_bool h
    · exact ev_int h
    · exact ev_str h
  · exact ev_attr (chk.c1 h) ((ih.ev (chk.c2 h)).mono fun X M' h => op_attr (fun _ _ => attr_ok) h)
  · rename_i o i p
    have h2 : subV C W o loc M Q (slV i) := h
    generalize slV i = t at h2
    cases t with
    | up e p' => exact ev_cut ((ih.ev h2).mono fun X M' h => (ih.ev h).mono fun Y M'' h => op_cut h)
    | no => exact ev_sub (chk.c1 h2) ((ih.ev (chk.c2 h2)).mono fun X M' h => (ih.ev h).mono fun Y M'' h => op_sub h)
  · exact sd_name h
  · exact ev_list ((ih.evs h).mono fun Xs M' h => ⟨Nat.le_of_ble_eq_true h.c1, h.c2⟩)
  · exact ev_tuple ((ih.evs h).mono fun Xs M' h => ⟨Nat.le_of_ble_eq_true h.c1, h.c2⟩)
theorem ts_sound {W : Job → Prop} (ih : Sds C F W) {e : Expr} {Q : Bool → Mm → Prop} (h : stepV C F LS W (.ts e loc M Q)) : TsP C F e loc M Q := by
  cases e <;> try (exact h.elim)
  · rename_i op es p
    cases es with
    | nil =>
      cases op with
      | And => exact ts_and_nil h
      | Or => exact ts_or_nil h
    | cons e r =>
      cases op with
      | And => exact ts_and ((ih.ts h).mono fun b M' z => ⟨fun hb => ih.ts (z.l hb), z.r⟩)
      | Or => exact ts_or ((ih.ts h).mono fun b M' z => ⟨fun hb => ih.ts (z.r hb), z.l⟩)
  · rename_i op e p
    cases op <;> try (exact h.elim)
    exact ts_not (ih.ts h)
  · obtain ⟨op, r, rfl, rfl, h⟩ := cmp1_e h
    exact ts_cmp (bnot h.c1) ((ih.ev h.c2).mono fun X M' h => (ih.ev h).mono fun Y M'' h => op_cmp (Q := fun Z M₃ => vTruth Z fun b => Q b M₃) h)
  · exact ts_plain (fun _ _ => rfl) (ih.ev h)
  · exact ts_plain (fun _ _ => rfl) (ih.ev h)
  · exact ts_plain (fun _ _ => rfl) (ih.ev h)
theorem ex_sound {W : Job → Prop} (ih : Sds C F W) {st : Stmt} {Q : Fl → Loc → Mm → Prop} (h : stepV C F LS W (.ex st loc M Q)) : ExP C F st loc M Q := by
  cases st <;> try (exact h.elim)
  · rename_i v p
    cases v with
    | none => exact x_ret0 h
    | some e => exact x_ret (ih.ev h)
  · exact asg_sound ih _ h
  · rename_i t op v p
    cases t <;> try (exact h.elim)
    · exact x_augItem (chk.c1 h) ((ih.ev (chk.c2 h)).mono fun O M' h => (ih.ev h).mono fun I M'' h => op_item (Q := fun X M₃ => EvP C F v loc M₃ fun Y M₄ => _) (itemV_mono h fun X h => (ih.ev h).mono fun Y M₄ h => op_aug (Q := fun Z M₅ => OpP C F.k _ [Z, O, I] M₅ fun _ M₆ => Q .next loc M₆) (augV_mono h fun Z h => op_setItem (Q := fun _ M₆ => Q .next loc M₆) h)))
    · rename_i x px
      rcases optV_e h with ⟨X, hX, h⟩ | h
      · exact x_aug hX (isKd_of h.c1) ((ih.ev h.c2).mono fun Y M' h => op_aug (Q := fun Z M'' => Q .next (Mine.st x Z loc) M'') h)
      · exact h.elim
  · rename_i t e b o pos
    cases t <;> try (exact h.elim)
    have hc := band (chk.c1 h)
    have h2 := chk.c2 h
    clear h
    cases o with
    | cons _ _ => cases hc.1
    | nil =>
      generalize rgV e = r at h2
      cases r with
      | rg f p es p' hf => exact fr_sound ih hc.2 hf (band (chk.c1 h2)).1 (band (chk.c1 h2)).2 (chk.c2 h2)
      | no => exact fg_sound ih hc.2 (chk.c1 h2) (chk.c2 h2)
  · rename_i t b o pos
    have hc := chk.c1 h
    have h2 := chk.c2 h
    cases o with
    | cons _ _ => cases hc
    | nil => exact wh_sound ih h2
  · exact x_if ((ih.ts h).mono fun c M' h => ⟨fun hc => ih.exs (h.l hc), fun hc => ih.exs (h.r hc)⟩)
  · exact x_expr (chk.c1 h) (ih.ev (chk.c2 h))
  · exact x_pass h
  · exact x_cont h
theorem vc_sound : ∀ n (J : Job), vc C F LS n J → Sd C F J := by
  intro n
  induction n with
  | zero => intro J h; exact h.elim
  | succ n ih =>
    intro J h
    cases J with
    | ev e loc M Q => exact ev_sound ih h
    | evs es loc M Q =>
      cases es with
      | nil => exact evs_nil h
      | cons e r => exact evs_cons (fun env => star_of (chk.c1 h)) ((Sds.ev ih (chk.c2 h)).mono fun X M' h => Sds.evs ih h)
    | ts e loc M Q => exact ts_sound ih h
    | ex st loc M Q => exact ex_sound ih h
    | exs ss loc M Q =>
      cases ss with
      | nil => exact xs_nil h
      | cons s r =>
        refine xs_cons ((Sds.ex ih h).mono fun G l M' z => ?_)
        cases G <;> first | exact Sds.exs ih z | exact z
end
end
end Mine

end
section
open PySem PySem.W PyProof.Rows PySem.Calls
set_option Elab.async false
set_option maxRecDepth 100000
set_option linter.all false
namespace Mine
noncomputable section
section
variable {C : Cx} {k : Nat} {M : Mm} {Q : V → Mm → Prop}
theorem exs_of {F : Fi} {LS : Inv} {n : Nat} {ss : List Stmt} {loc : Loc} {R : Fl → Loc → Mm → Prop} {P : Prop} (e : P = vc C F LS n (.exs ss loc M R)) (h : P) : ExsP C F ss loc M R := vc_sound n (.exs ss loc M R) (e ▸ h)
-- how a function ends
noncomputable def endQ (Q : V → Mm → Prop) : Fl → Loc → Mm → Prop := fun G _ M' => match G with
  | .next => Q .none M'
  | .ret X => Q X M'
  | _ => False
noncomputable def zipB : List Str → List Value → List (Str × Value)
  | x :: r, v :: vs => (x, v) :: zipB r vs
  | _, _ => []
theorem zipB_mem {ns : List Str} : ∀ {vs : List Value} {p : Str × Value}, p ∈ zipB ns vs → p.1 ∈ ns := by
  induction ns with
  | nil => intro vs p hp; cases vs <;> cases hp
  | cons z t ih =>
    intro vs p hp
    cases vs with
    | nil => cases hp
    | cons w ws =>
      rcases List.mem_cons.mp hp with rfl | hp
      · exact .head _
      · exact .tail _ (ih hp)
theorem zipB_look {h : Heap} {x : Str} {ns : List Str} : ∀ {xs : List V} {vs : List Value}, ns.Nodup → DenL h xs vs → ∀ {X : V}, lk x (zipL ns xs) = some X → ∃ v, (zipB ns vs).reverse.lookup x = some v ∧ Den h X v := by
  induction ns with
  | nil => intro xs vs _ _ X e; cases xs <;> cases e
  | cons y r ih =>
    intro xs vs hn d X e
    cases xs with
    | nil => cases e
    | cons Y xs =>
    obtain ⟨v, vs', rfl, dv, dr⟩ := d.inv_cons
    have e : lk x ((y, Y) :: zipL r xs) = some X := e
    rw [lk_cons] at e
    show ∃ w, (((y, v) :: zipB r vs').reverse).lookup x = some w ∧ _
    rw [List.reverse_cons, List.lookup_append]
    by_cases q : x = y
    · rw [if_pos q] at e; cases e
      subst q
      refine ⟨v, ?_, dv⟩
      have : (zipB r vs').reverse.lookup x = none := by
        rw [List.lookup_eq_none_iff]
        intro p hp
        have ne : x ≠ p.1 := fun z => (List.nodup_cons.mp hn).1 (z ▸ zipB_mem (List.mem_reverse.mp hp))
        simpa using ne
      rw [this]; simp
    · rw [if_neg q] at e
      obtain ⟨w, hw, dw⟩ := ih (List.nodup_cons.mp hn).2 dr e
      exact ⟨w, by rw [hw]; rfl, dw⟩
-- the function object of a def
theorem callP_gen {a c : Addr} {o : Obj} {fd : FuncData} {body : List Stmt} {loc : Loc} {xs : List V}
    (hl : (KT C.w.params).lookup a = some o) (hd : o.data = .func fd) (hc : fd.code = .ref c) (hm : (c, fd.qualname) ∈ kCodes) (hbody : fd.body = .stmts body)
    (henv : ∀ L, callEnv fd L a = envX fd.qualname fd.scope L a fd.code [])
    (hcell : ∀ x ∈ fd.scope.names, x.2 ≠ .cell)
    (hbind : ∀ s vs, DenL s.heap xs vs → (KT C.w.params).In s.heap → ∃ binds, BindsTo s fd ⟨vs, []⟩ binds ∧ (∀ x ∈ binds, fd.scope.names.lookup x.1 = some .local) ∧ ∀ x X, lk x loc = some X → ∃ v, binds.reverse.lookup x = some v ∧ Den s.heap X v)
    (hco : fd.scope.isCoroutine = false) (hgen : fd.scope.isGenerator = false) (hk : fd.scope.kind = .function)
    (h : ExsP C ⟨k, fd.scope, []⟩ body loc M (endQ Q)) : CallP C (k + 1) (.ref a) xs M Q := fun A B s vs ha R d => by
  have hcode : s.heap.CodeRec fd.code fd.qualname := by
    rw [hc]
    exact (C.codes _ hm).keeps R.keep0
  obtain ⟨binds, hb, hloc, hx⟩ := hbind s vs d R.kin
  refine codeAny_call_def ha.room (R.kin _ _ hl) hd (C.nolimit.keeps R.keep0) hcode hbody hb hcell hloc (fun h₀ hn hk₀ => ?_) hco hgen hk
  rw [henv]
  have S : St C ⟨k, fd.scope, []⟩ (A.deeper (envX fd.qualname fd.scope s.heap.objs.size a fd.code [])) B s.heap.objs.size [] loc M { s with heap := h₀, toks := s.toks + binds.length } := by
    refine ⟨ha.deeper _, R.grow hk₀ _, ⟨⟨_, hn, fun x X e => ?_⟩, R.fresh.1, R.fresh.2⟩, (fun x X e => by cases e), hk⟩
    obtain ⟨v, hv, dv⟩ := hx x X e
    exact ⟨v, hv, dv.keep (.of hk₀) X⟩
  refine h.run S fun f s' G l' M' S' k' df q => ?_
  have kk : KeepT s.heap s'.heap := (KeepT.of hk₀).trans k'
  cases G with
  | next => cases df; exact ⟨_, .none, M', rfl, S'.rel, kk, rfl, q⟩
  | ret X => obtain ⟨v, rfl, dv⟩ := df; exact ⟨v, X, M', rfl, S'.rel, kk, dv, q⟩
  | brk => exact q.elim
  | cont => exact q.elim
noncomputable def fdE (st : Stmt) (qual : Str) (a : Addr) (pm : Str) (pmt : Tok) (dfl : Value) : FuncData := { name := fName st, qualname := qual, params := fPar st, body := .stmts (fBody st), scope := fScope st, globals := 3, closure := [], defaults := dfl, kwdefaults := .none, doc := .none, pyModule := .str pm pmt, annotations := none, code := .ref (a - 1), closureTuple := .none, builtins := 0 }
-- what is asked of a function's scope
noncomputable def okFn (st : Stmt) (ns : List Str) : Bool := !(fScope st).isCoroutine && !(fScope st).isGenerator && decide ((fScope st).kind = .function) && (fScope st).names.all (fun x => decide (x.2 ≠ .cell)) && ns.all (fun x => decide ((fScope st).names.lookup x = some .local)) && decide ns.Nodup
theorem callP_fn {st : Stmt} {qual pm : Str} {pmt : Tok} {dfl : Value} {a : Addr} {ns : List Str} {xs : List V} (hl : (KT C.w.params).lookup a = some (fnE st qual a pm pmt dfl).2) (hm : kCodes.contains (a - 1, qual) = true) (ok : okFn st ns = true)
    (hb : ∀ vs : List Value, vs.length = xs.length → bindArgs (fdE st qual a pm pmt dfl) ⟨vs, []⟩ = pure (zipB ns vs))
    (h : ExsP C ⟨k, fScope st, []⟩ (fBody st) (zipL ns xs) M (endQ Q)) : CallP C (k + 1) (.ref a) xs M Q := by
  unfold okFn at ok
  simp only [Bool.and_eq_true, Bool.not_eq_true', decide_eq_true_eq, List.all_eq_true] at ok
  obtain ⟨⟨⟨⟨⟨h1, h2⟩, h3⟩, h4⟩, h5⟩, h6⟩ := ok
  refine callP_gen (fd := fdE st qual a pm pmt dfl) hl rfl rfl (List.contains_iff_mem.mp hm) rfl (fun L => rfl) (fun x hx => h4 x hx) (fun s vs d _ => ⟨zipB ns vs, .of_eq (hb vs d.length), fun x hx => h5 _ (zipB_mem hx), fun x X e => zipB_look h6 d e⟩) h1 h2 h3 h
theorem len_s {n : Nat} {vs : List Value} (e : vs.length = n + 1) : ∃ a r, vs = a :: r ∧ r.length = n := by
  cases vs with
  | nil => cases e
  | cons a r => exact ⟨a, r, rfl, Nat.succ.inj e⟩
theorem bnd1 {fd : FuncData} {ns : List Str} {n : Nat} (hn : n = 1) (h : (fun a => bindArgs fd ⟨[a], []⟩) = fun a => pure (zipB ns [a])) (vs : List Value) (e : vs.length = n) : bindArgs fd ⟨vs, []⟩ = pure (zipB ns vs) := by
  subst hn
  obtain ⟨a, r1, h1, e1⟩ := len_s e
  have z := List.eq_nil_of_length_eq_zero e1
  subst h1; subst z
  exact congrFun h a
theorem bnd0 {fd : FuncData} {ns : List Str} {xs : List V} (hn : xs = []) (h : bindArgs fd ⟨[], []⟩ = pure (zipB ns [])) (vs : List Value) (e : vs.length = xs.length) : bindArgs fd ⟨vs, []⟩ = pure (zipB ns vs) := by
  subst hn
  cases List.eq_nil_of_length_eq_zero e
  exact h
theorem bnd2 {fd : FuncData} {ns : List Str} {n : Nat} (hn : n = 2) (h : (fun a b => bindArgs fd ⟨[a, b], []⟩) = fun a b => pure (zipB ns [a, b])) (vs : List Value) (e : vs.length = n) : bindArgs fd ⟨vs, []⟩ = pure (zipB ns vs) := by
  subst hn
  obtain ⟨a, r1, h1, e1⟩ := len_s e
  obtain ⟨b, r2, h2, e2⟩ := len_s e1
  have z := List.eq_nil_of_length_eq_zero e2
  subst h1; subst h2; subst z
  exact congrFun (congrFun h a) b
theorem bnd3 {fd : FuncData} {ns : List Str} {n : Nat} (hn : n = 3) (h : (fun a b c => bindArgs fd ⟨[a, b, c], []⟩) = fun a b c => pure (zipB ns [a, b, c])) (vs : List Value) (e : vs.length = n) : bindArgs fd ⟨vs, []⟩ = pure (zipB ns vs) := by
  subst hn
  obtain ⟨a, r1, h1, e1⟩ := len_s e
  obtain ⟨b, r2, h2, e2⟩ := len_s e1
  obtain ⟨c, r3, h3, e3⟩ := len_s e2
  have z := List.eq_nil_of_length_eq_zero e3
  subst h1; subst h2; subst h3; subst z
  exact congrFun (congrFun (congrFun h a) b) c
theorem bnd4 {fd : FuncData} {ns : List Str} {n : Nat} (hn : n = 4) (h : (fun a b c d => bindArgs fd ⟨[a, b, c, d], []⟩) = fun a b c d => pure (zipB ns [a, b, c, d])) (vs : List Value) (e : vs.length = n) : bindArgs fd ⟨vs, []⟩ = pure (zipB ns vs) := by
  subst hn
  obtain ⟨a, r1, h1, e1⟩ := len_s e
  obtain ⟨b, r2, h2, e2⟩ := len_s e1
  obtain ⟨c, r3, h3, e3⟩ := len_s e2
  obtain ⟨d, r4, h4, e4⟩ := len_s e3
  have z := List.eq_nil_of_length_eq_zero e4
  subst h1; subst h2; subst h3; subst h4; subst z
  exact congrFun (congrFun (congrFun (congrFun h a) b) c) d
end
end
end Mine

end
section
open PySem PySem.W PyProof.Rows PySem.Calls
set_option Elab.async false
set_option maxRecDepth 100000
set_option linter.all false
namespace Mine
theorem wp_execs_app {Mo : Model} {Γ : PySem.Ctx} {env : Env} {Q : Flow → Pos → Shared → Prop} {E : Value → Pos → Shared → Prop} {l₂ : List Stmt} : ∀ {l₁ : List Stmt} {p : Pos} {s : Shared},
    Sem.wp Mo Γ (execs l₁ env) (fun f p' s' => match f with | .next => Sem.wp Mo Γ (execs l₂ env) Q E p' s' | f => Q f p' s') E p s → Sem.wp Mo Γ (execs (l₁ ++ l₂) env) Q E p s
  | [], p, s, h => h
  | st :: r, p, s, h => by
    rw [execs_cons, Sem.wp_bind'] at h
    rw [List.cons_append, execs_cons, Sem.wp_bind']
    refine Sem.wp_mono Mo Γ _ (fun f p' s' h' => ?_) (fun _ _ _ h' => h') _ _ h
    cases f with
    | next => exact wp_execs_app h'
    | _ => exact h'
theorem wpAny_execs_app {Mo : Model} {A : Around} {E : Value → Shared → Prop} {env : Env} {Q : Flow → Shared → Prop} {l₁ l₂ : List Stmt} {s : Shared}
    (h : wpAny Mo A (execs l₁ env) (fun f s' => match f with | .next => wpAny Mo A (execs l₂ env) Q E s' | f => Q f s') E s) : wpAny Mo A (execs (l₁ ++ l₂) env) Q E s := fun Γ p hΓ =>
  wp_execs_app (Sem.wp_mono Mo Γ _ (fun f p' s' h' => by
    cases f with
    | next => exact h' Γ p' hΓ
    | _ => exact h') (fun _ _ _ h' => h') _ _ (h Γ p hΓ))
theorem exs_app {C : Cx} {F : Fi} {loc : Loc} {M : Mm} {l₁ l₂ : List Stmt} {Q : Fl → Loc → Mm → Prop} (h : ExsP C F l₁ loc M (go Q fun l M' => ExsP C F l₂ l M' Q)) : ExsP C F (l₁ ++ l₂) loc M Q := fun A B s L nm fa cd cs S =>
  wpAny_execs_app (h.run S fun f s₁ G l₁ M₁ S₁ k₁ d₁ h₁ => by
    cases G with
    | next => cases d₁; exact ExsP.fin h₁ S₁ k₁
    | brk => cases d₁; exact ⟨.brk, l₁, M₁, S₁, k₁, rfl, h₁⟩
    | cont => cases d₁; exact ⟨.cont, l₁, M₁, S₁, k₁, rfl, h₁⟩
    | ret X => obtain ⟨v, rfl, d⟩ := d₁; exact ⟨.ret X, l₁, M₁, S₁, k₁, ⟨v, rfl, d⟩, h₁⟩)
-- the comprehension of _law_tree
noncomputable def argOf : Expr → Nat → Expr
  | .Call _ es _ _, i => es.getD i (.Constant .none 0 ⟨0, 0, 0, 0⟩)
  | .Tuple es _ _, i => es.getD i (.Constant .none 0 ⟨0, 0, 0, 0⟩)
  | e, _ => e
noncomputable def retOf (s : Stmt) : Expr := match s with
  | .Return v _ => v.getD (.Constant .none 0 ⟨0, 0, 0, 0⟩)
  | _ => .Constant .none 0 ⟨0, 0, 0, 0⟩
noncomputable def theComp : Expr := argOf (argOf (retOf (nth (fBody (ms 47)) 3)) 2) 0
end Mine

end
section
open PySem PySem.W PyProof.Rows PySem.Calls
set_option Elab.async false
set_option maxRecDepth 100000
set_option linter.all false
namespace Mine
noncomputable section
noncomputable def whT : Stmt → Expr
  | .While t _ _ _ => t
  | _ => .Constant .none 0 ⟨0, 0, 0, 0⟩
noncomputable def whB : Stmt → List Stmt
  | .While _ b _ _ => b
  | _ => []
noncomputable def whP : Stmt → Pos
  | .While _ _ _ p => p
  | _ => ⟨0, 0, 0, 0⟩
noncomputable def putW : Stmt := nth (fBody (md 25 3)) 8
theorem ts_of {C : Cx} {F : Fi} {LS : Inv} {n : Nat} {t : Expr} {loc : Loc} {M : Mm} {R : Bool → Mm → Prop} {P : Prop} (e : P = vc C F LS n (.ts t loc M R)) (h : P) : TsP C F t loc M R := vc_sound n (.ts t loc M R) (e ▸ h)
theorem ex_while {C : Cx} {F : Fi} {ns : List Str} {st : Stmt} {loc : Loc} {M : Mm} {Q : Fl → Loc → Mm → Prop} (W : Nat → List V → Mm → Prop) (hs : st = .While (whT st) (whB st) [] (whP st))
    (h0 : gatherV ns loc fun vals => ∃ i, W i vals M)
    (turn : ∀ i vals M', vals.length = ns.length → W i vals M' → TsP C F (whT st) (zipL ns vals) M' fun c M'' => (c = true → ExsP C F (whB st) (zipL ns vals) M'' (turnQ Q fun l' M₃ => gatherV ns l' fun vals' => ∃ m, m < i ∧ W m vals' M₃)) ∧ (c = false → Q .next (zipL ns vals) M'')) : ExP C F st loc M Q := by
  rw [hs]
  obtain ⟨l, hsub, vals, hlen, hl, _, i, hw⟩ := Wl.of (S := fun _ => True) (I := fun vals M => ∃ i, W i vals M) trivial h0
  refine x_less hsub (x_while (fun i => Wl ns (fun _ => True) (W i)) ⟨i, vals, hlen, hl, trivial, hw⟩ fun j l' M' w => ?_)
  obtain ⟨vals', hlen', rfl, _, w⟩ := w
  refine (turn j vals' M' hlen' w).mono fun c M'' z => ⟨fun hc => (z.1 hc).mono fun G l₃ M₃ z => z.mono fun z => ?_, z.2⟩
  obtain ⟨l₄, h1, vals₄, a, e, _, m, hm, w₄⟩ := Wl.of (S := fun _ => True) (I := fun vals M => ∃ m, m < j ∧ W m vals M) trivial z
  exact ⟨m, l₄, hm, h1, vals₄, a, e, trivial, w₄⟩
theorem putW_eq : putW = .While (whT putW) (whB putW) [] (whP putW) := by kernel_rfl
theorem put_split : fBody (md 25 3) = List.take 8 (List.drop 0 (fBody (md 25 3))) ++ putW :: List.take 1 (List.drop 9 (fBody (md 25 3))) := by kernel_rfl
end
end Mine

end
section
open PySem PySem.W PyProof.Rows PySem.Calls
set_option Elab.async false
set_option maxRecDepth 100000
set_option linter.all false
namespace Mine
theorem f_fixed_atoms {C : Cx} {k : Nat} {M : Mm} {Q : V → Mm → Prop}
    (h : (Q (@V.tup [(@V.str (@u [(91 : Nat), (93 : Nat)])), (@V.str (@u [(46 : Nat)])), (@V.str (@u [(123 : Nat), (125 : Nat)])), (@V.str (@u [(45 : Nat)])), (@V.str (@u [(43 : Nat)])), (@V.str (@u [(42 : Nat)])), (@V.str (@u [(47 : Nat)])), (@V.str (@u [(44 : Nat)])), (@V.str (@u [(124 : Nat)])), (@V.str (@u [(59 : Nat)])), (@V.str (@u [(45 : Nat), (62 : Nat)])), (@V.str (@u [(92 : Nat), (43 : Nat)])), (@V.str (@u [(58 : Nat), (45 : Nat)])), (@V.str (@u [(63 : Nat), (45 : Nat)])), (@V.str (@u [(45 : Nat), (45 : Nat), (62 : Nat)])), (@V.str (@u [(33 : Nat)])), (@V.str (@u [(116 : Nat), (114 : Nat), (117 : Nat), (101 : Nat)])), (@V.str (@u [(102 : Nat), (97 : Nat), (105 : Nat), (108 : Nat)])), (@V.str (@u [(102 : Nat), (97 : Nat), (108 : Nat), (115 : Nat), (101 : Nat)])), (@V.str (@u [(99 : Nat), (97 : Nat), (108 : Nat), (108 : Nat)])), (@V.str (@u [(61 : Nat)])), (@V.str (@u [(94 : Nat)])), (@V.str (@u [(101 : Nat), (114 : Nat), (114 : Nat), (111 : Nat), (114 : Nat)])), (@V.str (@u [])), (@V.str (@u [(101 : Nat), (110 : Nat), (100 : Nat), (95 : Nat), (111 : Nat), (102 : Nat), (95 : Nat), (102 : Nat), (105 : Nat), (108 : Nat), (101 : Nat)])), (@V.str (@u [(115 : Nat), (121 : Nat), (115 : Nat), (116 : Nat), (101 : Nat), (109 : Nat)])), (@V.str (@u [(36 : Nat), (86 : Nat), (65 : Nat), (82 : Nat)])), (@V.str (@u [(99 : Nat), (97 : Nat), (116 : Nat), (99 : Nat), (104 : Nat)])), (@V.str (@u [(116 : Nat), (104 : Nat), (114 : Nat), (111 : Nat), (119 : Nat)]))]) M)) : CallP C (k + 1) (.ref 60) [] M Q := by
  refine callP_fn (st := ms 8) (qual := (u [102, 105, 120, 101, 100, 95, 97, 116, 111, 109, 115])) (pm := pm2) (pmt := 194) (dfl := .none) (ns := []) (by kernel_rfl) (by kernel_rfl) (by kernel_rfl) (bnd0 rfl (by kernel_rfl)) ?_
  with_reducible exact exs_of (LS := fun l => ([], fun _ _ _ => False)) (n := 200) (by kernel_rfl) h
theorem f_fixed_functors {C : Cx} {k : Nat} {M : Mm} {Q : V → Mm → Prop}
    (h : (Q (@V.tup [(@V.tup [(@V.str (@u [(46 : Nat)])), (@V.int (2 : Int))]), (@V.tup [(@V.str (@u [(44 : Nat)])), (@V.int (2 : Int))]), (@V.tup [(@V.str (@u [(59 : Nat)])), (@V.int (2 : Int))]), (@V.tup [(@V.str (@u [(45 : Nat), (62 : Nat)])), (@V.int (2 : Int))]), (@V.tup [(@V.str (@u [(92 : Nat), (43 : Nat)])), (@V.int (1 : Int))]), (@V.tup [(@V.str (@u [(58 : Nat), (45 : Nat)])), (@V.int (2 : Int))]), (@V.tup [(@V.str (@u [(58 : Nat), (45 : Nat)])), (@V.int (1 : Int))]), (@V.tup [(@V.str (@u [(63 : Nat), (45 : Nat)])), (@V.int (1 : Int))]), (@V.tup [(@V.str (@u [(45 : Nat), (45 : Nat), (62 : Nat)])), (@V.int (2 : Int))]), (@V.tup [(@V.str (@u [(123 : Nat), (125 : Nat)])), (@V.int (1 : Int))]), (@V.tup [(@V.str (@u [(61 : Nat)])), (@V.int (2 : Int))]), (@V.tup [(@V.str (@u [(94 : Nat)])), (@V.int (2 : Int))]), (@V.tup [(@V.str (@u [(45 : Nat)])), (@V.int (1 : Int))]), (@V.tup [(@V.str (@u [(45 : Nat)])), (@V.int (2 : Int))]), (@V.tup [(@V.str (@u [(43 : Nat)])), (@V.int (2 : Int))]), (@V.tup [(@V.str (@u [(47 : Nat)])), (@V.int (2 : Int))]), (@V.tup [(@V.str (@u [(101 : Nat), (114 : Nat), (114 : Nat), (111 : Nat), (114 : Nat)])), (@V.int (2 : Int))]), (@V.tup [(@V.str (@u [(36 : Nat), (86 : Nat), (65 : Nat), (82 : Nat)])), (@V.int (1 : Int))]), (@V.tup [(@V.str (@u [(99 : Nat), (97 : Nat), (116 : Nat), (99 : Nat), (104 : Nat)])), (@V.int (3 : Int))]), (@V.tup [(@V.str (@u [(116 : Nat), (104 : Nat), (114 : Nat), (111 : Nat), (119 : Nat)])), (@V.int (1 : Int))]), (@V.tup [(@V.str (@u [(33 : Nat)])), (@V.int (0 : Int))]), (@V.tup [(@V.str (@u [(116 : Nat), (114 : Nat), (117 : Nat), (101 : Nat)])), (@V.int (0 : Int))]), (@V.tup [(@V.str (@u [(102 : Nat), (97 : Nat), (105 : Nat), (108 : Nat)])), (@V.int (0 : Int))]), (@V.tup [(@V.str (@u [(102 : Nat), (97 : Nat), (108 : Nat), (115 : Nat), (101 : Nat)])), (@V.int (0 : Int))]), (@V.tup [(@V.str (@u [(99 : Nat), (97 : Nat), (108 : Nat), (108 : Nat)])), (@V.int (1 : Int))]), (@V.tup [(@V.str (@u [(99 : Nat), (97 : Nat), (108 : Nat), (108 : Nat)])), (@V.int (2 : Int))]), (@V.tup [(@V.str (@u [(99 : Nat), (97 : Nat), (108 : Nat), (108 : Nat)])), (@V.int (3 : Int))]), (@V.tup [(@V.str (@u [(99 : Nat), (97 : Nat), (108 : Nat), (108 : Nat)])), (@V.int (4 : Int))]), (@V.tup [(@V.str (@u [(99 : Nat), (97 : Nat), (108 : Nat), (108 : Nat)])), (@V.int (5 : Int))]), (@V.tup [(@V.str (@u [(99 : Nat), (97 : Nat), (108 : Nat), (108 : Nat)])), (@V.int (6 : Int))]), (@V.tup [(@V.str (@u [(99 : Nat), (97 : Nat), (108 : Nat), (108 : Nat)])), (@V.int (7 : Int))]), (@V.tup [(@V.str (@u [(99 : Nat), (97 : Nat), (108 : Nat), (108 : Nat)])), (@V.int (8 : Int))])]) M)) : CallP C (k + 1) (.ref 67) [] M Q := by
  refine callP_fn (st := ms 9) (qual := (u [102, 105, 120, 101, 100, 95, 102, 117, 110, 99, 116, 111, 114, 115])) (pm := pm2) (pmt := 194) (dfl := .none) (ns := []) (by kernel_rfl) (by kernel_rfl) (by kernel_rfl) (bnd0 rfl (by kernel_rfl)) ?_
  with_reducible exact exs_of (LS := fun l => ([], fun _ _ _ => False)) (n := 200) (by kernel_rfl) h
theorem f_Sym_init {C : Cx} {k : Nat} {x_self : V} {M : Mm} {Q : V → Mm → Prop} (W26 W28 : Nat → List V → Mm → Prop)
    (h : (∀ a : @PySem.Addr, (((M a) = (@Option.none @MO)) → (@setAttrV (@upd M a (@MO.list [])) @attrIn (@V.ref a) x_self @n_texts (fun M3 : @Mm => (@dictV M3 (fun X : @V => (fun Mp : @Mm => (@setAttrV Mp @attrIn X x_self @n_atom_numbers (fun M31 : @Mm => (∀ a1 : @PySem.Addr, (((M31 a1) = (@Option.none @MO)) → (@setAttrV (@upd M31 a1 (@MO.list [])) @attrIn (@V.ref a1) x_self @n_functors (fun M32 : @Mm => (@dictV M32 (fun X1 : @V => (fun Mp1 : @Mm => (@setAttrV Mp1 @attrIn X1 x_self @n_functor_numbers (fun M33 : @Mm => (@callV C k (@V.ref (60 : @PySem.Addr)) [] M33 (fun X2 : @V => (fun Mp2 : @Mm => (∃ items : (@List @V), ((@srcV X2 items Mp2) ∧ ((W26 (0 : Nat) [x_self] Mp2) ∧ ((∀ i : Nat, (∀ Y : @V, (∀ v : @V, (∀ Mpp : @Mm, (((items)[i]? = (some Y)) → ((@srcV X2 items Mpp) → ((W26 i [v] Mpp) → (@recvV Mpp @methIn v @n_atom (fun m : @Mk => (@mcallV C k m v [Y] Mpp (fun x : @V => (fun Mp3 : @Mm => ((@srcV X2 items Mp3) ∧ (W26 (i + (1 : Nat)) [v] Mp3)))))))))))))) ∧ (∀ v : @V, (∀ Mpp : @Mm, ((@srcV X2 items Mpp) → ((W26 (List.length items) [v] Mpp) → (@callV C k (@V.ref (67 : @PySem.Addr)) [] Mpp (fun X3 : @V => (fun Mp3 : @Mm => (∃ items1 : (@List @V), ((@srcV X3 items1 Mp3) ∧ ((W28 (0 : Nat) [v] Mp3) ∧ ((∀ i : Nat, (∀ Y : @V, (∀ v1 : @V, (∀ Mpp1 : @Mm, (((items1)[i]? = (some Y)) → ((@srcV X3 items1 Mpp1) → ((W28 i [v1] Mpp1) → (@recvV Mpp1 @methIn v1 @n_func (fun m : @Mk => (@itemV Mpp1 Y (@V.int (0 : Int)) (fun Z : @V => (@itemV Mpp1 Y (@V.int (1 : Int)) (fun Z1 : @V => (@mcallV C k m v1 [Z, Z1] Mpp1 (fun x : @V => (fun Mp4 : @Mm => ((@srcV X3 items1 Mp4) ∧ (W28 (i + (1 : Nat)) [v1] Mp4)))))))))))))))))) ∧ (∀ v1 : @V, (∀ Mpp1 : @Mm, ((@srcV X3 items1 Mpp1) → ((W28 (List.length items1) [v1] Mpp1) → (Q @V.none Mpp1)))))))))))))))))))))))))))))))))))))))))) : CallP C (k + 1) (.ref 81) [x_self] M Q := by
  refine callP_fn (st := md 10 0) (qual := (u [83, 121, 109, 98, 111, 108, 115, 46, 95, 95, 105, 110, 105, 116, 95, 95])) (pm := pm2) (pmt := 194) (dfl := .none) (ns := [n_self]) (by kernel_rfl) (by kernel_rfl) (by kernel_rfl) (bnd1 rfl (by kernel_rfl)) ?_
  with_reducible exact exs_of (LS := fun l => bif Nat.beq l 26 then ([n_self], W26) else (bif Nat.beq l 28 then ([n_self], W28) else (([], fun _ _ _ => False)))) (n := 200) (by kernel_rfl) h
theorem f_atom {C : Cx} {k : Nat} {x_self x_text : V} {M : Mm} {Q : V → Mm → Prop}
    (h : (@attrV M @attrIn x_self @n_atom_numbers (fun Y : @V => (@recvV M @methIn Y @n_get (fun m : @Mk => (@negV (@V.int (1 : Int)) (fun Y1 : @V => (@mcallV C k m Y [x_text, Y1] M (fun X : @V => (fun Mp : @Mm => (@cmpV Mp @PySem.CmpOp.GtE X (@V.int (0 : Int)) (fun b : Bool => (@br b (Q X Mp) (@attrV Mp @attrIn x_self @n_texts (fun Y2 : @V => (@callV C k (@V.bi "len") [Y2] Mp (fun X1 : @V => (fun Mp1 : @Mm => (@attrV Mp1 @attrIn x_self @n_texts (fun Y3 : @V => (@recvV Mp1 @methIn Y3 @n_append (fun m1 : @Mk => (@mcallV C k m1 Y3 [x_text] Mp1 (fun x : @V => (fun Mp2 : @Mm => (@attrV Mp2 @attrIn x_self @n_atom_numbers (fun Y4 : @V => (@setItemV Mp2 X1 Y4 x_text (fun M4 : @Mm => (Q X1 M4)))))))))))))))))))))))))))))) : CallP C (k + 1) (.ref 88) [x_self, x_text] M Q := by
  refine callP_fn (st := md 10 1) (qual := (u [83, 121, 109, 98, 111, 108, 115, 46, 97, 116, 111, 109])) (pm := pm2) (pmt := 194) (dfl := .none) (ns := [n_self, n_text]) (by kernel_rfl) (by kernel_rfl) (by kernel_rfl) (bnd2 rfl (by kernel_rfl)) ?_
  with_reducible exact exs_of (LS := fun l => ([], fun _ _ _ => False)) (n := 200) (by kernel_rfl) h
theorem f_functor {C : Cx} {k : Nat} {x_self x_atom x_arity : V} {M : Mm} {Q : V → Mm → Prop}
    (h : (@attrV M @attrIn x_self @n_functor_numbers (fun Y : @V => (@recvV M @methIn Y @n_get (fun m : @Mk => (@negV (@V.int (1 : Int)) (fun Y1 : @V => (@mcallV C k m Y [(@V.tup [x_atom, x_arity]), Y1] M (fun X : @V => (fun Mp : @Mm => (@cmpV Mp @PySem.CmpOp.GtE X (@V.int (0 : Int)) (fun b : Bool => (@br b (Q X Mp) (@attrV Mp @attrIn x_self @n_functors (fun Y2 : @V => (@callV C k (@V.bi "len") [Y2] Mp (fun X1 : @V => (fun Mp1 : @Mm => (@attrV Mp1 @attrIn x_self @n_functors (fun Y3 : @V => (@recvV Mp1 @methIn Y3 @n_append (fun m1 : @Mk => (@mcallV C k m1 Y3 [(@V.tup [x_atom, x_arity])] Mp1 (fun x : @V => (fun Mp2 : @Mm => (@attrV Mp2 @attrIn x_self @n_functor_numbers (fun Y4 : @V => (@setItemV Mp2 X1 Y4 (@V.tup [x_atom, x_arity]) (fun M4 : @Mm => (Q X1 M4)))))))))))))))))))))))))))))) : CallP C (k + 1) (.ref 102) [x_self, x_atom, x_arity] M Q := by
  refine callP_fn (st := md 10 3) (qual := (u [83, 121, 109, 98, 111, 108, 115, 46, 102, 117, 110, 99, 116, 111, 114])) (pm := pm2) (pmt := 194) (dfl := .none) (ns := [n_self, n_atom, n_arity]) (by kernel_rfl) (by kernel_rfl) (by kernel_rfl) (bnd3 rfl (by kernel_rfl)) ?_
  with_reducible exact exs_of (LS := fun l => ([], fun _ _ _ => False)) (n := 200) (by kernel_rfl) h
theorem f_func {C : Cx} {k : Nat} {x_self x_text x_arity : V} {M : Mm} {Q : V → Mm → Prop}
    (h : (@recvV M @methIn x_self @n_functor (fun m : @Mk => (@recvV M @methIn x_self @n_atom (fun m1 : @Mk => (@mcallV C k m1 x_self [x_text] M (fun X : @V => (fun Mp : @Mm => (@mcallV C k m x_self [X, x_arity] Mp (fun X1 : @V => (fun Mp1 : @Mm => (Q X1 Mp1)))))))))))) : CallP C (k + 1) (.ref 109) [x_self, x_text, x_arity] M Q := by
  refine callP_fn (st := md 10 4) (qual := (u [83, 121, 109, 98, 111, 108, 115, 46, 102, 117, 110, 99])) (pm := pm2) (pmt := 194) (dfl := .none) (ns := [n_self, n_text, n_arity]) (by kernel_rfl) (by kernel_rfl) (by kernel_rfl) (bnd3 rfl (by kernel_rfl)) ?_
  with_reducible exact exs_of (LS := fun l => ([], fun _ _ _ => False)) (n := 200) (by kernel_rfl) h
theorem f_arity {C : Cx} {k : Nat} {x_self x_functor : V} {M : Mm} {Q : V → Mm → Prop}
    (h : (@attrV M @attrIn x_self @n_functors (fun Y : @V => (@itemV M Y x_functor (fun Z : @V => (@itemV M Z (@V.int (1 : Int)) (fun Z1 : @V => (Q Z1 M)))))))) : CallP C (k + 1) (.ref 123) [x_self, x_functor] M Q := by
  refine callP_fn (st := md 10 6) (qual := (u [83, 121, 109, 98, 111, 108, 115, 46, 97, 114, 105, 116, 121])) (pm := pm2) (pmt := 194) (dfl := .none) (ns := [n_self, n_functor]) (by kernel_rfl) (by kernel_rfl) (by kernel_rfl) (bnd2 rfl (by kernel_rfl)) ?_
  with_reducible exact exs_of (LS := fun l => ([], fun _ _ _ => False)) (n := 200) (by kernel_rfl) h
theorem f_push {C : Cx} {k : Nat} {x_self x_cell : V} {M : Mm} {Q : V → Mm → Prop}
    (h : (@attrV M @attrIn x_self @n_heap (fun Y : @V => (@callV C k (@V.bi "len") [Y] M (fun X : @V => (fun Mp : @Mm => (@attrV Mp @attrIn x_self @n_max_heap (fun Y1 : @V => (@cmpV Mp @PySem.CmpOp.GtE X Y1 (fun b : Bool => (@br b @False (@attrV Mp @attrIn x_self @n_heap (fun Y2 : @V => (@recvV Mp @methIn Y2 @n_append (fun m : @Mk => (@mcallV C k m Y2 [x_cell] Mp (fun x : @V => (fun Mp1 : @Mm => (Q X Mp1))))))))))))))))))) : CallP C (k + 1) (.ref 202) [x_self, x_cell] M Q := by
  refine callP_fn (st := md 24 1) (qual := (u [67, 101, 108, 108, 115, 46, 112, 117, 115, 104])) (pm := pm1) (pmt := 408) (dfl := .none) (ns := [n_self, n_cell]) (by kernel_rfl) (by kernel_rfl) (by kernel_rfl) (bnd2 rfl (by kernel_rfl)) ?_
  with_reducible exact exs_of (LS := fun l => ([], fun _ _ _ => False)) (n := 200) (by kernel_rfl) h
theorem f_new_var {C : Cx} {k : Nat} {x_self : V} {M : Mm} {Q : V → Mm → Prop}
    (h : (@attrV M @attrIn x_self @n_heap (fun Y : @V => (@callV C k (@V.bi "len") [Y] M (fun X : @V => (fun Mp : @Mm => (@recvV Mp @methIn x_self @n_push (fun m : @Mk => (@mcallV C k m x_self [(@V.tup [(@V.int (0 : Int)), X])] Mp (fun x : @V => (fun Mp1 : @Mm => (Q (@V.tup [(@V.int (0 : Int)), X]) Mp1)))))))))))) : CallP C (k + 1) (.ref 209) [x_self] M Q := by
  refine callP_fn (st := md 24 2) (qual := (u [67, 101, 108, 108, 115, 46, 110, 101, 119, 95, 118, 97, 114])) (pm := pm1) (pmt := 408) (dfl := .none) (ns := [n_self]) (by kernel_rfl) (by kernel_rfl) (by kernel_rfl) (bnd1 rfl (by kernel_rfl)) ?_
  with_reducible exact exs_of (LS := fun l => ([], fun _ _ _ => False)) (n := 200) (by kernel_rfl) h
theorem f_reserve {C : Cx} {k : Nat} {x_self x_count : V} {M : Mm} {Q : V → Mm → Prop} (W119 : Nat → List V → Mm → Prop)
    (h : (@attrV M @attrIn x_self @n_heap (fun Y : @V => (@callV C k (@V.bi "len") [Y] M (fun X : @V => (fun Mp : @Mm => (@binV @PySem.Operator.Add X x_count (fun Z : @V => (@attrV Mp @attrIn x_self @n_max_heap (fun Y1 : @V => (@cmpV Mp @PySem.CmpOp.Gt Z Y1 (fun b : Bool => (@br b @False (@rngV [x_count] (fun a : Int => (fun c : Int => (fun m : Nat => ((W119 (0 : Nat) [x_self, x_count, X] Mp) ∧ ((∀ i : Nat, (∀ v : @V, (∀ v1 : @V, (∀ v2 : @V, (∀ Mpp : @Mm, ((i < m) → ((W119 i [v, v1, v2] Mpp) → (@attrV Mpp @attrIn v @n_heap (fun Y2 : @V => (@recvV Mpp @methIn Y2 @n_append (fun m1 : @Mk => (@binV @PySem.Operator.Add v2 (@V.int (a + ((i : Int) * c))) (fun Z1 : @V => (@mcallV C k m1 Y2 [(@V.tup [(@V.int (0 : Int)), Z1])] Mpp (fun x : @V => (fun Mp1 : @Mm => (W119 (i + (1 : Nat)) [v, v1, v2] Mp1))))))))))))))))) ∧ (∀ v : @V, (∀ v1 : @V, (∀ v2 : @V, (∀ Mpp : @Mm, ((W119 m [v, v1, v2] Mpp) → (Q v2 Mpp))))))))))))))))))))))))) : CallP C (k + 1) (.ref 216) [x_self, x_count] M Q := by
  refine callP_fn (st := md 24 3) (qual := (u [67, 101, 108, 108, 115, 46, 114, 101, 115, 101, 114, 118, 101])) (pm := pm1) (pmt := 408) (dfl := .none) (ns := [n_self, n_count]) (by kernel_rfl) (by kernel_rfl) (by kernel_rfl) (bnd2 rfl (by kernel_rfl)) ?_
  with_reducible exact exs_of (LS := fun l => bif Nat.beq l 119 then ([n_self, n_count, n_first], W119) else (([], fun _ _ _ => False))) (n := 200) (by kernel_rfl) h
theorem f_deref {C : Cx} {k : Nat} {x_self x_cell : V} {M : Mm} {Q : V → Mm → Prop} (W127 : Nat → List V → Mm → Prop)
    (h : ((∃ i : Nat, (W127 i [x_self, x_cell] M)) ∧ (∀ i : Nat, (∀ v : @V, (∀ v1 : @V, (∀ Mp : @Mm, ((W127 i [v, v1] Mp) → (@vTruth (@V.bool @Bool.true) (fun b : Bool => (@br b (@itemV Mp v1 (@V.int (0 : Int)) (fun Z : @V => (@cmpV Mp @PySem.CmpOp.Eq Z (@V.int (0 : Int)) (fun b1 : Bool => (@br b1 (@attrV Mp @attrIn v @n_heap (fun Y : @V => (@itemV Mp v1 (@V.int (1 : Int)) (fun Z1 : @V => (@itemV Mp Y Z1 (fun Z2 : @V => (@cmpV Mp @PySem.CmpOp.Eq Z2 v1 (fun b2 : Bool => (@br b2 (Q v1 Mp) (∃ m : Nat, ((m < i) ∧ (W127 m [v, Z2] Mp)))))))))))) (@cmpV Mp @PySem.CmpOp.Eq Z (@V.int (1 : Int)) (fun b2 : Bool => (@br b2 (@attrV Mp @attrIn v @n_stack (fun Y : @V => (@itemV Mp v1 (@V.int (1 : Int)) (fun Z1 : @V => (@itemV Mp Y Z1 (fun Z2 : @V => (@cmpV Mp @PySem.CmpOp.Eq Z2 v1 (fun b3 : Bool => (@br b3 (Q v1 Mp) (∃ m : Nat, ((m < i) ∧ (W127 m [v, Z2] Mp)))))))))))) (Q v1 Mp))))))))) (Q @V.none Mp))))))))))) : CallP C (k + 1) (.ref 230) [x_self, x_cell] M Q := by
  refine callP_fn (st := md 24 5) (qual := (u [67, 101, 108, 108, 115, 46, 100, 101, 114, 101, 102])) (pm := pm1) (pmt := 408) (dfl := .none) (ns := [n_self, n_cell]) (by kernel_rfl) (by kernel_rfl) (by kernel_rfl) (bnd2 rfl (by kernel_rfl)) ?_
  with_reducible exact exs_of (LS := fun l => bif Nat.beq l 127 then ([n_self, n_cell], W127) else (([], fun _ _ _ => False))) (n := 200) (by kernel_rfl) h
theorem f_is_unbound {C : Cx} {k : Nat} {x_self x_cell : V} {M : Mm} {Q : V → Mm → Prop}
    (h : (@itemV M x_cell (@V.int (0 : Int)) (fun Z : @V => (@cmpV M @PySem.CmpOp.Eq Z (@V.int (0 : Int)) (fun b : Bool => (@br b (@attrV M @attrIn x_self @n_heap (fun Y : @V => (@itemV M x_cell (@V.int (1 : Int)) (fun Z1 : @V => (@itemV M Y Z1 (fun Z2 : @V => (@cmpV M @PySem.CmpOp.Eq Z2 x_cell (fun b1 : Bool => (Q (@V.bool b1) M))))))))) (@itemV M x_cell (@V.int (0 : Int)) (fun Z1 : @V => (@cmpV M @PySem.CmpOp.Eq Z1 (@V.int (1 : Int)) (fun b1 : Bool => (@br b1 (@attrV M @attrIn x_self @n_stack (fun Y : @V => (@itemV M x_cell (@V.int (1 : Int)) (fun Z2 : @V => (@itemV M Y Z2 (fun Z3 : @V => (@cmpV M @PySem.CmpOp.Eq Z3 x_cell (fun b2 : Bool => (Q (@V.bool b2) M))))))))) (Q (@V.bool @Bool.false) M)))))))))))) : CallP C (k + 1) (.ref 237) [x_self, x_cell] M Q := by
  refine callP_fn (st := md 24 6) (qual := (u [67, 101, 108, 108, 115, 46, 105, 115, 95, 117, 110, 98, 111, 117, 110, 100])) (pm := pm1) (pmt := 408) (dfl := .none) (ns := [n_self, n_cell]) (by kernel_rfl) (by kernel_rfl) (by kernel_rfl) (bnd2 rfl (by kernel_rfl)) ?_
  with_reducible exact exs_of (LS := fun l => ([], fun _ _ _ => False)) (n := 200) (by kernel_rfl) h
theorem f_bind {C : Cx} {k : Nat} {x_self x_cell x_value : V} {M : Mm} {Q : V → Mm → Prop}
    (h : (@itemV M x_cell (@V.int (1 : Int)) (fun Z : @V => (@itemV M x_cell (@V.int (0 : Int)) (fun Z1 : @V => (@cmpV M @PySem.CmpOp.Eq Z1 (@V.int (0 : Int)) (fun b : Bool => (@br b (@attrV M @attrIn x_self @n_heap (fun Y : @V => (@setItemV M x_value Y Z (fun M4 : @Mm => (@attrV M4 @attrIn x_self @n_hb (fun Y1 : @V => (@cmpV M4 @PySem.CmpOp.Lt Z Y1 (fun b1 : Bool => (@br b1 (@attrV M4 @attrIn x_self @n_trail (fun Y2 : @V => (@recvV M4 @methIn Y2 @n_append (fun m : @Mk => (@mcallV C k m Y2 [Z] M4 (fun x : @V => (fun Mp : @Mm => (Q @V.none Mp)))))))) (Q @V.none M4)))))))))) (@attrV M @attrIn x_self @n_stack (fun Y : @V => (@setItemV M x_value Y Z (fun M4 : @Mm => (@attrV M4 @attrIn x_self @n_bb (fun Y1 : @V => (@cmpV M4 @PySem.CmpOp.Lt Z Y1 (fun b1 : Bool => (@br b1 (@attrV M4 @attrIn x_self @n_trail (fun Y2 : @V => (@recvV M4 @methIn Y2 @n_append (fun m : @Mk => (@negV (@V.int (1 : Int)) (fun Y3 : @V => (@binV @PySem.Operator.Sub Y3 Z (fun Z2 : @V => (@mcallV C k m Y2 [Z2] M4 (fun x : @V => (fun Mp : @Mm => (Q @V.none Mp)))))))))))) (Q @V.none M4)))))))))))))))))) : CallP C (k + 1) (.ref 244) [x_self, x_cell, x_value] M Q := by
  refine callP_fn (st := md 24 7) (qual := (u [67, 101, 108, 108, 115, 46, 98, 105, 110, 100])) (pm := pm1) (pmt := 408) (dfl := .none) (ns := [n_self, n_cell, n_value]) (by kernel_rfl) (by kernel_rfl) (by kernel_rfl) (bnd3 rfl (by kernel_rfl)) ?_
  with_reducible exact exs_of (LS := fun l => ([], fun _ _ _ => False)) (n := 200) (by kernel_rfl) h
theorem f_bind_pair {C : Cx} {k : Nat} {x_self x_c1 x_c2 : V} {M : Mm} {Q : V → Mm → Prop}
    (h : (@cmpV M @PySem.CmpOp.Eq x_c1 x_c2 (fun b : Bool => (@br b (Q @V.none M) (@itemV M x_c1 (@V.int (0 : Int)) (fun Z : @V => (@itemV M x_c2 (@V.int (0 : Int)) (fun Z1 : @V => (@cmpV M @PySem.CmpOp.Eq Z Z1 (fun b1 : Bool => (@br b1 (@itemV M x_c1 (@V.int (1 : Int)) (fun Z2 : @V => (@itemV M x_c2 (@V.int (1 : Int)) (fun Z3 : @V => (@cmpV M @PySem.CmpOp.Lt Z2 Z3 (fun b2 : Bool => (@br b2 (@recvV M @methIn x_self @n_bind (fun m : @Mk => (@mcallV C k m x_self [x_c2, x_c1] M (fun x : @V => (fun Mp : @Mm => (Q @V.none Mp)))))) (@recvV M @methIn x_self @n_bind (fun m : @Mk => (@mcallV C k m x_self [x_c1, x_c2] M (fun x : @V => (fun Mp : @Mm => (Q @V.none Mp))))))))))))) (@itemV M x_c1 (@V.int (0 : Int)) (fun Z2 : @V => (@cmpV M @PySem.CmpOp.Eq Z2 (@V.int (1 : Int)) (fun b2 : Bool => (@br b2 (@recvV M @methIn x_self @n_bind (fun m : @Mk => (@mcallV C k m x_self [x_c1, x_c2] M (fun x : @V => (fun Mp : @Mm => (Q @V.none Mp)))))) (@recvV M @methIn x_self @n_bind (fun m : @Mk => (@mcallV C k m x_self [x_c2, x_c1] M (fun x : @V => (fun Mp : @Mm => (Q @V.none Mp)))))))))))))))))))))) : CallP C (k + 1) (.ref 251) [x_self, x_c1, x_c2] M Q := by
  refine callP_fn (st := md 24 8) (qual := (u [67, 101, 108, 108, 115, 46, 98, 105, 110, 100, 95, 112, 97, 105, 114])) (pm := pm1) (pmt := 408) (dfl := .none) (ns := [n_self, n_c1, n_c2]) (by kernel_rfl) (by kernel_rfl) (by kernel_rfl) (bnd3 rfl (by kernel_rfl)) ?_
  with_reducible exact exs_of (LS := fun l => ([], fun _ _ _ => False)) (n := 200) (by kernel_rfl) h
theorem f_globalise {C : Cx} {k : Nat} {x_self x_cell : V} {M : Mm} {Q : V → Mm → Prop}
    (h : (@recvV M @methIn x_self @n_deref (fun m : @Mk => (@mcallV C k m x_self [x_cell] M (fun X : @V => (fun Mp : @Mm => (@itemV Mp X (@V.int (0 : Int)) (fun Z : @V => (@cmpV Mp @PySem.CmpOp.Eq Z (@V.int (1 : Int)) (fun b : Bool => (@br b (@recvV Mp @methIn x_self @n_new_var (fun m1 : @Mk => (@mcallV C k m1 x_self [] Mp (fun X1 : @V => (fun Mp1 : @Mm => (@recvV Mp1 @methIn x_self @n_bind (fun m2 : @Mk => (@mcallV C k m2 x_self [X, X1] Mp1 (fun x : @V => (fun Mp2 : @Mm => (Q X1 Mp2))))))))))) (Q X Mp)))))))))))) : CallP C (k + 1) (.ref 258) [x_self, x_cell] M Q := by
  refine callP_fn (st := md 24 9) (qual := (u [67, 101, 108, 108, 115, 46, 103, 108, 111, 98, 97, 108, 105, 115, 101])) (pm := pm1) (pmt := 408) (dfl := .none) (ns := [n_self, n_cell]) (by kernel_rfl) (by kernel_rfl) (by kernel_rfl) (bnd2 rfl (by kernel_rfl)) ?_
  with_reducible exact exs_of (LS := fun l => ([], fun _ _ _ => False)) (n := 200) (by kernel_rfl) h
theorem f_mark {C : Cx} {k : Nat} {x_self : V} {M : Mm} {Q : V → Mm → Prop}
    (h : (@attrV M @attrIn x_self @n_trail (fun Y : @V => (@callV C k (@V.bi "len") [Y] M (fun X : @V => (fun Mp : @Mm => (Q X Mp))))))) : CallP C (k + 1) (.ref 265) [x_self] M Q := by
  refine callP_fn (st := md 24 10) (qual := (u [67, 101, 108, 108, 115, 46, 109, 97, 114, 107])) (pm := pm1) (pmt := 408) (dfl := .none) (ns := [n_self]) (by kernel_rfl) (by kernel_rfl) (by kernel_rfl) (bnd1 rfl (by kernel_rfl)) ?_
  with_reducible exact exs_of (LS := fun l => ([], fun _ _ _ => False)) (n := 200) (by kernel_rfl) h
theorem f_undo_to {C : Cx} {k : Nat} {x_self x_mark : V} {M : Mm} {Q : V → Mm → Prop} (W182 : Nat → List V → Mm → Prop)
    (h : ((∃ i : Nat, (W182 i [x_self, x_mark] M)) ∧ (∀ i : Nat, (∀ v : @V, (∀ v1 : @V, (∀ Mp : @Mm, ((W182 i [v, v1] Mp) → (@attrV Mp @attrIn v @n_trail (fun Y : @V => (@callV C k (@V.bi "len") [Y] Mp (fun X : @V => (fun Mp1 : @Mm => (@cmpV Mp1 @PySem.CmpOp.Gt X v1 (fun b : Bool => (@br b (@attrV Mp1 @attrIn v @n_trail (fun Y1 : @V => (@recvV Mp1 @methIn Y1 @n_pop (fun m : @Mk => (@mcallV C k m Y1 [] Mp1 (fun X1 : @V => (fun Mp2 : @Mm => (@cmpV Mp2 @PySem.CmpOp.GtE X1 (@V.int (0 : Int)) (fun b1 : Bool => (@br b1 (@attrV Mp2 @attrIn v @n_heap (fun Y2 : @V => (@setItemV Mp2 (@V.tup [(@V.int (0 : Int)), X1]) Y2 X1 (fun M4 : @Mm => (∃ m1 : Nat, ((m1 < i) ∧ (W182 m1 [v, v1] M4))))))) (@negV (@V.int (1 : Int)) (fun Y2 : @V => (@binV @PySem.Operator.Sub Y2 X1 (fun Z : @V => (@attrV Mp2 @attrIn v @n_stack (fun Y3 : @V => (@setItemV Mp2 (@V.tup [(@V.int (1 : Int)), Z]) Y3 Z (fun M4 : @Mm => (∃ m1 : Nat, ((m1 < i) ∧ (W182 m1 [v, v1] M4))))))))))))))))))))) (Q @V.none Mp1)))))))))))))))) : CallP C (k + 1) (.ref 272) [x_self, x_mark] M Q := by
  refine callP_fn (st := md 24 11) (qual := (u [67, 101, 108, 108, 115, 46, 117, 110, 100, 111, 95, 116, 111])) (pm := pm1) (pmt := 408) (dfl := .none) (ns := [n_self, n_mark]) (by kernel_rfl) (by kernel_rfl) (by kernel_rfl) (bnd2 rfl (by kernel_rfl)) ?_
  with_reducible exact exs_of (LS := fun l => bif Nat.beq l 182 then ([n_self, n_mark], W182) else (([], fun _ _ _ => False))) (n := 200) (by kernel_rfl) h
theorem f_stack_put {C : Cx} {k : Nat} {x_self x_i x_value : V} {M : Mm} {Q : V → Mm → Prop} (W195 : Nat → List V → Mm → Prop)
    (h : (@attrV M @attrIn x_self @n_stack (fun Y : @V => (@callV C k (@V.bi "len") [Y] M (fun Y1 : @V => (fun Mpp : @Mm => (@cmpV Mpp @PySem.CmpOp.Lt x_i Y1 (fun b : Bool => (@br b (@setItemV Mpp x_value Y x_i (fun M4 : @Mm => (Q @V.none M4))) ((∃ i : Nat, (W195 i [Y, x_i, x_value] Mpp)) ∧ (∀ i : Nat, (∀ v : @V, (∀ v1 : @V, (∀ v2 : @V, (∀ Mp : @Mm, ((W195 i [v, v1, v2] Mp) → (@callV C k (@V.bi "len") [v] Mp (fun X : @V => (fun Mp1 : @Mm => (@cmpV Mp1 @PySem.CmpOp.Lt X v1 (fun b1 : Bool => (@br b1 (@recvV Mp1 @methIn v @n_append (fun m : @Mk => @False)) (@recvV Mp1 @methIn v @n_append (fun m : @Mk => (@mcallV C k m v [v2] Mp1 (fun x : @V => (fun Mp2 : @Mm => (Q @V.none Mp2)))))))))))))))))))))))))))) : CallP C (k + 1) (.ref 279) [x_self, x_i, x_value] M Q := by
  refine callP_fn (st := md 24 12) (qual := (u [67, 101, 108, 108, 115, 46, 115, 116, 97, 99, 107, 95, 112, 117, 116])) (pm := pm1) (pmt := 408) (dfl := .none) (ns := [n_self, n_i, n_value]) (by kernel_rfl) (by kernel_rfl) (by kernel_rfl) (bnd3 rfl (by kernel_rfl)) ?_
  with_reducible exact exs_of (LS := fun l => bif Nat.beq l 195 then ([n_stack, n_i, n_value], W195) else (([], fun _ _ _ => False))) (n := 200) (by kernel_rfl) h
theorem f_is_compound {C : Cx} {k : Nat} {x_self x_cell : V} {M : Mm} {Q : V → Mm → Prop}
    (h : (@itemV M x_cell (@V.int (0 : Int)) (fun Z : @V => (@cmpV M @PySem.CmpOp.Eq Z (@V.int (2 : Int)) (fun b : Bool => (@vTruth (@V.bool b) (fun b1 : Bool => (@br b1 (Q (@V.bool @Bool.true) M) (@itemV M x_cell (@V.int (0 : Int)) (fun Z1 : @V => (@cmpV M @PySem.CmpOp.Eq Z1 (@V.int (3 : Int)) (fun b2 : Bool => (Q (@V.bool b2) M))))))))))))) : CallP C (k + 1) (.ref 286) [x_self, x_cell] M Q := by
  refine callP_fn (st := md 24 13) (qual := (u [67, 101, 108, 108, 115, 46, 105, 115, 95, 99, 111, 109, 112, 111, 117, 110, 100])) (pm := pm1) (pmt := 408) (dfl := .none) (ns := [n_self, n_cell]) (by kernel_rfl) (by kernel_rfl) (by kernel_rfl) (bnd2 rfl (by kernel_rfl)) ?_
  with_reducible exact exs_of (LS := fun l => ([], fun _ _ _ => False)) (n := 200) (by kernel_rfl) h
theorem f_functor_of {C : Cx} {k : Nat} {x_self x_cell : V} {M : Mm} {Q : V → Mm → Prop}
    (h : (@itemV M x_cell (@V.int (0 : Int)) (fun Z : @V => (@cmpV M @PySem.CmpOp.Eq Z (@V.int (2 : Int)) (fun b : Bool => (@br b (@attrV M @attrIn x_self @n_heap (fun Y : @V => (@itemV M x_cell (@V.int (1 : Int)) (fun Z1 : @V => (@itemV M Y Z1 (fun Z2 : @V => (@itemV M Z2 (@V.int (1 : Int)) (fun Z3 : @V => (Q Z3 M))))))))) (@cmpV M @PySem.CmpOp.Eq Z (@V.int (3 : Int)) (fun b1 : Bool => (@br b1 (Q (@V.int (0 : Int)) M) (@cmpV M @PySem.CmpOp.Eq Z (@V.int (4 : Int)) (fun b2 : Bool => (@br b2 (@attrV M @attrIn x_self @n_symbols (fun Y : @V => (@recvV M @methIn Y @n_functor (fun m : @Mk => (@itemV M x_cell (@V.int (1 : Int)) (fun Z1 : @V => (@mcallV C k m Y [Z1, (@V.int (0 : Int))] M (fun X : @V => (fun Mp : @Mm => (Q X Mp)))))))))) (@negV (@V.int (1 : Int)) (fun Y : @V => (Q Y M))))))))))))))) : CallP C (k + 1) (.ref 293) [x_self, x_cell] M Q := by
  refine callP_fn (st := md 24 14) (qual := (u [67, 101, 108, 108, 115, 46, 102, 117, 110, 99, 116, 111, 114, 95, 111, 102])) (pm := pm1) (pmt := 408) (dfl := .none) (ns := [n_self, n_cell]) (by kernel_rfl) (by kernel_rfl) (by kernel_rfl) (bnd2 rfl (by kernel_rfl)) ?_
  with_reducible exact exs_of (LS := fun l => ([], fun _ _ _ => False)) (n := 200) (by kernel_rfl) h
theorem f_width {C : Cx} {k : Nat} {x_self x_cell : V} {M : Mm} {Q : V → Mm → Prop}
    (h : (@itemV M x_cell (@V.int (0 : Int)) (fun Z : @V => (@cmpV M @PySem.CmpOp.Eq Z (@V.int (3 : Int)) (fun b : Bool => (@br b (Q (@V.int (2 : Int)) M) (@cmpV M @PySem.CmpOp.Eq Z (@V.int (2 : Int)) (fun b1 : Bool => (@br b1 (@attrV M @attrIn x_self @n_symbols (fun Y : @V => (@recvV M @methIn Y @n_arity (fun m : @Mk => (@attrV M @attrIn x_self @n_heap (fun Y1 : @V => (@itemV M x_cell (@V.int (1 : Int)) (fun Z1 : @V => (@itemV M Y1 Z1 (fun Z2 : @V => (@itemV M Z2 (@V.int (1 : Int)) (fun Z3 : @V => (@mcallV C k m Y [Z3] M (fun X : @V => (fun Mp : @Mm => (Q X Mp)))))))))))))))) (Q (@V.int (0 : Int)) M)))))))))) : CallP C (k + 1) (.ref 300) [x_self, x_cell] M Q := by
  refine callP_fn (st := md 24 15) (qual := (u [67, 101, 108, 108, 115, 46, 119, 105, 100, 116, 104])) (pm := pm1) (pmt := 408) (dfl := .none) (ns := [n_self, n_cell]) (by kernel_rfl) (by kernel_rfl) (by kernel_rfl) (bnd2 rfl (by kernel_rfl)) ?_
  with_reducible exact exs_of (LS := fun l => ([], fun _ _ _ => False)) (n := 200) (by kernel_rfl) h
theorem f_base {C : Cx} {k : Nat} {x_self x_cell : V} {M : Mm} {Q : V → Mm → Prop}
    (h : (@itemV M x_cell (@V.int (0 : Int)) (fun Z : @V => (@cmpV M @PySem.CmpOp.Eq Z (@V.int (3 : Int)) (fun b : Bool => (@br b (@itemV M x_cell (@V.int (1 : Int)) (fun Z1 : @V => (Q Z1 M))) (@itemV M x_cell (@V.int (1 : Int)) (fun Z1 : @V => (@binV @PySem.Operator.Add Z1 (@V.int (1 : Int)) (fun Z2 : @V => (Q Z2 M))))))))))) : CallP C (k + 1) (.ref 307) [x_self, x_cell] M Q := by
  refine callP_fn (st := md 24 16) (qual := (u [67, 101, 108, 108, 115, 46, 98, 97, 115, 101])) (pm := pm1) (pmt := 408) (dfl := .none) (ns := [n_self, n_cell]) (by kernel_rfl) (by kernel_rfl) (by kernel_rfl) (bnd2 rfl (by kernel_rfl)) ?_
  with_reducible exact exs_of (LS := fun l => ([], fun _ _ _ => False)) (n := 200) (by kernel_rfl) h
theorem f_new_block {C : Cx} {k : Nat} {x_self x_f : V} {M : Mm} {Q : V → Mm → Prop}
    (h : (@cmpV M @PySem.CmpOp.Eq x_f (@V.int (0 : Int)) (fun b : Bool => (@br b (@recvV M @methIn x_self @n_reserve (fun m : @Mk => (@mcallV C k m x_self [(@V.int (2 : Int))] M (fun X : @V => (fun Mp : @Mm => (Q (@V.tup [(@V.int (3 : Int)), X]) Mp)))))) (@recvV M @methIn x_self @n_reserve (fun m : @Mk => (@attrV M @attrIn x_self @n_symbols (fun Y : @V => (@recvV M @methIn Y @n_arity (fun m1 : @Mk => (@mcallV C k m1 Y [x_f] M (fun Y1 : @V => (fun Mpp : @Mm => (@binV @PySem.Operator.Add (@V.int (1 : Int)) Y1 (fun Z : @V => (@mcallV C k m x_self [Z] Mpp (fun X : @V => (fun Mp : @Mm => (@attrV Mp @attrIn x_self @n_heap (fun Y2 : @V => (@setItemV Mp (@V.tup [(@V.int (6 : Int)), x_f]) Y2 X (fun M4 : @Mm => (Q (@V.tup [(@V.int (2 : Int)), X]) M4))))))))))))))))))))))) : CallP C (k + 1) (.ref 321) [x_self, x_f] M Q := by
  refine callP_fn (st := md 24 18) (qual := (u [67, 101, 108, 108, 115, 46, 110, 101, 119, 95, 98, 108, 111, 99, 107])) (pm := pm1) (pmt := 408) (dfl := .none) (ns := [n_self, n_f]) (by kernel_rfl) (by kernel_rfl) (by kernel_rfl) (bnd2 rfl (by kernel_rfl)) ?_
  with_reducible exact exs_of (LS := fun l => ([], fun _ _ _ => False)) (n := 200) (by kernel_rfl) h
theorem f_PS_init {C : Cx} {k : Nat} {x_self x_store : V} {M : Mm} {Q : V → Mm → Prop}
    (h : (@attrV M @attrIn x_store @n_heap (fun Y : @V => (@callV C k (@V.bi "len") [Y] M (fun X : @V => (fun Mp : @Mm => (@binV @PySem.Operator.Add X (@V.int (1 : Int)) (fun Z : @V => (@setAttrV Mp @attrIn Z x_self @n_span (fun M3 : @Mm => (@callV C k (@V.ty "set") [] M3 (fun X1 : @V => (fun Mp1 : @Mm => (@setAttrV Mp1 @attrIn X1 x_self @n_met (fun M31 : @Mm => (Q @V.none M31)))))))))))))))) : CallP C (k + 1) (.ref 390) [x_self, x_store] M Q := by
  refine callP_fn (st := md 27 0) (qual := (u [80, 97, 105, 114, 83, 101, 116, 46, 95, 95, 105, 110, 105, 116, 95, 95])) (pm := pm4) (pmt := 692) (dfl := .none) (ns := [n_self, n_store]) (by kernel_rfl) (by kernel_rfl) (by kernel_rfl) (bnd2 rfl (by kernel_rfl)) ?_
  with_reducible exact exs_of (LS := fun l => ([], fun _ _ _ => False)) (n := 200) (by kernel_rfl) h
theorem f_PS_add {C : Cx} {k : Nat} {x_self x_left x_right : V} {M : Mm} {Q : V → Mm → Prop}
    (h : (@itemV M x_left (@V.int (1 : Int)) (fun Z : @V => (@attrV M @attrIn x_self @n_span (fun Y : @V => (@binV @PySem.Operator.Mult Z Y (fun Z1 : @V => (@itemV M x_right (@V.int (1 : Int)) (fun Z2 : @V => (@binV @PySem.Operator.Add Z1 Z2 (fun Z3 : @V => (@attrV M @attrIn x_self @n_met (fun Y1 : @V => (@cmpV M @PySem.CmpOp.In Z3 Y1 (fun b : Bool => (@br b (Q (@V.bool @Bool.false) M) (@attrV M @attrIn x_self @n_met (fun Y2 : @V => (@recvV M @methIn Y2 @n_add (fun m : @Mk => (@mcallV C k m Y2 [Z3] M (fun x : @V => (fun Mp : @Mm => (Q (@V.bool @Bool.true) Mp)))))))))))))))))))))))) : CallP C (k + 1) (.ref 397) [x_self, x_left, x_right] M Q := by
  refine callP_fn (st := md 27 1) (qual := (u [80, 97, 105, 114, 83, 101, 116, 46, 97, 100, 100])) (pm := pm4) (pmt := 692) (dfl := .none) (ns := [n_self, n_left, n_right]) (by kernel_rfl) (by kernel_rfl) (by kernel_rfl) (bnd3 rfl (by kernel_rfl)) ?_
  with_reducible exact exs_of (LS := fun l => ([], fun _ _ _ => False)) (n := 200) (by kernel_rfl) h
theorem f_push_arguments {C : Cx} {k : Nat} {x_store x_cell x_work : V} {M : Mm} {Q : V → Mm → Prop} (W299 : Nat → List V → Mm → Prop)
    (h : (@recvV M @methIn x_store @n_base (fun m : @Mk => (@mcallV C k m x_store [x_cell] M (fun X : @V => (fun Mp : @Mm => (@recvV Mp @methIn x_store @n_width (fun m1 : @Mk => (@mcallV C k m1 x_store [x_cell] Mp (fun X1 : @V => (fun Mp1 : @Mm => (@binV @PySem.Operator.Sub X1 (@V.int (1 : Int)) (fun Z : @V => (@negV (@V.int (1 : Int)) (fun Y : @V => (@negV (@V.int (1 : Int)) (fun Y1 : @V => (@rngV [Z, Y, Y1] (fun a : Int => (fun c : Int => (fun m2 : Nat => ((W299 (0 : Nat) [x_store, x_work, X] Mp1) ∧ ((∀ i : Nat, (∀ v : @V, (∀ v1 : @V, (∀ v2 : @V, (∀ Mpp : @Mm, ((i < m2) → ((W299 i [v, v1, v2] Mpp) → (@recvV Mpp @methIn v1 @n_append (fun m3 : @Mk => (@attrV Mpp @attrIn v @n_heap (fun Y2 : @V => (@binV @PySem.Operator.Add v2 (@V.int (a + ((i : Int) * c))) (fun Z1 : @V => (@itemV Mpp Y2 Z1 (fun Z2 : @V => (@mcallV C k m3 v1 [Z2] Mpp (fun x : @V => (fun Mp2 : @Mm => (W299 (i + (1 : Nat)) [v, v1, v2] Mp2))))))))))))))))))) ∧ (∀ v : @V, (∀ v1 : @V, (∀ v2 : @V, (∀ Mpp : @Mm, ((W299 m2 [v, v1, v2] Mpp) → (Q @V.none Mpp))))))))))))))))))))))))))))) : CallP C (k + 1) (.ref 411) [x_store, x_cell, x_work] M Q := by
  refine callP_fn (st := ms 28) (qual := (u [112, 117, 115, 104, 95, 97, 114, 103, 117, 109, 101, 110, 116, 115])) (pm := pm4) (pmt := 692) (dfl := .none) (ns := [n_store, n_cell, n_work]) (by kernel_rfl) (by kernel_rfl) (by kernel_rfl) (bnd3 rfl (by kernel_rfl)) ?_
  with_reducible exact exs_of (LS := fun l => bif Nat.beq l 299 then ([n_store, n_work, n_place], W299) else (([], fun _ _ _ => False))) (n := 200) (by kernel_rfl) h
theorem f_push_pairs {C : Cx} {k : Nat} {x_store x_left x_right x_work : V} {M : Mm} {Q : V → Mm → Prop} (W304 : Nat → List V → Mm → Prop)
    (h : (@recvV M @methIn x_store @n_base (fun m : @Mk => (@mcallV C k m x_store [x_left] M (fun X : @V => (fun Mp : @Mm => (@recvV Mp @methIn x_store @n_base (fun m1 : @Mk => (@mcallV C k m1 x_store [x_right] Mp (fun X1 : @V => (fun Mp1 : @Mm => (@recvV Mp1 @methIn x_store @n_width (fun m2 : @Mk => (@mcallV C k m2 x_store [x_left] Mp1 (fun X2 : @V => (fun Mp2 : @Mm => (@binV @PySem.Operator.Sub X2 (@V.int (1 : Int)) (fun Z : @V => (@negV (@V.int (1 : Int)) (fun Y : @V => (@negV (@V.int (1 : Int)) (fun Y1 : @V => (@rngV [Z, Y, Y1] (fun a : Int => (fun c : Int => (fun m3 : Nat => ((W304 (0 : Nat) [x_store, x_work, X, X1] Mp2) ∧ ((∀ i : Nat, (∀ v : @V, (∀ v1 : @V, (∀ v2 : @V, (∀ v3 : @V, (∀ Mpp : @Mm, ((i < m3) → ((W304 i [v, v1, v2, v3] Mpp) → (@recvV Mpp @methIn v1 @n_append (fun m4 : @Mk => (@attrV Mpp @attrIn v @n_heap (fun Y2 : @V => (@binV @PySem.Operator.Add v2 (@V.int (a + ((i : Int) * c))) (fun Z1 : @V => (@itemV Mpp Y2 Z1 (fun Z2 : @V => (@attrV Mpp @attrIn v @n_heap (fun Y3 : @V => (@binV @PySem.Operator.Add v3 (@V.int (a + ((i : Int) * c))) (fun Z3 : @V => (@itemV Mpp Y3 Z3 (fun Z4 : @V => (@mcallV C k m4 v1 [(@V.tup [Z2, Z4])] Mpp (fun x : @V => (fun Mp3 : @Mm => (W304 (i + (1 : Nat)) [v, v1, v2, v3] Mp3)))))))))))))))))))))))))) ∧ (∀ v : @V, (∀ v1 : @V, (∀ v2 : @V, (∀ v3 : @V, (∀ Mpp : @Mm, ((W304 m3 [v, v1, v2, v3] Mpp) → (Q @V.none Mpp))))))))))))))))))))))))))))))))))) : CallP C (k + 1) (.ref 418) [x_store, x_left, x_right, x_work] M Q := by
  refine callP_fn (st := ms 29) (qual := (u [112, 117, 115, 104, 95, 112, 97, 105, 114, 115])) (pm := pm4) (pmt := 692) (dfl := .none) (ns := [n_store, n_left, n_right, n_work]) (by kernel_rfl) (by kernel_rfl) (by kernel_rfl) (bnd4 rfl (by kernel_rfl)) ?_
  with_reducible exact exs_of (LS := fun l => bif Nat.beq l 304 then ([n_store, n_work, n_left_place, n_right_place], W304) else (([], fun _ _ _ => False))) (n := 200) (by kernel_rfl) h
theorem f_same_shape {C : Cx} {k : Nat} {x_store x_left x_right : V} {M : Mm} {Q : V → Mm → Prop}
    (h : (@itemV M x_left (@V.int (0 : Int)) (fun Z : @V => (@itemV M x_right (@V.int (0 : Int)) (fun Z1 : @V => (@cmpV M @PySem.CmpOp.NotEq Z Z1 (fun b : Bool => (@br b (Q (@V.bool @Bool.false) M) (@itemV M x_left (@V.int (0 : Int)) (fun Z2 : @V => (@cmpV M @PySem.CmpOp.Eq Z2 (@V.int (3 : Int)) (fun b1 : Bool => (@br b1 (Q (@V.bool @Bool.true) M) (@attrV M @attrIn x_store @n_heap (fun Y : @V => (@itemV M x_left (@V.int (1 : Int)) (fun Z3 : @V => (@itemV M Y Z3 (fun Z4 : @V => (@attrV M @attrIn x_store @n_heap (fun Y1 : @V => (@itemV M x_right (@V.int (1 : Int)) (fun Z5 : @V => (@itemV M Y1 Z5 (fun Z6 : @V => (@cmpV M @PySem.CmpOp.Eq Z4 Z6 (fun b2 : Bool => (Q (@V.bool b2) M)))))))))))))))))))))))))))) : CallP C (k + 1) (.ref 425) [x_store, x_left, x_right] M Q := by
  refine callP_fn (st := ms 30) (qual := (u [115, 97, 109, 101, 95, 115, 104, 97, 112, 101])) (pm := pm4) (pmt := 692) (dfl := .none) (ns := [n_store, n_left, n_right]) (by kernel_rfl) (by kernel_rfl) (by kernel_rfl) (bnd3 rfl (by kernel_rfl)) ?_
  with_reducible exact exs_of (LS := fun l => ([], fun _ _ _ => False)) (n := 200) (by kernel_rfl) h
theorem f_is_variable {C : Cx} {k : Nat} {x_cell : V} {M : Mm} {Q : V → Mm → Prop}
    (h : (@itemV M x_cell (@V.int (0 : Int)) (fun Z : @V => (@cmpV M @PySem.CmpOp.Eq Z (@V.int (0 : Int)) (fun b : Bool => (@vTruth (@V.bool b) (fun b1 : Bool => (@br b1 (Q (@V.bool @Bool.true) M) (@itemV M x_cell (@V.int (0 : Int)) (fun Z1 : @V => (@cmpV M @PySem.CmpOp.Eq Z1 (@V.int (1 : Int)) (fun b2 : Bool => (Q (@V.bool b2) M))))))))))))) : CallP C (k + 1) (.ref 432) [x_cell] M Q := by
  refine callP_fn (st := ms 31) (qual := (u [105, 115, 95, 118, 97, 114, 105, 97, 98, 108, 101])) (pm := pm4) (pmt := 692) (dfl := .none) (ns := [n_cell]) (by kernel_rfl) (by kernel_rfl) (by kernel_rfl) (bnd1 rfl (by kernel_rfl)) ?_
  with_reducible exact exs_of (LS := fun l => ([], fun _ _ _ => False)) (n := 200) (by kernel_rfl) h
theorem f_unify {C : Cx} {k : Nat} {x_store x_c1 x_c2 x_occurs : V} {M : Mm} {Q : V → Mm → Prop} (W317 : Nat → List V → Mm → Prop)
    (h : (@callV C k (@V.ref (400 : @PySem.Addr)) [x_store] M (fun X : @V => (fun Mp : @Mm => (∀ a : @PySem.Addr, (((Mp a) = (@Option.none @MO)) → ((∃ i : Nat, (W317 i [x_store, x_occurs, X, (@V.ref a)] (@upd Mp a (@MO.list [(@V.tup [x_c1, x_c2])])))) ∧ (∀ i : Nat, (∀ v : @V, (∀ v1 : @V, (∀ v2 : @V, (∀ v3 : @V, (∀ Mp1 : @Mm, ((W317 i [v, v1, v2, v3] Mp1) → (@callV C k (@V.bi "len") [v3] Mp1 (fun X1 : @V => (fun Mp2 : @Mm => (@cmpV Mp2 @PySem.CmpOp.Gt X1 (@V.int (0 : Int)) (fun b : Bool => (@br b (@recvV Mp2 @methIn v3 @n_pop (fun m : @Mk => (@mcallV C k m v3 [] Mp2 (fun X2 : @V => (fun Mp3 : @Mm => (@pairV X2 (fun a1 : @V => (fun b1 : @V => (@recvV Mp3 @methIn v @n_deref (fun m1 : @Mk => (@mcallV C k m1 v [a1] Mp3 (fun X3 : @V => (fun Mp4 : @Mm => (@recvV Mp4 @methIn v @n_deref (fun m2 : @Mk => (@mcallV C k m2 v [b1] Mp4 (fun X4 : @V => (fun Mp5 : @Mm => (@cmpV Mp5 @PySem.CmpOp.Eq X3 X4 (fun b2 : Bool => (@br b2 (∃ m3 : Nat, ((m3 < i) ∧ (W317 m3 [v, v1, v2, v3] Mp5))) (@callV C k (@V.ref (432 : @PySem.Addr)) [X3] Mp5 (fun Z : @V => (fun Mp6 : @Mm => (@vTruth Z (fun b3 : Bool => (@br b3 (@callV C k (@V.ref (432 : @PySem.Addr)) [X4] Mp6 (fun Z1 : @V => (fun Mp7 : @Mm => (@vTruth Z1 (fun b4 : Bool => (@br b4 (@recvV Mp7 @methIn v @n_bind_pair (fun m3 : @Mk => (@mcallV C k m3 v [X3, X4] Mp7 (fun x : @V => (fun Mp8 : @Mm => (∃ m4 : Nat, ((m4 < i) ∧ (W317 m4 [v, v1, v2, v3] Mp8)))))))) (@callV C k (@V.ref (446 : @PySem.Addr)) [v, X3, X4, v1] Mp7 (fun Z2 : @V => (fun Mp8 : @Mm => (@vTruth Z2 (fun b5 : Bool => (@br (!b5) (Q (@V.bool @Bool.false) Mp8) (∃ m3 : Nat, ((m3 < i) ∧ (W317 m3 [v, v1, v2, v3] Mp8))))))))))))))) (@callV C k (@V.ref (432 : @PySem.Addr)) [X4] Mp6 (fun Z1 : @V => (fun Mp7 : @Mm => (@vTruth Z1 (fun b4 : Bool => (@br b4 (@callV C k (@V.ref (446 : @PySem.Addr)) [v, X4, X3, v1] Mp7 (fun Z2 : @V => (fun Mp8 : @Mm => (@vTruth Z2 (fun b5 : Bool => (@br (!b5) (Q (@V.bool @Bool.false) Mp8) (∃ m3 : Nat, ((m3 < i) ∧ (W317 m3 [v, v1, v2, v3] Mp8))))))))) (@recvV Mp7 @methIn v @n_is_compound (fun m3 : @Mk => (@mcallV C k m3 v [X3] Mp7 (fun Z2 : @V => (fun Mp8 : @Mm => (@vTruth Z2 (fun b5 : Bool => (@br b5 (@callV C k (@V.ref (425 : @PySem.Addr)) [v, X3, X4] Mp8 (fun Z3 : @V => (fun Mp9 : @Mm => (@vTruth Z3 (fun b6 : Bool => (@br b6 (@recvV Mp9 @methIn v2 @n_add (fun m4 : @Mk => (@mcallV C k m4 v2 [X3, X4] Mp9 (fun Z4 : @V => (fun Mp10 : @Mm => (@vTruth Z4 (fun b7 : Bool => (@br b7 (@callV C k (@V.ref (418 : @PySem.Addr)) [v, X3, X4, v3] Mp10 (fun x : @V => (fun Mp11 : @Mm => (∃ m5 : Nat, ((m5 < i) ∧ (W317 m5 [v, v1, v2, v3] Mp11)))))) (∃ m5 : Nat, ((m5 < i) ∧ (W317 m5 [v, v1, v2, v3] Mp10))))))))))) (Q (@V.bool @Bool.false) Mp9))))))) (Q (@V.bool @Bool.false) Mp8)))))))))))))))))))))))))))))))))))))))))) (Q (@V.bool @Bool.true) Mp2))))))))))))))))))))) : CallP C (k + 1) (.ref 439) [x_store, x_c1, x_c2, x_occurs] M Q := by
  refine callP_fn (st := ms 32) (qual := (u [117, 110, 105, 102, 121])) (pm := pm4) (pmt := 692) (dfl := .none) (ns := [n_store, n_c1, n_c2, n_occurs]) (by kernel_rfl) (by kernel_rfl) (by kernel_rfl) (bnd4 rfl (by kernel_rfl)) ?_
  with_reducible exact exs_of (LS := fun l => bif Nat.beq l 317 then ([n_store, n_occurs, n_met, n_work], W317) else (([], fun _ _ _ => False))) (n := 200) (by kernel_rfl) h
theorem f_bind_checked {C : Cx} {k : Nat} {x_store x_variable x_value x_occurs : V} {M : Mm} {Q : V → Mm → Prop}
    (h : (@vTruth x_occurs (fun b : Bool => (@br b (@callV C k (@V.ref (460 : @PySem.Addr)) [x_store, x_variable, x_value] M (fun Z : @V => (fun Mp : @Mm => (@vTruth Z (fun b1 : Bool => (@br b1 (Q (@V.bool @Bool.false) Mp) (@recvV Mp @methIn x_store @n_bind (fun m : @Mk => (@mcallV C k m x_store [x_variable, x_value] Mp (fun x : @V => (fun Mp1 : @Mm => (Q (@V.bool @Bool.true) Mp1)))))))))))) (@recvV M @methIn x_store @n_bind (fun m : @Mk => (@mcallV C k m x_store [x_variable, x_value] M (fun x : @V => (fun Mp : @Mm => (Q (@V.bool @Bool.true) Mp)))))))))) : CallP C (k + 1) (.ref 446) [x_store, x_variable, x_value, x_occurs] M Q := by
  refine callP_fn (st := ms 33) (qual := (u [98, 105, 110, 100, 95, 99, 104, 101, 99, 107, 101, 100])) (pm := pm4) (pmt := 692) (dfl := .none) (ns := [n_store, n_variable, n_value, n_occurs]) (by kernel_rfl) (by kernel_rfl) (by kernel_rfl) (bnd4 rfl (by kernel_rfl)) ?_
  with_reducible exact exs_of (LS := fun l => ([], fun _ _ _ => False)) (n := 200) (by kernel_rfl) h
theorem f_trial {C : Cx} {k : Nat} {x_store x_c1 x_c2 x_occurs : V} {M : Mm} {Q : V → Mm → Prop}
    (h : (@attrV M @attrIn x_store @n_hb (fun Y : @V => (@attrV M @attrIn x_store @n_bb (fun Y1 : @V => (@recvV M @methIn x_store @n_mark (fun m : @Mk => (@mcallV C k m x_store [] M (fun X : @V => (fun Mp : @Mm => (@attrV Mp @attrIn x_store @n_heap (fun Y2 : @V => (@callV C k (@V.bi "len") [Y2] Mp (fun X1 : @V => (fun Mp1 : @Mm => (@setAttrV Mp1 @attrIn X1 x_store @n_hb (fun M3 : @Mm => (@attrV M3 @attrIn x_store @n_stack (fun Y3 : @V => (@callV C k (@V.bi "len") [Y3] M3 (fun X2 : @V => (fun Mp2 : @Mm => (@setAttrV Mp2 @attrIn X2 x_store @n_bb (fun M31 : @Mm => (@callV C k (@V.ref (439 : @PySem.Addr)) [x_store, x_c1, x_c2, x_occurs] M31 (fun X3 : @V => (fun Mp3 : @Mm => (@recvV Mp3 @methIn x_store @n_undo_to (fun m1 : @Mk => (@mcallV C k m1 x_store [X] Mp3 (fun x : @V => (fun Mp4 : @Mm => (@setAttrV Mp4 @attrIn Y x_store @n_hb (fun M32 : @Mm => (@setAttrV M32 @attrIn Y1 x_store @n_bb (fun M33 : @Mm => (Q X3 M33))))))))))))))))))))))))))))))))))))) : CallP C (k + 1) (.ref 453) [x_store, x_c1, x_c2, x_occurs] M Q := by
  refine callP_fn (st := ms 34) (qual := (u [116, 114, 105, 97, 108])) (pm := pm4) (pmt := 692) (dfl := .none) (ns := [n_store, n_c1, n_c2, n_occurs]) (by kernel_rfl) (by kernel_rfl) (by kernel_rfl) (bnd4 rfl (by kernel_rfl)) ?_
  with_reducible exact exs_of (LS := fun l => ([], fun _ _ _ => False)) (n := 200) (by kernel_rfl) h
theorem f_occurs_in {C : Cx} {k : Nat} {x_store x_variable x_cell : V} {M : Mm} {Q : V → Mm → Prop} (W361 : Nat → List V → Mm → Prop)
    (h : (@recvV M @methIn x_store @n_deref (fun m : @Mk => (@mcallV C k m x_store [x_cell] M (fun X : @V => (fun Mp : @Mm => (@cmpV Mp @PySem.CmpOp.Eq X x_variable (fun b : Bool => (@br b (Q (@V.bool @Bool.true) Mp) (@itemV Mp x_variable (@V.int (0 : Int)) (fun Z : @V => (@cmpV Mp @PySem.CmpOp.Eq Z (@V.int (1 : Int)) (fun b1 : Bool => (@br b1 (Q (@V.bool @Bool.false) Mp) (@recvV Mp @methIn x_store @n_is_compound (fun m1 : @Mk => (@mcallV C k m1 x_store [X] Mp (fun Z1 : @V => (fun Mp1 : @Mm => (@vTruth Z1 (fun b2 : Bool => (@br (!b2) (Q (@V.bool @Bool.false) Mp1) (@callV C k (@V.ty "set") [] Mp1 (fun X1 : @V => (fun Mp2 : @Mm => (∀ a : @PySem.Addr, (((Mp2 a) = (@Option.none @MO)) → ((∃ i : Nat, (W361 i [x_store, x_variable, X1, (@V.ref a)] (@upd Mp2 a (@MO.list [X])))) ∧ (∀ i : Nat, (∀ v : @V, (∀ v1 : @V, (∀ v2 : @V, (∀ v3 : @V, (∀ Mp3 : @Mm, ((W361 i [v, v1, v2, v3] Mp3) → (@callV C k (@V.bi "len") [v3] Mp3 (fun X2 : @V => (fun Mp4 : @Mm => (@cmpV Mp4 @PySem.CmpOp.Gt X2 (@V.int (0 : Int)) (fun b3 : Bool => (@br b3 (@recvV Mp4 @methIn v @n_deref (fun m2 : @Mk => (@recvV Mp4 @methIn v3 @n_pop (fun m3 : @Mk => (@mcallV C k m3 v3 [] Mp4 (fun X3 : @V => (fun Mp5 : @Mm => (@mcallV C k m2 v [X3] Mp5 (fun X4 : @V => (fun Mp6 : @Mm => (@cmpV Mp6 @PySem.CmpOp.Eq X4 v1 (fun b4 : Bool => (@br b4 (Q (@V.bool @Bool.true) Mp6) (@recvV Mp6 @methIn v @n_is_compound (fun m4 : @Mk => (@mcallV C k m4 v [X4] Mp6 (fun Z2 : @V => (fun Mp7 : @Mm => (@vTruth Z2 (fun b5 : Bool => (@br b5 (@itemV Mp7 X4 (@V.int (1 : Int)) (fun Z3 : @V => (@cmpV Mp7 @PySem.CmpOp.NotIn Z3 v2 (fun b6 : Bool => (@br b6 (@recvV Mp7 @methIn v2 @n_add (fun m5 : @Mk => (@itemV Mp7 X4 (@V.int (1 : Int)) (fun Z4 : @V => (@mcallV C k m5 v2 [Z4] Mp7 (fun x : @V => (fun Mp8 : @Mm => (@callV C k (@V.ref (411 : @PySem.Addr)) [v, X4, v3] Mp8 (fun x1 : @V => (fun Mp9 : @Mm => (∃ m6 : Nat, ((m6 < i) ∧ (W361 m6 [v, v1, v2, v3] Mp9))))))))))))) (∃ m5 : Nat, ((m5 < i) ∧ (W361 m5 [v, v1, v2, v3] Mp7)))))))) (∃ m5 : Nat, ((m5 < i) ∧ (W361 m5 [v, v1, v2, v3] Mp7)))))))))))))))))))))))) (Q (@V.bool @Bool.false) Mp4)))))))))))))))))))))))))))))))))))))))))) : CallP C (k + 1) (.ref 460) [x_store, x_variable, x_cell] M Q := by
  refine callP_fn (st := ms 35) (qual := (u [111, 99, 99, 117, 114, 115, 95, 105, 110])) (pm := pm4) (pmt := 692) (dfl := .none) (ns := [n_store, n_variable, n_cell]) (by kernel_rfl) (by kernel_rfl) (by kernel_rfl) (bnd3 rfl (by kernel_rfl)) ?_
  with_reducible exact exs_of (LS := fun l => bif Nat.beq l 361 then ([n_store, n_variable, n_met, n_work], W361) else (([], fun _ _ _ => False))) (n := 200) (by kernel_rfl) h
theorem f_rank {C : Cx} {k : Nat} {x_cell : V} {M : Mm} {Q : V → Mm → Prop}
    (h : (@itemV M x_cell (@V.int (0 : Int)) (fun Z : @V => (@cmpV M @PySem.CmpOp.Eq Z (@V.int (5 : Int)) (fun b : Bool => (@br b (Q (@V.int (1 : Int)) M) (@cmpV M @PySem.CmpOp.Eq Z (@V.int (4 : Int)) (fun b1 : Bool => (@br b1 (Q (@V.int (2 : Int)) M) (@cmpV M @PySem.CmpOp.Eq Z (@V.int (2 : Int)) (fun b2 : Bool => (@br b2 (Q (@V.int (3 : Int)) M) (@cmpV M @PySem.CmpOp.Eq Z (@V.int (3 : Int)) (fun b3 : Bool => (@br b3 (Q (@V.int (3 : Int)) M) (Q (@V.int (0 : Int)) M)))))))))))))))) : CallP C (k + 1) (.ref 467) [x_cell] M Q := by
  refine callP_fn (st := ms 36) (qual := (u [114, 97, 110, 107])) (pm := pm4) (pmt := 692) (dfl := .none) (ns := [n_cell]) (by kernel_rfl) (by kernel_rfl) (by kernel_rfl) (bnd1 rfl (by kernel_rfl)) ?_
  with_reducible exact exs_of (LS := fun l => ([], fun _ _ _ => False)) (n := 200) (by kernel_rfl) h
theorem f_order {C : Cx} {k : Nat} {x_left x_right : V} {M : Mm} {Q : V → Mm → Prop}
    (h : (@cmpV M @PySem.CmpOp.Lt x_left x_right (fun b : Bool => (@br b (@negV (@V.int (1 : Int)) (fun Y : @V => (Q Y M))) (@cmpV M @PySem.CmpOp.Gt x_left x_right (fun b1 : Bool => (@br b1 (Q (@V.int (1 : Int)) M) (Q (@V.int (0 : Int)) M)))))))) : CallP C (k + 1) (.ref 474) [x_left, x_right] M Q := by
  refine callP_fn (st := ms 37) (qual := (u [111, 114, 100, 101, 114])) (pm := pm4) (pmt := 692) (dfl := .none) (ns := [n_left, n_right]) (by kernel_rfl) (by kernel_rfl) (by kernel_rfl) (bnd2 rfl (by kernel_rfl)) ?_
  with_reducible exact exs_of (LS := fun l => ([], fun _ _ _ => False)) (n := 200) (by kernel_rfl) h
theorem f_compare_shapes {C : Cx} {k : Nat} {x_store x_left x_right : V} {M : Mm} {Q : V → Mm → Prop}
    (h : (@attrV M @attrIn x_store @n_symbols (fun Y : @V => (@recvV M @methIn x_store @n_functor_of (fun m : @Mk => (@mcallV C k m x_store [x_left] M (fun X : @V => (fun Mp : @Mm => (@recvV Mp @methIn x_store @n_functor_of (fun m1 : @Mk => (@mcallV C k m1 x_store [x_right] Mp (fun X1 : @V => (fun Mp1 : @Mm => (@cmpV Mp1 @PySem.CmpOp.Eq X X1 (fun b : Bool => (@br b (Q (@V.int (0 : Int)) Mp1) (@recvV Mp1 @methIn Y @n_arity (fun m2 : @Mk => (@mcallV C k m2 Y [X] Mp1 (fun X2 : @V => (fun Mp2 : @Mm => (@recvV Mp2 @methIn Y @n_arity (fun m3 : @Mk => (@mcallV C k m3 Y [X1] Mp2 (fun X3 : @V => (fun Mp3 : @Mm => (@callV C k (@V.ref (474 : @PySem.Addr)) [X2, X3] Mp3 (fun X4 : @V => (fun Mp4 : @Mm => (@cmpV Mp4 @PySem.CmpOp.NotEq X4 (@V.int (0 : Int)) (fun b1 : Bool => (@br b1 (Q X4 Mp4) (@recvV Mp4 @methIn Y @n_text (fun m4 : @Mk => (@recvV Mp4 @methIn Y @n_name (fun m5 : @Mk => (@mcallV C k m5 Y [X] Mp4 (fun X5 : @V => (fun Mp5 : @Mm => (@mcallV C k m4 Y [X5] Mp5 (fun X6 : @V => (fun Mp6 : @Mm => (@recvV Mp6 @methIn Y @n_text (fun m6 : @Mk => (@recvV Mp6 @methIn Y @n_name (fun m7 : @Mk => (@mcallV C k m7 Y [X1] Mp6 (fun X7 : @V => (fun Mp7 : @Mm => (@mcallV C k m6 Y [X7] Mp7 (fun X8 : @V => (fun Mp8 : @Mm => (@callV C k (@V.ref (474 : @PySem.Addr)) [X6, X8] Mp8 (fun X9 : @V => (fun Mp9 : @Mm => (Q X9 Mp9)))))))))))))))))))))))))))))))))))))))))))))))))))))))) : CallP C (k + 1) (.ref 481) [x_store, x_left, x_right] M Q := by
  refine callP_fn (st := ms 38) (qual := (u [99, 111, 109, 112, 97, 114, 101, 95, 115, 104, 97, 112, 101, 115])) (pm := pm4) (pmt := 692) (dfl := .none) (ns := [n_store, n_left, n_right]) (by kernel_rfl) (by kernel_rfl) (by kernel_rfl) (bnd3 rfl (by kernel_rfl)) ?_
  with_reducible exact exs_of (LS := fun l => ([], fun _ _ _ => False)) (n := 200) (by kernel_rfl) h
theorem f_compare_tops {C : Cx} {k : Nat} {x_store x_left x_right : V} {M : Mm} {Q : V → Mm → Prop}
    (h : (@callV C k (@V.ref (467 : @PySem.Addr)) [x_left] M (fun X : @V => (fun Mp : @Mm => (@callV C k (@V.ref (467 : @PySem.Addr)) [x_right] Mp (fun X1 : @V => (fun Mp1 : @Mm => (@callV C k (@V.ref (474 : @PySem.Addr)) [X, X1] Mp1 (fun X2 : @V => (fun Mp2 : @Mm => (@cmpV Mp2 @PySem.CmpOp.NotEq X2 (@V.int (0 : Int)) (fun b : Bool => (@br b (Q X2 Mp2) (@cmpV Mp2 @PySem.CmpOp.Eq X (@V.int (0 : Int)) (fun b1 : Bool => (@br b1 (@callV C k (@V.ref (474 : @PySem.Addr)) [x_left, x_right] Mp2 (fun X3 : @V => (fun Mp3 : @Mm => (Q X3 Mp3)))) (@cmpV Mp2 @PySem.CmpOp.Eq X (@V.int (1 : Int)) (fun b2 : Bool => (@br b2 (@itemV Mp2 x_left (@V.int (1 : Int)) (fun Z : @V => (@itemV Mp2 x_right (@V.int (1 : Int)) (fun Z1 : @V => (@callV C k (@V.ref (474 : @PySem.Addr)) [Z, Z1] Mp2 (fun X3 : @V => (fun Mp3 : @Mm => (Q X3 Mp3)))))))) (@cmpV Mp2 @PySem.CmpOp.Eq X (@V.int (2 : Int)) (fun b3 : Bool => (@br b3 (@attrV Mp2 @attrIn x_store @n_symbols (fun Y : @V => (@recvV Mp2 @methIn Y @n_text (fun m : @Mk => (@itemV Mp2 x_left (@V.int (1 : Int)) (fun Z : @V => (@mcallV C k m Y [Z] Mp2 (fun X3 : @V => (fun Mp3 : @Mm => (@attrV Mp3 @attrIn x_store @n_symbols (fun Y1 : @V => (@recvV Mp3 @methIn Y1 @n_text (fun m1 : @Mk => (@itemV Mp3 x_right (@V.int (1 : Int)) (fun Z1 : @V => (@mcallV C k m1 Y1 [Z1] Mp3 (fun X4 : @V => (fun Mp4 : @Mm => (@callV C k (@V.ref (474 : @PySem.Addr)) [X3, X4] Mp4 (fun X5 : @V => (fun Mp5 : @Mm => (Q X5 Mp5)))))))))))))))))))))) (@callV C k (@V.ref (481 : @PySem.Addr)) [x_store, x_left, x_right] Mp2 (fun X3 : @V => (fun Mp3 : @Mm => (Q X3 Mp3)))))))))))))))))))))))))) : CallP C (k + 1) (.ref 488) [x_store, x_left, x_right] M Q := by
  refine callP_fn (st := ms 39) (qual := (u [99, 111, 109, 112, 97, 114, 101, 95, 116, 111, 112, 115])) (pm := pm4) (pmt := 692) (dfl := .none) (ns := [n_store, n_left, n_right]) (by kernel_rfl) (by kernel_rfl) (by kernel_rfl) (bnd3 rfl (by kernel_rfl)) ?_
  with_reducible exact exs_of (LS := fun l => ([], fun _ _ _ => False)) (n := 200) (by kernel_rfl) h
theorem f_compare {C : Cx} {k : Nat} {x_store x_c1 x_c2 : V} {M : Mm} {Q : V → Mm → Prop} (W409 : Nat → List V → Mm → Prop)
    (h : (@callV C k (@V.ref (400 : @PySem.Addr)) [x_store] M (fun X : @V => (fun Mp : @Mm => (∀ a : @PySem.Addr, (((Mp a) = (@Option.none @MO)) → ((∃ i : Nat, (W409 i [x_store, X, (@V.ref a)] (@upd Mp a (@MO.list [(@V.tup [x_c1, x_c2])])))) ∧ (∀ i : Nat, (∀ v : @V, (∀ v1 : @V, (∀ v2 : @V, (∀ Mp1 : @Mm, ((W409 i [v, v1, v2] Mp1) → (@callV C k (@V.bi "len") [v2] Mp1 (fun X1 : @V => (fun Mp2 : @Mm => (@cmpV Mp2 @PySem.CmpOp.Gt X1 (@V.int (0 : Int)) (fun b : Bool => (@br b (@recvV Mp2 @methIn v2 @n_pop (fun m : @Mk => (@mcallV C k m v2 [] Mp2 (fun X2 : @V => (fun Mp3 : @Mm => (@pairV X2 (fun a1 : @V => (fun b1 : @V => (@recvV Mp3 @methIn v @n_deref (fun m1 : @Mk => (@mcallV C k m1 v [a1] Mp3 (fun X3 : @V => (fun Mp4 : @Mm => (@recvV Mp4 @methIn v @n_deref (fun m2 : @Mk => (@mcallV C k m2 v [b1] Mp4 (fun X4 : @V => (fun Mp5 : @Mm => (@cmpV Mp5 @PySem.CmpOp.Eq X3 X4 (fun b2 : Bool => (@br b2 (∃ m3 : Nat, ((m3 < i) ∧ (W409 m3 [v, v1, v2] Mp5))) (@callV C k (@V.ref (488 : @PySem.Addr)) [v, X3, X4] Mp5 (fun X5 : @V => (fun Mp6 : @Mm => (@cmpV Mp6 @PySem.CmpOp.NotEq X5 (@V.int (0 : Int)) (fun b3 : Bool => (@br b3 (Q X5 Mp6) (@recvV Mp6 @methIn v @n_is_compound (fun m3 : @Mk => (@mcallV C k m3 v [X3] Mp6 (fun Z : @V => (fun Mp7 : @Mm => (@vTruth Z (fun b4 : Bool => (@br b4 (@recvV Mp7 @methIn v1 @n_add (fun m4 : @Mk => (@mcallV C k m4 v1 [X3, X4] Mp7 (fun Z1 : @V => (fun Mp8 : @Mm => (@vTruth Z1 (fun b5 : Bool => (@br b5 (@callV C k (@V.ref (418 : @PySem.Addr)) [v, X3, X4, v2] Mp8 (fun x : @V => (fun Mp9 : @Mm => (∃ m5 : Nat, ((m5 < i) ∧ (W409 m5 [v, v1, v2] Mp9)))))) (∃ m5 : Nat, ((m5 < i) ∧ (W409 m5 [v, v1, v2] Mp8))))))))))) (∃ m4 : Nat, ((m4 < i) ∧ (W409 m4 [v, v1, v2] Mp7)))))))))))))))))))))))))))))))))))))) (Q (@V.int (0 : Int)) Mp2)))))))))))))))))))) : CallP C (k + 1) (.ref 495) [x_store, x_c1, x_c2] M Q := by
  refine callP_fn (st := ms 40) (qual := (u [99, 111, 109, 112, 97, 114, 101])) (pm := pm4) (pmt := 692) (dfl := .none) (ns := [n_store, n_c1, n_c2]) (by kernel_rfl) (by kernel_rfl) (by kernel_rfl) (bnd3 rfl (by kernel_rfl)) ?_
  with_reducible exact exs_of (LS := fun l => bif Nat.beq l 409 then ([n_store, n_met, n_work], W409) else (([], fun _ _ _ => False))) (n := 200) (by kernel_rfl) h
theorem f_identical {C : Cx} {k : Nat} {x_store x_c1 x_c2 : V} {M : Mm} {Q : V → Mm → Prop}
    (h : (@callV C k (@V.ref (495 : @PySem.Addr)) [x_store, x_c1, x_c2] M (fun X : @V => (fun Mp : @Mm => (@cmpV Mp @PySem.CmpOp.Eq X (@V.int (0 : Int)) (fun b : Bool => (Q (@V.bool b) Mp))))))) : CallP C (k + 1) (.ref 502) [x_store, x_c1, x_c2] M Q := by
  refine callP_fn (st := ms 41) (qual := (u [105, 100, 101, 110, 116, 105, 99, 97, 108])) (pm := pm4) (pmt := 692) (dfl := .none) (ns := [n_store, n_c1, n_c2]) (by kernel_rfl) (by kernel_rfl) (by kernel_rfl) (bnd3 rfl (by kernel_rfl)) ?_
  with_reducible exact exs_of (LS := fun l => ([], fun _ _ _ => False)) (n := 200) (by kernel_rfl) h
theorem f_variables {C : Cx} {k : Nat} {x_store x_cell : V} {M : Mm} {Q : V → Mm → Prop} (W428 : Nat → List V → Mm → Prop)
    (h : (∀ a : @PySem.Addr, (((M a) = (@Option.none @MO)) → (@callV C k (@V.ty "set") [] (@upd M a (@MO.list [])) (fun X : @V => (fun Mp : @Mm => (@callV C k (@V.ty "set") [] Mp (fun X1 : @V => (fun Mp1 : @Mm => (@recvV Mp1 @methIn x_store @n_globalise (fun m : @Mk => (@mcallV C k m x_store [x_cell] Mp1 (fun X2 : @V => (fun Mp2 : @Mm => (∀ a1 : @PySem.Addr, (((Mp2 a1) = (@Option.none @MO)) → ((∃ i : Nat, (W428 i [x_store, (@V.ref a), X, X1, (@V.ref a1)] (@upd Mp2 a1 (@MO.list [X2])))) ∧ (∀ i : Nat, (∀ v : @V, (∀ v1 : @V, (∀ v2 : @V, (∀ v3 : @V, (∀ v4 : @V, (∀ Mp3 : @Mm, ((W428 i [v, v1, v2, v3, v4] Mp3) → (@callV C k (@V.bi "len") [v4] Mp3 (fun X3 : @V => (fun Mp4 : @Mm => (@cmpV Mp4 @PySem.CmpOp.Gt X3 (@V.int (0 : Int)) (fun b : Bool => (@br b (@recvV Mp4 @methIn v @n_deref (fun m1 : @Mk => (@recvV Mp4 @methIn v4 @n_pop (fun m2 : @Mk => (@mcallV C k m2 v4 [] Mp4 (fun X4 : @V => (fun Mp5 : @Mm => (@mcallV C k m1 v [X4] Mp5 (fun X5 : @V => (fun Mp6 : @Mm => (@itemV Mp6 X5 (@V.int (0 : Int)) (fun Z : @V => (@cmpV Mp6 @PySem.CmpOp.Eq Z (@V.int (0 : Int)) (fun b1 : Bool => (@br b1 (@itemV Mp6 X5 (@V.int (1 : Int)) (fun Z1 : @V => (@cmpV Mp6 @PySem.CmpOp.NotIn Z1 v2 (fun b2 : Bool => (@br b2 (@recvV Mp6 @methIn v2 @n_add (fun m3 : @Mk => (@itemV Mp6 X5 (@V.int (1 : Int)) (fun Z2 : @V => (@mcallV C k m3 v2 [Z2] Mp6 (fun x : @V => (fun Mp7 : @Mm => (@recvV Mp7 @methIn v1 @n_append (fun m4 : @Mk => (@mcallV C k m4 v1 [X5] Mp7 (fun x1 : @V => (fun Mp8 : @Mm => (∃ m5 : Nat, ((m5 < i) ∧ (W428 m5 [v, v1, v2, v3, v4] Mp8))))))))))))))) (∃ m3 : Nat, ((m3 < i) ∧ (W428 m3 [v, v1, v2, v3, v4] Mp6)))))))) (@recvV Mp6 @methIn v @n_is_compound (fun m3 : @Mk => (@mcallV C k m3 v [X5] Mp6 (fun Z1 : @V => (fun Mp7 : @Mm => (@vTruth Z1 (fun b2 : Bool => (@br b2 (@itemV Mp7 X5 (@V.int (1 : Int)) (fun Z2 : @V => (@cmpV Mp7 @PySem.CmpOp.NotIn Z2 v3 (fun b3 : Bool => (@br b3 (@recvV Mp7 @methIn v3 @n_add (fun m4 : @Mk => (@itemV Mp7 X5 (@V.int (1 : Int)) (fun Z3 : @V => (@mcallV C k m4 v3 [Z3] Mp7 (fun x : @V => (fun Mp8 : @Mm => (@callV C k (@V.ref (411 : @PySem.Addr)) [v, X5, v4] Mp8 (fun x1 : @V => (fun Mp9 : @Mm => (∃ m5 : Nat, ((m5 < i) ∧ (W428 m5 [v, v1, v2, v3, v4] Mp9))))))))))))) (∃ m4 : Nat, ((m4 < i) ∧ (W428 m4 [v, v1, v2, v3, v4] Mp7)))))))) (∃ m4 : Nat, ((m4 < i) ∧ (W428 m4 [v, v1, v2, v3, v4] Mp7)))))))))))))))))))))))))) (Q v1 Mp4)))))))))))))))))))))))))))))))) : CallP C (k + 1) (.ref 509) [x_store, x_cell] M Q := by
  refine callP_fn (st := ms 42) (qual := (u [118, 97, 114, 105, 97, 98, 108, 101, 115])) (pm := pm4) (pmt := 692) (dfl := .none) (ns := [n_store, n_cell]) (by kernel_rfl) (by kernel_rfl) (by kernel_rfl) (bnd2 rfl (by kernel_rfl)) ?_
  with_reducible exact exs_of (LS := fun l => bif Nat.beq l 428 then ([n_store, n_found, n_noted, n_met, n_work], W428) else (([], fun _ _ _ => False))) (n := 200) (by kernel_rfl) h
theorem f_ground {C : Cx} {k : Nat} {x_store x_cell : V} {M : Mm} {Q : V → Mm → Prop} (W441 : Nat → List V → Mm → Prop)
    (h : (@callV C k (@V.ty "set") [] M (fun X : @V => (fun Mp : @Mm => (∀ a : @PySem.Addr, (((Mp a) = (@Option.none @MO)) → ((∃ i : Nat, (W441 i [x_store, X, (@V.ref a)] (@upd Mp a (@MO.list [x_cell])))) ∧ (∀ i : Nat, (∀ v : @V, (∀ v1 : @V, (∀ v2 : @V, (∀ Mp1 : @Mm, ((W441 i [v, v1, v2] Mp1) → (@callV C k (@V.bi "len") [v2] Mp1 (fun X1 : @V => (fun Mp2 : @Mm => (@cmpV Mp2 @PySem.CmpOp.Gt X1 (@V.int (0 : Int)) (fun b : Bool => (@br b (@recvV Mp2 @methIn v @n_deref (fun m : @Mk => (@recvV Mp2 @methIn v2 @n_pop (fun m1 : @Mk => (@mcallV C k m1 v2 [] Mp2 (fun X2 : @V => (fun Mp3 : @Mm => (@mcallV C k m v [X2] Mp3 (fun X3 : @V => (fun Mp4 : @Mm => (@callV C k (@V.ref (432 : @PySem.Addr)) [X3] Mp4 (fun Z : @V => (fun Mp5 : @Mm => (@vTruth Z (fun b1 : Bool => (@br b1 (Q (@V.bool @Bool.false) Mp5) (@recvV Mp5 @methIn v @n_is_compound (fun m2 : @Mk => (@mcallV C k m2 v [X3] Mp5 (fun Z1 : @V => (fun Mp6 : @Mm => (@vTruth Z1 (fun b2 : Bool => (@br b2 (@itemV Mp6 X3 (@V.int (1 : Int)) (fun Z2 : @V => (@cmpV Mp6 @PySem.CmpOp.NotIn Z2 v1 (fun b3 : Bool => (@br b3 (@recvV Mp6 @methIn v1 @n_add (fun m3 : @Mk => (@itemV Mp6 X3 (@V.int (1 : Int)) (fun Z3 : @V => (@mcallV C k m3 v1 [Z3] Mp6 (fun x : @V => (fun Mp7 : @Mm => (@callV C k (@V.ref (411 : @PySem.Addr)) [v, X3, v2] Mp7 (fun x1 : @V => (fun Mp8 : @Mm => (∃ m4 : Nat, ((m4 < i) ∧ (W441 m4 [v, v1, v2] Mp8))))))))))))) (∃ m3 : Nat, ((m3 < i) ∧ (W441 m3 [v, v1, v2] Mp6)))))))) (∃ m3 : Nat, ((m3 < i) ∧ (W441 m3 [v, v1, v2] Mp6))))))))))))))))))))))))))) (Q (@V.bool @Bool.true) Mp2)))))))))))))))))))) : CallP C (k + 1) (.ref 516) [x_store, x_cell] M Q := by
  refine callP_fn (st := ms 43) (qual := (u [103, 114, 111, 117, 110, 100])) (pm := pm4) (pmt := 692) (dfl := .none) (ns := [n_store, n_cell]) (by kernel_rfl) (by kernel_rfl) (by kernel_rfl) (bnd2 rfl (by kernel_rfl)) ?_
  with_reducible exact exs_of (LS := fun l => bif Nat.beq l 441 then ([n_store, n_met, n_work], W441) else (([], fun _ _ _ => False))) (n := 200) (by kernel_rfl) h
theorem f_law_start {C : Cx} {k : Nat} {x_script : V} {M : Mm} {Q : V → Mm → Prop} (W452 : Nat → List V → Mm → Prop)
    (h : (∀ a : @PySem.Addr, (((M a) = (@Option.none @MO)) → (@cutV C (@upd M a (@MO.list [])) x_script (@V.int (50 : Int)) (fun X : @V => (fun Mp : @Mm => (∃ items : (@List @V), ((@srcV X items Mp) ∧ ((W452 (0 : Nat) [(@V.ref a)] Mp) ∧ ((∀ i : Nat, (∀ Y : @V, (∀ v : @V, (∀ Mpp : @Mm, (((items)[i]? = (some Y)) → ((@srcV X items Mpp) → ((W452 i [v] Mpp) → (@recvV Mpp @methIn v @n_append (fun m : @Mk => (@binV @PySem.Operator.Mod Y (@V.int (360 : Int)) (fun Z : @V => (@mcallV C k m v [Z] Mpp (fun x : @V => (fun Mp1 : @Mm => ((@srcV X items Mp1) ∧ (W452 (i + (1 : Nat)) [v] Mp1)))))))))))))))) ∧ (∀ v : @V, (∀ Mpp : @Mm, ((@srcV X items Mpp) → ((W452 (List.length items) [v] Mpp) → (∀ a1 : @PySem.Addr, (((Mpp a1) = (@Option.none @MO)) → (Q (@V.ref a1) (@upd Mpp a1 (@MO.list [v, (@V.int (0 : Int))]))))))))))))))))))) : CallP C (k + 1) (.ref 523) [x_script] M Q := by
  refine callP_fn (st := ms 45) (qual := (u [95, 108, 97, 119, 95, 115, 116, 97, 114, 116])) (pm := pm5) (pmt := 908) (dfl := .none) (ns := [n_script]) (by kernel_rfl) (by kernel_rfl) (by kernel_rfl) (bnd1 rfl (by kernel_rfl)) ?_
  with_reducible exact exs_of (LS := fun l => bif Nat.beq l 452 then ([n_kept], W452) else (([], fun _ _ _ => False))) (n := 200) (by kernel_rfl) h
theorem f_law_step {C : Cx} {k : Nat} {x_hand x_ways : V} {M : Mm} {Q : V → Mm → Prop}
    (h : (@itemV M x_hand (@V.int (1 : Int)) (fun X : @V => (@augV @PySem.Operator.Add X (@V.int (1 : Int)) (fun Z : @V => (@setItemV M Z x_hand (@V.int (1 : Int)) (fun M5 : @Mm => (@itemV M5 x_hand (@V.int (1 : Int)) (fun Z1 : @V => (@itemV M5 x_hand (@V.int (0 : Int)) (fun Z2 : @V => (@callV C k (@V.bi "len") [Z2] M5 (fun Y : @V => (fun Mpp : @Mm => (@cmpV Mpp @PySem.CmpOp.LtE Z1 Y (fun b : Bool => (@br b (@itemV Mpp x_hand (@V.int (0 : Int)) (fun Z3 : @V => (@itemV Mpp x_hand (@V.int (1 : Int)) (fun Z4 : @V => (@binV @PySem.Operator.Sub Z4 (@V.int (1 : Int)) (fun Z5 : @V => (@itemV Mpp Z3 Z5 (fun Z6 : @V => (@binV @PySem.Operator.Mod Z6 x_ways (fun Z7 : @V => (Q Z7 Mpp))))))))))) (@itemV Mpp x_hand (@V.int (0 : Int)) (fun Z3 : @V => (@callV C k (@V.bi "len") [Z3] Mpp (fun X1 : @V => (fun Mp : @Mm => (@cmpV Mp @PySem.CmpOp.Gt X1 (@V.int (4 : Int)) (fun b1 : Bool => (@br b1 (@itemV Mp x_hand (@V.int (1 : Int)) (fun Z4 : @V => (@binV @PySem.Operator.Mult Z4 (@V.int (13 : Int)) (fun Z5 : @V => (@binV @PySem.Operator.Mod Z5 (@V.int (17 : Int)) (fun Z6 : @V => (@binV @PySem.Operator.Mod Z6 x_ways (fun Z7 : @V => (Q Z7 Mp))))))))) (Q (@V.int (0 : Int)) Mp)))))))))))))))))))))))))) : CallP C (k + 1) (.ref 530) [x_hand, x_ways] M Q := by
  refine callP_fn (st := ms 46) (qual := (u [95, 108, 97, 119, 95, 115, 116, 101, 112])) (pm := pm5) (pmt := 908) (dfl := .none) (ns := [n_hand, n_ways]) (by kernel_rfl) (by kernel_rfl) (by kernel_rfl) (bnd2 rfl (by kernel_rfl)) ?_
  with_reducible exact exs_of (LS := fun l => ([], fun _ _ _ => False)) (n := 200) (by kernel_rfl) h
theorem f_law_areas {C : Cx} {k : Nat} {x_store : V} {M : Mm} {Q : V → Mm → Prop}
    (h : (@attrV M @attrIn x_store @n_heap (fun Y : @V => (@callV C k (@V.ty "list") [Y] M (fun X : @V => (fun Mp : @Mm => (@attrV Mp @attrIn x_store @n_stack (fun Y1 : @V => (@callV C k (@V.ty "list") [Y1] Mp (fun X1 : @V => (fun Mp1 : @Mm => (@attrV Mp1 @attrIn x_store @n_trail (fun Y2 : @V => (@callV C k (@V.ty "list") [Y2] Mp1 (fun X2 : @V => (fun Mp2 : @Mm => (@attrV Mp2 @attrIn x_store @n_hb (fun Y3 : @V => (@attrV Mp2 @attrIn x_store @n_bb (fun Y4 : @V => (Q (@V.tup [X, X1, X2, Y3, Y4]) Mp2))))))))))))))))))))) : CallP C (k + 1) (.ref 542) [x_store] M Q := by
  refine callP_fn (st := ms 48) (qual := (u [95, 108, 97, 119, 95, 97, 114, 101, 97, 115])) (pm := pm5) (pmt := 908) (dfl := .none) (ns := [n_store]) (by kernel_rfl) (by kernel_rfl) (by kernel_rfl) (bnd1 rfl (by kernel_rfl)) ?_
  with_reducible exact exs_of (LS := fun l => ([], fun _ _ _ => False)) (n := 200) (by kernel_rfl) h
theorem f_lawA {C : Cx} {k : Nat} {x_script : V} {M : Mm} {R : Fl → Loc → Mm → Prop} (W474 : Nat → List V → Mm → Prop)
    (h : (@callV C k (@V.ref (523 : @PySem.Addr)) [x_script] M (fun X : @V => (fun Mp : @Mm => (@callV C k (@V.ref (154 : @PySem.Addr)) [] Mp (fun X1 : @V => (fun Mp1 : @Mm => (@callV C k (@V.ref (374 : @PySem.Addr)) [X1] Mp1 (fun X2 : @V => (fun Mp2 : @Mm => (@dictV Mp2 (fun X3 : @V => (fun Mp3 : @Mm => (@rngV [(@V.int (2 : Int))] (fun a : Int => (fun c : Int => (fun m : Nat => ((W474 (0 : Nat) [X, X1, X2, X3] Mp3) ∧ ((∀ i : Nat, (∀ v : @V, (∀ v1 : @V, (∀ v2 : @V, (∀ v3 : @V, (∀ Mpp : @Mm, ((i < m) → ((W474 i [v, v1, v2, v3] Mpp) → (@recvV Mpp @methIn v2 @n_stack_put (fun m1 : @Mk => (@mcallV C k m1 v2 [(@V.int (a + ((i : Int) * c))), (@V.tup [(@V.int (1 : Int)), (@V.int (a + ((i : Int) * c)))])] Mpp (fun x : @V => (fun Mp4 : @Mm => (@callV C k (@V.ref (530 : @PySem.Addr)) [v, (@V.int (2 : Int))] Mp4 (fun X4 : @V => (fun Mp5 : @Mm => (@cmpV Mp5 @PySem.CmpOp.Eq X4 (@V.int (1 : Int)) (fun b : Bool => (@br b (@setItemV Mp5 (@V.tup [(@V.int (1 : Int)), (@V.int (a + ((i : Int) * c)))]) v3 (@V.int (a + ((i : Int) * c))) (fun M4 : @Mm => (W474 (i + (1 : Nat)) [v, v1, v2, v3] M4))) (W474 (i + (1 : Nat)) [v, v1, v2, v3] Mp5)))))))))))))))))))) ∧ (∀ v : @V, (∀ v1 : @V, (∀ v2 : @V, (∀ v3 : @V, (∀ Mpp : @Mm, ((W474 m [v, v1, v2, v3] Mpp) → (R @Fl.next [(Prod.mk @n_hand v), (Prod.mk @n_names v1), (Prod.mk @n_store v2), (Prod.mk @n_table v3)] Mpp)))))))))))))))))))))))))) : ExsP C ⟨k, fScope (ms 49), []⟩ (List.take 5 (List.drop 0 (fBody (ms 49)))) (zipL [n_script] [x_script]) M R := by
  with_reducible exact exs_of (LS := fun l => bif Nat.beq l 474 then ([n_hand, n_names, n_store, n_table], W474) else (([], fun _ _ _ => False))) (n := 200) (by kernel_rfl) h
theorem f_lawB {C : Cx} {k : Nat} {x_hand x_names x_store x_table : V} {M : Mm} {R : Fl → Loc → Mm → Prop}
    (h : (@recvV M @methIn x_store @n_put_term (fun m : @Mk => (@callV C k (@V.ref (535 : @PySem.Addr)) [x_hand, x_names, (@V.int (0 : Int))] M (fun X : @V => (fun Mp : @Mm => (@mcallV C k m x_store [X, x_table] Mp (fun X1 : @V => (fun Mp1 : @Mm => (@recvV Mp1 @methIn x_store @n_put_term (fun m1 : @Mk => (@callV C k (@V.ref (535 : @PySem.Addr)) [x_hand, x_names, (@V.int (0 : Int))] Mp1 (fun X2 : @V => (fun Mp2 : @Mm => (@mcallV C k m1 x_store [X2, x_table] Mp2 (fun X3 : @V => (fun Mp3 : @Mm => (R @Fl.next [(Prod.mk @n_hand x_hand), (Prod.mk @n_names x_names), (Prod.mk @n_store x_store), (Prod.mk @n_table x_table), (Prod.mk @n_one X1), (Prod.mk @n_other X3)] Mp3)))))))))))))))))) : ExsP C ⟨k, fScope (ms 49), []⟩ (List.take 2 (List.drop 5 (fBody (ms 49)))) (zipL [n_hand, n_names, n_store, n_table] [x_hand, x_names, x_store, x_table]) M R := by
  with_reducible exact exs_of (LS := fun l => ([], fun _ _ _ => False)) (n := 200) (by kernel_rfl) h
theorem f_lawC {C : Cx} {k : Nat} {x_hand x_names x_store x_table x_one x_other : V} {M : Mm} {R : Fl → Loc → Mm → Prop}
    (h : (@callV C k (@V.ref (530 : @PySem.Addr)) [x_hand, (@V.int (2 : Int))] M (fun X : @V => (fun Mp : @Mm => (@cmpV Mp @PySem.CmpOp.Eq X (@V.int (1 : Int)) (fun b : Bool => (@br b (@cmpV Mp @PySem.CmpOp.In (@V.int (4 : Int)) x_table (fun b1 : Bool => (@br b1 (@recvV Mp @methIn x_store @n_bind (fun m : @Mk => (@itemV Mp x_table (@V.int (4 : Int)) (fun Z : @V => (@mcallV C k m x_store [Z, (@V.tup [(@V.int (4 : Int)), (@V.int (0 : Int))])] Mp (fun x : @V => (fun Mp1 : @Mm => (R @Fl.next [(Prod.mk @n_hand x_hand), (Prod.mk @n_names x_names), (Prod.mk @n_store x_store), (Prod.mk @n_table x_table), (Prod.mk @n_one x_one), (Prod.mk @n_other x_other)] Mp1)))))))) (R @Fl.next [(Prod.mk @n_hand x_hand), (Prod.mk @n_names x_names), (Prod.mk @n_store x_store), (Prod.mk @n_table x_table), (Prod.mk @n_one x_one), (Prod.mk @n_other x_other)] Mp)))) (R @Fl.next [(Prod.mk @n_hand x_hand), (Prod.mk @n_names x_names), (Prod.mk @n_store x_store), (Prod.mk @n_table x_table), (Prod.mk @n_one x_one), (Prod.mk @n_other x_other)] Mp)))))))) : ExsP C ⟨k, fScope (ms 49), []⟩ (List.take 1 (List.drop 7 (fBody (ms 49)))) (zipL [n_hand, n_names, n_store, n_table, n_one, n_other] [x_hand, x_names, x_store, x_table, x_one, x_other]) M R := by
  with_reducible exact exs_of (LS := fun l => ([], fun _ _ _ => False)) (n := 200) (by kernel_rfl) h
theorem f_lawD {C : Cx} {k : Nat} {x_hand x_names x_store x_table x_one x_other : V} {M : Mm} {R : Fl → Loc → Mm → Prop}
    (h : (@callV C k (@V.ref (530 : @PySem.Addr)) [x_hand, (@V.int (3 : Int))] M (fun X : @V => (fun Mp : @Mm => (@cmpV Mp @PySem.CmpOp.Eq X (@V.int (2 : Int)) (fun b : Bool => (@br b (@recvV Mp @methIn x_store @n_is_unbound (fun m : @Mk => (@mcallV C k m x_store [(@V.tup [(@V.int (1 : Int)), (@V.int (1 : Int))])] Mp (fun Z : @V => (fun Mp1 : @Mm => (@vTruth Z (fun b1 : Bool => (@br b1 (R @Fl.next [(Prod.mk @n_hand x_hand), (Prod.mk @n_names x_names), (Prod.mk @n_store x_store), (Prod.mk @n_table x_table), (Prod.mk @n_one x_one), (Prod.mk @n_other (@V.tup [(@V.int (1 : Int)), (@V.int (1 : Int))]))] Mp1) (R @Fl.next [(Prod.mk @n_hand x_hand), (Prod.mk @n_names x_names), (Prod.mk @n_store x_store), (Prod.mk @n_table x_table), (Prod.mk @n_one x_one), (Prod.mk @n_other x_other)] Mp1))))))))) (R @Fl.next [(Prod.mk @n_hand x_hand), (Prod.mk @n_names x_names), (Prod.mk @n_store x_store), (Prod.mk @n_table x_table), (Prod.mk @n_one x_one), (Prod.mk @n_other x_other)] Mp)))))))) : ExsP C ⟨k, fScope (ms 49), []⟩ (List.take 1 (List.drop 8 (fBody (ms 49)))) (zipL [n_hand, n_names, n_store, n_table, n_one, n_other] [x_hand, x_names, x_store, x_table, x_one, x_other]) M R := by
  with_reducible exact exs_of (LS := fun l => ([], fun _ _ _ => False)) (n := 200) (by kernel_rfl) h
theorem f_lawE {C : Cx} {k : Nat} {x_store x_one x_other : V} {M : Mm} {R : Fl → Loc → Mm → Prop}
    (h : (@callV C k (@V.ref (542 : @PySem.Addr)) [x_store] M (fun X : @V => (fun Mp : @Mm => (@callV C k (@V.ref (453 : @PySem.Addr)) [x_store, x_one, x_other, (@V.bool @Bool.true)] Mp (fun X1 : @V => (fun Mp1 : @Mm => (@callV C k (@V.ref (453 : @PySem.Addr)) [x_store, x_other, x_one, (@V.bool @Bool.true)] Mp1 (fun X2 : @V => (fun Mp2 : @Mm => (@callV C k (@V.ref (542 : @PySem.Addr)) [x_store] Mp2 (fun X3 : @V => (fun Mp3 : @Mm => (@cmpV Mp3 @PySem.CmpOp.NotEq X3 X (fun b : Bool => (@br b (R (@Fl.ret (@V.bool @Bool.false)) [(Prod.mk @n_store x_store), (Prod.mk @n_one x_one), (Prod.mk @n_other x_other), (Prod.mk @n_occurs (@V.bool @Bool.true)), (Prod.mk @n_before X), (Prod.mk @n_told X1), (Prod.mk @n_back X2)] Mp3) (@cmpV Mp3 @PySem.CmpOp.NotEq X1 X2 (fun b1 : Bool => (@br b1 (R (@Fl.ret (@V.bool @Bool.false)) [(Prod.mk @n_store x_store), (Prod.mk @n_one x_one), (Prod.mk @n_other x_other), (Prod.mk @n_occurs (@V.bool @Bool.true)), (Prod.mk @n_before X), (Prod.mk @n_told X1), (Prod.mk @n_back X2)] Mp3) (R @Fl.next [(Prod.mk @n_store x_store), (Prod.mk @n_one x_one), (Prod.mk @n_other x_other), (Prod.mk @n_occurs (@V.bool @Bool.true)), (Prod.mk @n_before X), (Prod.mk @n_told X1), (Prod.mk @n_back X2)] Mp3)))))))))))))))))))) : ExsP C ⟨k, fScope (ms 49), []⟩ (List.take 5 (List.drop 9 (fBody (ms 49)))) (zipL [n_store, n_one, n_other] [x_store, x_one, x_other]) M R := by
  with_reducible exact exs_of (LS := fun l => ([], fun _ _ _ => False)) (n := 200) (by kernel_rfl) h
theorem f_lawF {C : Cx} {k : Nat} {x_store x_one x_other x_occurs x_before x_told : V} {M : Mm} {R : Fl → Loc → Mm → Prop}
    (h : (@attrV M @attrIn x_store @n_heap (fun Y : @V => (@callV C k (@V.bi "len") [Y] M (fun X : @V => (fun Mp : @Mm => (@setAttrV Mp @attrIn X x_store @n_hb (fun M3 : @Mm => (@attrV M3 @attrIn x_store @n_stack (fun Y1 : @V => (@callV C k (@V.bi "len") [Y1] M3 (fun X1 : @V => (fun Mp1 : @Mm => (@setAttrV Mp1 @attrIn X1 x_store @n_bb (fun M31 : @Mm => (@recvV M31 @methIn x_store @n_mark (fun m : @Mk => (@mcallV C k m x_store [] M31 (fun X2 : @V => (fun Mp2 : @Mm => (@callV C k (@V.ref (439 : @PySem.Addr)) [x_store, x_one, x_other, x_occurs] Mp2 (fun X3 : @V => (fun Mp3 : @Mm => (@cmpV Mp3 @PySem.CmpOp.NotEq X3 x_told (fun b : Bool => (@br b (R (@Fl.ret (@V.bool @Bool.false)) [(Prod.mk @n_store x_store), (Prod.mk @n_one x_one), (Prod.mk @n_other x_other), (Prod.mk @n_occurs x_occurs), (Prod.mk @n_before x_before), (Prod.mk @n_told x_told), (Prod.mk @n_start X2)] Mp3) (R @Fl.next [(Prod.mk @n_store x_store), (Prod.mk @n_one x_one), (Prod.mk @n_other x_other), (Prod.mk @n_occurs x_occurs), (Prod.mk @n_before x_before), (Prod.mk @n_told x_told), (Prod.mk @n_start X2)] Mp3))))))))))))))))))))))))))) : ExsP C ⟨k, fScope (ms 49), []⟩ (List.take 4 (List.drop 14 (fBody (ms 49)))) (zipL [n_store, n_one, n_other, n_occurs, n_before, n_told] [x_store, x_one, x_other, x_occurs, x_before, x_told]) M R := by
  with_reducible exact exs_of (LS := fun l => ([], fun _ _ _ => False)) (n := 200) (by kernel_rfl) h
theorem f_lawG {C : Cx} {k : Nat} {x_store x_one x_other x_occurs x_before x_told x_start : V} {M : Mm} {R : Fl → Loc → Mm → Prop}
    (h : (@vTruth x_told (fun b : Bool => (@br b (@callV C k (@V.ref (509 : @PySem.Addr)) [x_store, x_one] M (fun X : @V => (fun Mp : @Mm => (@callV C k (@V.ref (502 : @PySem.Addr)) [x_store, x_one, x_other] Mp (fun Z : @V => (fun Mp1 : @Mm => (@vTruth Z (fun b1 : Bool => (@br (!b1) (R (@Fl.ret (@V.bool @Bool.false)) [(Prod.mk @n_store x_store), (Prod.mk @n_one x_one), (Prod.mk @n_other x_other), (Prod.mk @n_occurs x_occurs), (Prod.mk @n_before x_before), (Prod.mk @n_told x_told), (Prod.mk @n_start x_start), (Prod.mk @n_found X)] Mp1) (@callV C k (@V.ref (509 : @PySem.Addr)) [x_store, x_other] Mp1 (fun Y : @V => (fun Mpp : @Mm => (@cmpV Mpp @PySem.CmpOp.NotEq X Y (fun b2 : Bool => (@br b2 (R (@Fl.ret (@V.bool @Bool.false)) [(Prod.mk @n_store x_store), (Prod.mk @n_one x_one), (Prod.mk @n_other x_other), (Prod.mk @n_occurs x_occurs), (Prod.mk @n_before x_before), (Prod.mk @n_told x_told), (Prod.mk @n_start x_start), (Prod.mk @n_found X)] Mpp) (@callV C k (@V.ref (516 : @PySem.Addr)) [x_store, x_one] Mpp (fun X1 : @V => (fun Mp2 : @Mm => (∀ a : @PySem.Addr, (((Mp2 a) = (@Option.none @MO)) → (@cmpV (@upd Mp2 a (@MO.list [])) @PySem.CmpOp.Eq X (@V.ref a) (fun b3 : Bool => (@cmpV (@upd Mp2 a (@MO.list [])) @PySem.CmpOp.NotEq X1 (@V.bool b3) (fun b4 : Bool => (@br b4 (R (@Fl.ret (@V.bool @Bool.false)) [(Prod.mk @n_store x_store), (Prod.mk @n_one x_one), (Prod.mk @n_other x_other), (Prod.mk @n_occurs x_occurs), (Prod.mk @n_before x_before), (Prod.mk @n_told x_told), (Prod.mk @n_start x_start), (Prod.mk @n_found X)] (@upd Mp2 a (@MO.list []))) (@callV C k (@V.ref (516 : @PySem.Addr)) [x_store, x_other] (@upd Mp2 a (@MO.list [])) (fun X2 : @V => (fun Mp3 : @Mm => (∀ a1 : @PySem.Addr, (((Mp3 a1) = (@Option.none @MO)) → (@cmpV (@upd Mp3 a1 (@MO.list [])) @PySem.CmpOp.Eq X (@V.ref a1) (fun b5 : Bool => (@cmpV (@upd Mp3 a1 (@MO.list [])) @PySem.CmpOp.NotEq X2 (@V.bool b5) (fun b6 : Bool => (@br b6 (R (@Fl.ret (@V.bool @Bool.false)) [(Prod.mk @n_store x_store), (Prod.mk @n_one x_one), (Prod.mk @n_other x_other), (Prod.mk @n_occurs x_occurs), (Prod.mk @n_before x_before), (Prod.mk @n_told x_told), (Prod.mk @n_start x_start), (Prod.mk @n_found X)] (@upd Mp3 a1 (@MO.list []))) (@callV C k (@V.ref (542 : @PySem.Addr)) [x_store] (@upd Mp3 a1 (@MO.list [])) (fun X3 : @V => (fun Mp4 : @Mm => (@callV C k (@V.ref (439 : @PySem.Addr)) [x_store, x_other, x_one, x_occurs] Mp4 (fun Z1 : @V => (fun Mp5 : @Mm => (@vTruth Z1 (fun b7 : Bool => (@br (!b7) (R (@Fl.ret (@V.bool @Bool.false)) [(Prod.mk @n_store x_store), (Prod.mk @n_one x_one), (Prod.mk @n_other x_other), (Prod.mk @n_occurs x_occurs), (Prod.mk @n_before x_before), (Prod.mk @n_told x_told), (Prod.mk @n_start x_start), (Prod.mk @n_found X), (Prod.mk @n_done X3)] Mp5) (@callV C k (@V.ref (542 : @PySem.Addr)) [x_store] Mp5 (fun X4 : @V => (fun Mp6 : @Mm => (@cmpV Mp6 @PySem.CmpOp.NotEq X4 X3 (fun b8 : Bool => (@br b8 (R (@Fl.ret (@V.bool @Bool.false)) [(Prod.mk @n_store x_store), (Prod.mk @n_one x_one), (Prod.mk @n_other x_other), (Prod.mk @n_occurs x_occurs), (Prod.mk @n_before x_before), (Prod.mk @n_told x_told), (Prod.mk @n_start x_start), (Prod.mk @n_found X), (Prod.mk @n_done X3)] Mp6) (R @Fl.next [(Prod.mk @n_store x_store), (Prod.mk @n_one x_one), (Prod.mk @n_other x_other), (Prod.mk @n_occurs x_occurs), (Prod.mk @n_before x_before), (Prod.mk @n_told x_told), (Prod.mk @n_start x_start), (Prod.mk @n_found X), (Prod.mk @n_done X3)] Mp6))))))))))))))))))))))))))))))))))))))))))))))))))) (R @Fl.next [(Prod.mk @n_store x_store), (Prod.mk @n_one x_one), (Prod.mk @n_other x_other), (Prod.mk @n_occurs x_occurs), (Prod.mk @n_before x_before), (Prod.mk @n_told x_told), (Prod.mk @n_start x_start)] M))))) : ExsP C ⟨k, fScope (ms 49), []⟩ (List.take 1 (List.drop 18 (fBody (ms 49)))) (zipL [n_store, n_one, n_other, n_occurs, n_before, n_told, n_start] [x_store, x_one, x_other, x_occurs, x_before, x_told, x_start]) M R := by
  with_reducible exact exs_of (LS := fun l => ([], fun _ _ _ => False)) (n := 200) (by kernel_rfl) h
theorem f_lawH {C : Cx} {k : Nat} {x_store x_before x_start : V} {M : Mm} {R : Fl → Loc → Mm → Prop}
    (h : (@recvV M @methIn x_store @n_undo_to (fun m : @Mk => (@mcallV C k m x_store [x_start] M (fun x : @V => (fun Mp : @Mm => (@attrV Mp @attrIn x_store @n_heap (fun Y : @V => (@itemV Mp x_before (@V.int (0 : Int)) (fun Z : @V => (@callV C k (@V.bi "len") [Z] Mp (fun Y1 : @V => (fun Mpp : @Mm => (@cutV C Mpp Y Y1 (fun X : @V => (fun Mp1 : @Mm => (@callV C k (@V.ty "list") [X] Mp1 (fun X1 : @V => (fun Mp2 : @Mm => (@attrV Mp2 @attrIn x_store @n_stack (fun Y2 : @V => (@callV C k (@V.ty "list") [Y2] Mp2 (fun X2 : @V => (fun Mp3 : @Mm => (@attrV Mp3 @attrIn x_store @n_trail (fun Y3 : @V => (@callV C k (@V.ty "list") [Y3] Mp3 (fun X3 : @V => (fun Mp4 : @Mm => (@cutV C Mp4 x_before (@V.int (3 : Int)) (fun Y4 : @V => (fun Mpp1 : @Mm => (@cmpV Mpp1 @PySem.CmpOp.Eq (@V.tup [X1, X2, X3]) Y4 (fun b : Bool => (R (@Fl.ret (@V.bool b)) [(Prod.mk @n_store x_store), (Prod.mk @n_before x_before), (Prod.mk @n_start x_start)] Mpp1))))))))))))))))))))))))))))))))))) : ExsP C ⟨k, fScope (ms 49), []⟩ (List.take 2 (List.drop 19 (fBody (ms 49)))) (zipL [n_store, n_before, n_start] [x_store, x_before, x_start]) M R := by
  with_reducible exact exs_of (LS := fun l => ([], fun _ _ _ => False)) (n := 200) (by kernel_rfl) h
theorem f_CellsI {C : Cx} {k : Nat} {x_self x_symbols x_max_heap : V} {M : Mm} {R : Fl → Loc → Mm → Prop}
    (h : (@setAttrV M @attrIn x_symbols x_self @n_symbols (fun M3 : @Mm => (@setAttrV M3 @attrIn x_max_heap x_self @n_max_heap (fun M31 : @Mm => (∀ a : @PySem.Addr, (((M31 a) = (@Option.none @MO)) → (@setAttrV (@upd M31 a (@MO.list [])) @attrIn (@V.ref a) x_self @n_heap (fun M32 : @Mm => (∀ a1 : @PySem.Addr, (((M32 a1) = (@Option.none @MO)) → (@setAttrV (@upd M32 a1 (@MO.list [])) @attrIn (@V.ref a1) x_self @n_stack (fun M33 : @Mm => (∀ a2 : @PySem.Addr, (((M33 a2) = (@Option.none @MO)) → (@setAttrV (@upd M33 a2 (@MO.list [])) @attrIn (@V.ref a2) x_self @n_trail (fun M34 : @Mm => (@setAttrV M34 @attrIn (@V.int (0 : Int)) x_self @n_hb (fun M35 : @Mm => (@setAttrV M35 @attrIn (@V.int (0 : Int)) x_self @n_bb (fun M36 : @Mm => (R @Fl.next [(Prod.mk @n_self x_self), (Prod.mk @n_symbols x_symbols), (Prod.mk @n_max_heap x_max_heap)] M36)))))))))))))))))))))) : ExsP C ⟨k, fScope (md 24 0), []⟩ (List.take 50 (List.drop 0 (fBody (md 24 0)))) (zipL [n_self, n_symbols, n_max_heap] [x_self, x_symbols, x_max_heap]) M R := by
  with_reducible exact exs_of (LS := fun l => ([], fun _ _ _ => False)) (n := 200) (by kernel_rfl) h
theorem f_treeB {C : Cx} {k : Nat} {x_hand x_names x_deep : V} {M : Mm} {R : Fl → Loc → Mm → Prop}
    (h : (@cmpV M @PySem.CmpOp.Lt x_deep (@V.int (3 : Int)) (fun b : Bool => (@br b (@callV C k (@V.ref (530 : @PySem.Addr)) [x_hand, (@V.int (6 : Int))] M (fun X : @V => (fun Mp : @Mm => (@cmpV Mp @PySem.CmpOp.Lt X (@V.int (3 : Int)) (fun b1 : Bool => (@br b1 (@callV C k (@V.ref (530 : @PySem.Addr)) [x_hand, (@V.int (5 : Int))] Mp (fun X1 : @V => (fun Mp1 : @Mm => (R (@Fl.ret (@V.tup [(@V.str (@u [(118 : Nat)])), X1])) [(Prod.mk @n_kind X)] Mp1)))) (@cmpV Mp @PySem.CmpOp.Eq X (@V.int (3 : Int)) (fun b2 : Bool => (@br b2 (@recvV Mp @methIn x_names @n_atom (fun m : @Mk => (@mcallV C k m x_names [(@V.str (@u [(98 : Nat)]))] Mp (fun X1 : @V => (fun Mp1 : @Mm => (∀ a : @PySem.Addr, (((Mp1 a) = (@Option.none @MO)) → (@callV C k (@V.ref (530 : @PySem.Addr)) [x_hand, (@V.int (2 : Int))] (@upd Mp1 a (@MO.list [(@V.int (0 : Int)), X1])) (fun Y : @V => (fun Mpp : @Mm => (@itemV Mpp (@V.ref a) Y (fun Z : @V => (R (@Fl.ret (@V.tup [(@V.str (@u [(97 : Nat)])), Z])) [(Prod.mk @n_kind X)] Mpp))))))))))))) (@recvV Mp @methIn x_names @n_func (fun m : @Mk => (@binV @PySem.Operator.Sub X (@V.int (3 : Int)) (fun Z : @V => (@mcallV C k m x_names [(@V.str @n_g), Z] Mp (fun X1 : @V => (fun Mp1 : @Mm => (@EvP C (@Fi.mk k (@fScope (@ms (47 : Nat))) [(Prod.mk @n_hand x_hand), (Prod.mk @n_names x_names), (Prod.mk @n_deep x_deep)]) theComp [(Prod.mk @n_kind X)] Mp1 (fun X2 : @V => (fun Mp2 : @Mm => (@callV C k (@V.ty "tuple") [X2] Mp2 (fun X3 : @V => (fun Mp3 : @Mm => (R (@Fl.ret (@V.tup [(@V.str (@u [(115 : Nat)])), X1, X3])) [(Prod.mk @n_kind X)] Mp3))))))))))))))))))))))) (@callV C k (@V.ref (530 : @PySem.Addr)) [x_hand, (@V.int (4 : Int))] M (fun X : @V => (fun Mp : @Mm => (@cmpV Mp @PySem.CmpOp.Lt X (@V.int (3 : Int)) (fun b1 : Bool => (@br b1 (@callV C k (@V.ref (530 : @PySem.Addr)) [x_hand, (@V.int (5 : Int))] Mp (fun X1 : @V => (fun Mp1 : @Mm => (R (@Fl.ret (@V.tup [(@V.str (@u [(118 : Nat)])), X1])) [(Prod.mk @n_kind X)] Mp1)))) (@cmpV Mp @PySem.CmpOp.Eq X (@V.int (3 : Int)) (fun b2 : Bool => (@br b2 (@recvV Mp @methIn x_names @n_atom (fun m : @Mk => (@mcallV C k m x_names [(@V.str (@u [(98 : Nat)]))] Mp (fun X1 : @V => (fun Mp1 : @Mm => (∀ a : @PySem.Addr, (((Mp1 a) = (@Option.none @MO)) → (@callV C k (@V.ref (530 : @PySem.Addr)) [x_hand, (@V.int (2 : Int))] (@upd Mp1 a (@MO.list [(@V.int (0 : Int)), X1])) (fun Y : @V => (fun Mpp : @Mm => (@itemV Mpp (@V.ref a) Y (fun Z : @V => (R (@Fl.ret (@V.tup [(@V.str (@u [(97 : Nat)])), Z])) [(Prod.mk @n_kind X)] Mpp))))))))))))) (@recvV Mp @methIn x_names @n_func (fun m : @Mk => (@binV @PySem.Operator.Sub X (@V.int (3 : Int)) (fun Z : @V => (@mcallV C k m x_names [(@V.str @n_g), Z] Mp (fun X1 : @V => (fun Mp1 : @Mm => (@EvP C (@Fi.mk k (@fScope (@ms (47 : Nat))) [(Prod.mk @n_hand x_hand), (Prod.mk @n_names x_names), (Prod.mk @n_deep x_deep)]) theComp [(Prod.mk @n_kind X)] Mp1 (fun X2 : @V => (fun Mp2 : @Mm => (@callV C k (@V.ty "tuple") [X2] Mp2 (fun X3 : @V => (fun Mp3 : @Mm => (R (@Fl.ret (@V.tup [(@V.str (@u [(115 : Nat)])), X1, X3])) [(Prod.mk @n_kind X)] Mp3))))))))))))))))))))))))))) : ExsP C ⟨k, fScope (ms 47), [(n_hand, x_hand), (n_names, x_names), (n_deep, x_deep)]⟩ (List.take 50 (List.drop 0 (fBody (ms 47)))) (zipL [] []) M R := by
  with_reducible exact exs_of (LS := fun l => ([], fun _ _ _ => False)) (n := 200) (by kernel_rfl) h
end Mine

end
section
open PySem PySem.W PyProof.Rows PySem.Calls
set_option Elab.async false
set_option maxRecDepth 100000
set_option linter.all false
namespace Mine
theorem f_putA {C : Cx} {k : Nat} {x_self x_term x_table : V} {M : Mm} {R : Fl → Loc → Mm → Prop} (W246 : Nat → List V → Mm → Prop)
    (h : (@callV C k (@V.ty "list") [x_table] M (fun X : @V => (fun Mp : @Mm => (∃ items : (@List @V), ((@srcV X items Mp) ∧ ((W246 (0 : Nat) [x_self, x_term, x_table] Mp) ∧ ((∀ i : Nat, (∀ Y : @V, (∀ v : @V, (∀ v1 : @V, (∀ v2 : @V, (∀ Mpp : @Mm, (((items)[i]? = (some Y)) → ((@srcV X items Mpp) → ((W246 i [v, v1, v2] Mpp) → (@itemV Mpp v2 Y (fun Z : @V => (@itemV Mpp Z (@V.int (0 : Int)) (fun Z1 : @V => (@cmpV Mpp @PySem.CmpOp.Eq Z1 (@V.int (1 : Int)) (fun b : Bool => (@br b (@recvV Mpp @methIn v @n_globalise (fun m : @Mk => (@itemV Mpp v2 Y (fun Z2 : @V => (@mcallV C k m v [Z2] Mpp (fun X1 : @V => (fun Mp1 : @Mm => (@setItemV Mp1 X1 v2 Y (fun M4 : @Mm => ((@srcV X items M4) ∧ (W246 (i + (1 : Nat)) [v, v1, v2] M4))))))))))) ((@srcV X items Mpp) ∧ (W246 (i + (1 : Nat)) [v, v1, v2] Mpp)))))))))))))))))) ∧ (∀ v : @V, (∀ v1 : @V, (∀ v2 : @V, (∀ Mpp : @Mm, ((@srcV X items Mpp) → ((W246 (List.length items) [v, v1, v2] Mpp) → (@itemV Mpp v1 (@V.int (0 : Int)) (fun Z : @V => (@cmpV Mpp @PySem.CmpOp.Eq Z (@V.str (@u [(118 : Nat)])) (fun b : Bool => (@br b (@itemV Mpp v1 (@V.int (1 : Int)) (fun Z1 : @V => (@cmpV Mpp @PySem.CmpOp.NotIn Z1 v2 (fun b1 : Bool => (@br b1 (@recvV Mpp @methIn v @n_new_var (fun m : @Mk => (@mcallV C k m v [] Mpp (fun X1 : @V => (fun Mp1 : @Mm => (@itemV Mp1 v1 (@V.int (1 : Int)) (fun Z2 : @V => (@setItemV Mp1 X1 v2 Z2 (fun M4 : @Mm => (@itemV M4 v1 (@V.int (1 : Int)) (fun Z3 : @V => (@itemV M4 v2 Z3 (fun Z4 : @V => (R (@Fl.ret Z4) [(Prod.mk @n_self v), (Prod.mk @n_term v1), (Prod.mk @n_table v2), (Prod.mk @n_kind Z)] M4)))))))))))))) (@itemV Mpp v1 (@V.int (1 : Int)) (fun Z2 : @V => (@itemV Mpp v2 Z2 (fun Z3 : @V => (R (@Fl.ret Z3) [(Prod.mk @n_self v), (Prod.mk @n_term v1), (Prod.mk @n_table v2), (Prod.mk @n_kind Z)] Mpp)))))))))) (@cmpV Mpp @PySem.CmpOp.Eq Z (@V.str (@u [(97 : Nat)])) (fun b1 : Bool => (@br b1 (@itemV Mpp v1 (@V.int (1 : Int)) (fun Z1 : @V => (R (@Fl.ret (@V.tup [(@V.int (4 : Int)), Z1])) [(Prod.mk @n_self v), (Prod.mk @n_term v1), (Prod.mk @n_table v2), (Prod.mk @n_kind Z)] Mpp))) (@cmpV Mpp @PySem.CmpOp.Eq Z (@V.str @n_i) (fun b2 : Bool => (@br b2 (@itemV Mpp v1 (@V.int (1 : Int)) (fun Z1 : @V => (R (@Fl.ret (@V.tup [(@V.int (5 : Int)), Z1])) [(Prod.mk @n_self v), (Prod.mk @n_term v1), (Prod.mk @n_table v2), (Prod.mk @n_kind Z)] Mpp))) (@recvV Mpp @methIn v @n_new_block (fun m : @Mk => (@itemV Mpp v1 (@V.int (1 : Int)) (fun Z1 : @V => (@mcallV C k m v [Z1] Mpp (fun X1 : @V => (fun Mp1 : @Mm => (@recvV Mp1 @methIn v @n_base (fun m1 : @Mk => (@mcallV C k m1 v [X1] Mp1 (fun X2 : @V => (fun Mp2 : @Mm => (@itemV Mp2 v1 (@V.int (2 : Int)) (fun Z2 : @V => (∀ a : @PySem.Addr, (((Mp2 a) = (@Option.none @MO)) → (R @Fl.next [(Prod.mk @n_self v), (Prod.mk @n_term v1), (Prod.mk @n_table v2), (Prod.mk @n_kind Z), (Prod.mk @n_made X1), (Prod.mk @n_waiting (@V.ref a)), (Prod.mk @n_at (@V.int (0 : Int)))] (@upd Mp2 a (@MO.list [(@V.tup [X2, Z2])])))))))))))))))))))))))))))))))))))))))))))) : ExsP C ⟨k, fScope (md 25 3), []⟩ (List.take 8 (List.drop 0 (fBody (md 25 3)))) (zipL [n_self, n_term, n_table] [x_self, x_term, x_table]) M R := by
  with_reducible exact exs_of (LS := fun l => bif Nat.beq l 246 then ([n_self, n_term, n_table], W246) else (([], fun _ _ _ => False))) (n := 200) (by kernel_rfl) h
theorem f_putT {C : Cx} {k : Nat} {x_self x_table x_made x_waiting x_at : V} {M : Mm} {R : Bool → Mm → Prop}
    (h : (@callV C k (@V.bi "len") [x_waiting] M (fun Y : @V => (fun Mpp : @Mm => (@cmpV Mpp @PySem.CmpOp.Lt x_at Y (fun b : Bool => (R b Mpp))))))) : TsP C ⟨k, fScope (md 25 3), []⟩ (whT putW) (zipL [n_self, n_table, n_made, n_waiting, n_at] [x_self, x_table, x_made, x_waiting, x_at]) M R := by
  with_reducible exact ts_of (LS := fun l => ([], fun _ _ _ => False)) (n := 200) (by kernel_rfl) h
theorem f_putB {C : Cx} {k : Nat} {x_self x_table x_made x_waiting x_at : V} {M : Mm} {R : Fl → Loc → Mm → Prop} (W264 : Nat → List V → Mm → Prop)
    (h : (@itemV M x_waiting x_at (fun Z : @V => (@pairV Z (fun a : @V => (fun b : @V => (@augV @PySem.Operator.Add x_at (@V.int (1 : Int)) (fun Z1 : @V => (∃ items : (@List @V), ((@srcV b items M) ∧ ((W264 (0 : Nat) [x_self, x_table, x_made, x_waiting, Z1, a] M) ∧ ((∀ i : Nat, (∀ Y : @V, (∀ v : @V, (∀ v1 : @V, (∀ v2 : @V, (∀ v3 : @V, (∀ v4 : @V, (∀ v5 : @V, (∀ Mpp : @Mm, (((items)[i]? = (some Y)) → ((@srcV b items Mpp) → ((W264 i [v, v1, v2, v3, v4, v5] Mpp) → (@itemV Mpp Y (@V.int (0 : Int)) (fun Z2 : @V => (@cmpV Mpp @PySem.CmpOp.Eq Z2 (@V.str (@u [(118 : Nat)])) (fun b1 : Bool => (@br b1 (@itemV Mpp Y (@V.int (1 : Int)) (fun Z3 : @V => (@cmpV Mpp @PySem.CmpOp.In Z3 v1 (fun b2 : Bool => (@br b2 (@itemV Mpp Y (@V.int (1 : Int)) (fun Z4 : @V => (@itemV Mpp v1 Z4 (fun Z5 : @V => (@attrV Mpp @attrIn v @n_heap (fun Y1 : @V => (@setItemV Mpp Z5 Y1 v5 (fun M4 : @Mm => (@augV @PySem.Operator.Add v5 (@V.int (1 : Int)) (fun Z6 : @V => ((@srcV b items M4) ∧ (W264 (i + (1 : Nat)) [v, v1, v2, v3, v4, Z6] M4)))))))))))) (@itemV Mpp Y (@V.int (1 : Int)) (fun Z4 : @V => (@setItemV Mpp (@V.tup [(@V.int (0 : Int)), v5]) v1 Z4 (fun M4 : @Mm => (@augV @PySem.Operator.Add v5 (@V.int (1 : Int)) (fun Z5 : @V => ((@srcV b items M4) ∧ (W264 (i + (1 : Nat)) [v, v1, v2, v3, v4, Z5] M4))))))))))))) (@cmpV Mpp @PySem.CmpOp.Eq Z2 (@V.str (@u [(97 : Nat)])) (fun b2 : Bool => (@br b2 (@itemV Mpp Y (@V.int (1 : Int)) (fun Z3 : @V => (@attrV Mpp @attrIn v @n_heap (fun Y1 : @V => (@setItemV Mpp (@V.tup [(@V.int (4 : Int)), Z3]) Y1 v5 (fun M4 : @Mm => (@augV @PySem.Operator.Add v5 (@V.int (1 : Int)) (fun Z4 : @V => ((@srcV b items M4) ∧ (W264 (i + (1 : Nat)) [v, v1, v2, v3, v4, Z4] M4)))))))))) (@cmpV Mpp @PySem.CmpOp.Eq Z2 (@V.str @n_i) (fun b3 : Bool => (@br b3 (@itemV Mpp Y (@V.int (1 : Int)) (fun Z3 : @V => (@attrV Mpp @attrIn v @n_heap (fun Y1 : @V => (@setItemV Mpp (@V.tup [(@V.int (5 : Int)), Z3]) Y1 v5 (fun M4 : @Mm => (@augV @PySem.Operator.Add v5 (@V.int (1 : Int)) (fun Z4 : @V => ((@srcV b items M4) ∧ (W264 (i + (1 : Nat)) [v, v1, v2, v3, v4, Z4] M4)))))))))) (@recvV Mpp @methIn v @n_new_block (fun m : @Mk => (@itemV Mpp Y (@V.int (1 : Int)) (fun Z3 : @V => (@mcallV C k m v [Z3] Mpp (fun X : @V => (fun Mp : @Mm => (@attrV Mp @attrIn v @n_heap (fun Y1 : @V => (@setItemV Mp X Y1 v5 (fun M4 : @Mm => (@recvV M4 @methIn v3 @n_append (fun m1 : @Mk => (@recvV M4 @methIn v @n_base (fun m2 : @Mk => (@mcallV C k m2 v [X] M4 (fun X1 : @V => (fun Mp1 : @Mm => (@itemV Mp1 Y (@V.int (2 : Int)) (fun Z4 : @V => (@mcallV C k m1 v3 [(@V.tup [X1, Z4])] Mp1 (fun x : @V => (fun Mp2 : @Mm => (@augV @PySem.Operator.Add v5 (@V.int (1 : Int)) (fun Z5 : @V => ((@srcV b items Mp2) ∧ (W264 (i + (1 : Nat)) [v, v1, v2, v3, v4, Z5] Mp2)))))))))))))))))))))))))))))))))))))))))))))))))) ∧ (∀ v : @V, (∀ v1 : @V, (∀ v2 : @V, (∀ v3 : @V, (∀ v4 : @V, (∀ v5 : @V, (∀ Mpp : @Mm, ((@srcV b items Mpp) → ((W264 (List.length items) [v, v1, v2, v3, v4, v5] Mpp) → (R @Fl.next [(Prod.mk @n_self v), (Prod.mk @n_table v1), (Prod.mk @n_made v2), (Prod.mk @n_waiting v3), (Prod.mk @n_at v4), (Prod.mk @n_place v5)] Mpp)))))))))))))))))))))) : ExsP C ⟨k, fScope (md 25 3), []⟩ (whB putW) (zipL [n_self, n_table, n_made, n_waiting, n_at] [x_self, x_table, x_made, x_waiting, x_at]) M R := by
  with_reducible exact exs_of (LS := fun l => bif Nat.beq l 264 then ([n_self, n_table, n_made, n_waiting, n_at, n_place], W264) else (([], fun _ _ _ => False))) (n := 200) (by kernel_rfl) h
theorem f_putC {C : Cx} {k : Nat} {x_self x_table x_made x_waiting x_at : V} {M : Mm} {R : Fl → Loc → Mm → Prop}
    (h : (R (@Fl.ret x_made) [(Prod.mk @n_self x_self), (Prod.mk @n_table x_table), (Prod.mk @n_made x_made), (Prod.mk @n_waiting x_waiting), (Prod.mk @n_at x_at)] M)) : ExsP C ⟨k, fScope (md 25 3), []⟩ (List.take 1 (List.drop 9 (fBody (md 25 3)))) (zipL [n_self, n_table, n_made, n_waiting, n_at] [x_self, x_table, x_made, x_waiting, x_at]) M R := by
  with_reducible exact exs_of (LS := fun l => ([], fun _ _ _ => False)) (n := 200) (by kernel_rfl) h
end Mine

end
section
open PySem PySem.W PyProof.Rows PySem.Calls
set_option Elab.async false
set_option maxRecDepth 100000
set_option linter.all false
namespace Mine
noncomputable section
-- cells, as they come to be here
inductive Cl where
  | ref (n : Nat) | srf (n : Nat) | str (n : Nat) | con (n : Nat) | fn (n : Nat)
  deriving DecidableEq
noncomputable def Cl.tag : Cl → Int
  | .ref _ => 0 | .srf _ => 1 | .str _ => 2 | .con _ => 4 | .fn _ => 6
noncomputable def Cl.num : Cl → Nat
  | .ref n => n | .srf n => n | .str n => n | .con n => n | .fn n => n
noncomputable def cv (c : Cl) : V := .tup [.int c.tag, .int c.num]
noncomputable def clOf (t : Int) (n : Nat) : Cl := if t = 0 then .ref n else if t = 1 then .srf n else if t = 2 then .str n else if t = 4 then .con n else .fn n
theorem clOf_ (c : Cl) : clOf c.tag c.num = c := by cases c <;> rfl
theorem cl_inj {a b : Cl} (h1 : a.tag = b.tag) (h2 : a.num = b.num) : a = b := by rw [← clOf_ a, ← clOf_ b, h1, h2]
theorem cv_inj {a b : Cl} (h : cv a = cv b) : a = b := by
  simp only [cv, V.tup.injEq, List.cons.injEq, V.int.injEq, and_true] at h
  obtain ⟨h1, h2⟩ := h
  exact cl_inj h1 (Int.ofNat.inj h2)
section
variable {C : Cx} {k : Nat} {M : Mm} {a : Addr}
theorem e_tup {l : List V} {n : Nat} {X : V} {Q : V → Prop} (h : l[n]? = some X) (hn : n < 1000000) : itemV M (.tup l) (.int (n : Nat)) Q = Q X := by
  apply propext
  show (0 ≤ (n : Int) ∧ (n : Int) < 1000000 ∧ ∃ Z, l[(n : Int).toNat]? = some Z ∧ Q Z) ↔ _
  rw [Int.toNat_natCast, h]
  constructor
  · rintro ⟨_, _, Z, e, q⟩; cases e; exact q
  · intro q; exact ⟨by omega, by omega, X, rfl, q⟩
theorem e_item0 {c : Cl} {Q : V → Prop} : itemV M (cv c) (.int 0) Q = Q (.int c.tag) := e_tup (n := 0) rfl (by decide)
theorem e_item1 {c : Cl} {Q : V → Prop} : itemV M (cv c) (.int 1) Q = Q (.int c.num) := e_tup (n := 1) rfl (by decide)
theorem nc (a b : Nat) : ((a : Int) = b) = (a = b) := propext ⟨fun h => by omega, fun h => by rw [h]⟩
theorem cl_eq {a b : Cl} : (decide (a.tag = b.tag) && decide ((a.num : Int) = b.num)) = decide (a = b) := by
  by_cases h : a = b
  · subst h; simp
  · rw [decide_eq_false h]
    by_cases h1 : a.tag = b.tag
    · rw [show decide ((a.num : Int) = b.num) = false from decide_eq_false fun h2 => h (cl_inj h1 (Int.ofNat.inj h2)), Bool.and_false]
    · rw [decide_eq_false h1, Bool.false_and]
theorem e_eq {a b : Cl} {Q : Bool → Prop} : cmpV M .Eq (cv a) (cv b) Q = Q (decide (a = b)) := by
  show Q _ = _
  rw [cl_eq]
theorem e_eqI {a b : Int} {Q : Bool → Prop} : cmpV M .Eq (.int a) (.int b) Q = Q (decide (a = b)) := rfl
theorem e_neI {a b : Int} {Q : Bool → Prop} : cmpV M .NotEq (.int a) (.int b) Q = Q (!decide (a = b)) := rfl
theorem e_ltI {a b : Int} {Q : Bool → Prop} : cmpV M .Lt (.int a) (.int b) Q = Q (decide (a < b)) := rfl
theorem e_leI {a b : Int} {Q : Bool → Prop} : cmpV M .LtE (.int a) (.int b) Q = Q (decide (a ≤ b)) := rfl
theorem e_gtI {a b : Int} {Q : Bool → Prop} : cmpV M .Gt (.int a) (.int b) Q = Q (decide (a > b)) := rfl
theorem e_geI {a b : Int} {Q : Bool → Prop} : cmpV M .GtE (.int a) (.int b) Q = Q (decide (a ≥ b)) := rfl
theorem e_br {b : Bool} {P R : Prop} : br b P R = ((b = true → P) ∧ (b = false → R)) := by
  apply propext; cases b <;> simp [br]
theorem e_truth {b : Bool} {Q : Bool → Prop} : vTruth (.bool b) Q = Q b := rfl
theorem e_neg {i : Int} {Q : V → Prop} : negV (.int i) Q = Q (.int (-i)) := rfl
theorem e_add {a b : Int} {Q : V → Prop} : binV .Add (.int a) (.int b) Q = Q (.int (a + b)) := rfl
theorem e_sub {a b : Int} {Q : V → Prop} : binV .Sub (.int a) (.int b) Q = Q (.int (a - b)) := rfl
theorem e_aug {a b : Int} {Q : V → Prop} : augV .Add (.int a) (.int b) Q = Q (.int (a + b)) := rfl
theorem e_pair {a b : V} {Q : V → V → Prop} : pairV (.tup [a, b]) Q = Q a b := rfl
-- on a list
theorem e_len {l : List V} {Q : V → Mm → Prop} (h : M a = some (.list l)) (hl : l.length < 1000000) : callV C k (.bi "len") [.ref a] M Q = Q (.int l.length) M := by
  apply propext
  show ("len" = "len" ∧ ∃ l, M a = some (.list l) ∧ l.length < 1000000 ∧ Q (.int l.length) M) ↔ _
  rw [h]
  constructor
  · rintro ⟨_, l', e, _, q⟩; cases e; exact q
  · intro q; exact ⟨rfl, l, rfl, hl, q⟩
theorem e_rapp {l : List V} {K : Mk → Prop} (h : M a = some (.list l)) : recvV M methIn (.ref a) n_append K = K .append := by
  apply propext
  show (∃ o, M a = some o ∧ _) ↔ _
  rw [h]
  constructor
  · rintro ⟨o, e, q⟩; cases e
    rcases q with ⟨_, q⟩ | ⟨e, _⟩
    · exact q
    · exact absurd e (by decide +kernel)
  · intro q; exact ⟨_, rfl, .inl ⟨by decide +kernel, q⟩⟩
theorem e_rpop {l : List V} {K : Mk → Prop} (h : M a = some (.list l)) : recvV M methIn (.ref a) n_pop K = K .pop := by
  apply propext
  show (∃ o, M a = some o ∧ _) ↔ _
  rw [h]
  constructor
  · rintro ⟨o, e, q⟩; cases e
    rcases q with ⟨e, _⟩ | ⟨_, q⟩
    · exact absurd e (by decide +kernel)
    · exact q
  · intro q; exact ⟨_, rfl, .inr ⟨by decide +kernel, q⟩⟩
theorem e_append {l : List V} {X : V} {Q : V → Mm → Prop} (h : M a = some (.list l)) (hl : l.length < 1000000) : mcallV C k .append (.ref a) [X] M Q = Q .none (upd M a (.list (l ++ [X]))) := by
  apply propext
  show (∃ l, M a = some (.list l) ∧ l.length < 1000000 ∧ _) ↔ _
  rw [h]
  constructor
  · rintro ⟨l', e, _, q⟩; cases e; exact q
  · intro q; exact ⟨l, rfl, hl, q⟩
theorem e_pop {l : List V} {X : V} {Q : V → Mm → Prop} (h : M a = some (.list (l ++ [X]))) (hl : l.length < 1000000) : mcallV C k .pop (.ref a) [] M Q = Q X (upd M a (.list l)) := by
  apply propext
  show (∃ l X, M a = some (.list (l ++ [X])) ∧ l.length < 1000000 ∧ _) ↔ _
  rw [h]
  constructor
  · rintro ⟨l', X', e, _, q⟩
    simp only [Option.some.injEq, MO.list.injEq] at e
    obtain ⟨e1, e2⟩ := List.append_inj' e (by simp)
    subst e1
    simp only [List.cons.injEq, and_true] at e2
    subst e2; exact q
  · intro q; exact ⟨l, X, rfl, hl, q⟩
theorem e_item {l : List V} {n : Nat} {X : V} {Q : V → Prop} (h : M a = some (.list l)) (hx : l[n]? = some X) (hn : n < 1000000) : itemV M (.ref a) (.int n) Q = Q X := by
  apply propext
  show (∃ o, M a = some o ∧ _) ↔ _
  rw [h]
  constructor
  · rintro ⟨o, e, q⟩; cases e
    obtain ⟨_, _, Z, hz, q⟩ := q
    rw [Int.toNat_natCast, hx] at hz; cases hz; exact q
  · intro q; exact ⟨_, rfl, by omega, by omega, X, by rw [Int.toNat_natCast]; exact hx, q⟩
theorem e_set {l : List V} {n : Nat} {X : V} {Q : Mm → Prop} (h : M a = some (.list l)) (hn : n < l.length) (hl : n < 1000000) : setItemV M X (.ref a) (.int n) Q = Q (upd M a (.list (l.set n X))) := by
  apply propext
  show (∃ o, M a = some o ∧ _) ↔ _
  rw [h]
  constructor
  · rintro ⟨o, e, q⟩; cases e
    obtain ⟨_, _, _, q⟩ := q
    rwa [Int.toNat_natCast] at q
  · intro q; exact ⟨_, rfl, by omega, by omega, by rw [Int.toNat_natCast]; exact hn, by rw [Int.toNat_natCast]; exact q⟩
-- on an instance
theorem e_attr {c d : Addr} {l : List (Str × V)} {x : Str} {Y : V} {Q : V → Prop} (h : M a = some (.inst c d)) (hd : M d = some (.ns l)) (ok : attrIn c x = true) (hx : lk x l = some Y) (hb : notBi Y = true) : attrV M attrIn (.ref a) x Q = Q Y := by
  apply propext
  show (∃ c d l Y, M a = some (.inst c d) ∧ M d = some (.ns l) ∧ _) ↔ _
  constructor
  · rintro ⟨c', d', l', Y', e1, e2, _, e3, _, q⟩
    rw [h] at e1; cases e1; rw [hd] at e2; cases e2; rw [hx] at e3; cases e3; exact q
  · intro q; exact ⟨c, d, l, Y, h, hd, ok, hx, hb, q⟩
theorem e_setAttr {c d : Addr} {l : List (Str × V)} {x : Str} {X : V} {Q : Mm → Prop} (h : M a = some (.inst c d)) (hd : M d = some (.ns l)) (ok : attrIn c x = true) (hl : l.length < 100) : setAttrV M attrIn X (.ref a) x Q = Q (upd M d (.ns (Mine.st x X l))) := by
  apply propext
  show (∃ c d l, M a = some (.inst c d) ∧ M d = some (.ns l) ∧ _) ↔ _
  constructor
  · rintro ⟨c', d', l', e1, e2, _, _, q⟩
    rw [h] at e1; cases e1; rw [hd] at e2; cases e2; exact q
  · intro q; exact ⟨c, d, l, h, hd, ok, hl, q⟩
theorem e_recv {c d f : Addr} {l : List (Str × V)} {x : Str} {K : Mk → Prop} (h : M a = some (.inst c d)) (hd : M d = some (.ns l)) (hx : lk x l = none) (hm : methIn c x = some f) : recvV M methIn (.ref a) x K = K (.fn f) := by
  apply propext
  show (∃ o, M a = some o ∧ _) ↔ _
  rw [h]
  constructor
  · rintro ⟨o, e, q⟩; cases e
    obtain ⟨l', f', e1, e2, e3, q⟩ := q
    rw [hm] at e3; cases e3; exact q
  · intro q; exact ⟨_, rfl, l, f, hd, hx, hm, q⟩
theorem e_fn {f : Addr} {O : V} {Xs : List V} {Q : V → Mm → Prop} : mcallV C k (.fn f) O Xs M Q = CallP C k (.ref f) (O :: Xs) M Q := rfl
theorem e_cf {f : Addr} {Xs : List V} {Q : V → Mm → Prop} : callV C k (.ref f) Xs M Q = CallP C k (.ref f) Xs M Q := rfl
end

-- the trail's entries
set_option genInjectivity false in
inductive Tr where
  | h (n : Nat) | s (n : Nat)
  deriving DecidableEq
noncomputable def te : Tr → Int
  | .h n => n
  | .s n => -1 - (n : Int)
set_option genInjectivity false in
structure Ar where
  heap : List Cl
  stack : List Cl
  trail : List Tr
  hb : Nat
  bb : Nat
-- where a store's parts lie
set_option genInjectivity false in
structure SA where
  st : Addr
  d : Addr
  h : Addr
  t : Addr
  r : Addr
  sy : Addr
noncomputable def sNs (S : SA) (hb bb : Nat) : List (Str × V) := [(n_symbols, .ref S.sy), (n_max_heap, .int 100000), (n_heap, .ref S.h), (n_stack, .ref S.t), (n_trail, .ref S.r), (n_hb, .int hb), (n_bb, .int bb)]
structure StA (M : Mm) (S : SA) (A : Ar) : Prop where
  inst : M S.st = some (.inst 374 S.d)
  ns : M S.d = some (.ns (sNs S A.hb A.bb))
  heap : M S.h = some (.list (A.heap.map cv))
  stack : M S.t = some (.list (A.stack.map cv))
  trail : M S.r = some (.list (A.trail.map fun x => .int (te x)))
  ht : S.h ≠ S.t
  hr : S.h ≠ S.r
  tr : S.t ≠ S.r
section
variable {C : Cx} {k : Nat} {M : Mm} {S : SA} {A : Ar}
theorem StA.a_heap (h : StA M S A) {Q : V → Prop} : attrV M attrIn (.ref S.st) n_heap Q = Q (.ref S.h) := e_attr h.inst h.ns (by decide +kernel) rfl rfl
theorem StA.a_stack (h : StA M S A) {Q : V → Prop} : attrV M attrIn (.ref S.st) n_stack Q = Q (.ref S.t) := e_attr h.inst h.ns (by decide +kernel) rfl rfl
theorem StA.a_trail (h : StA M S A) {Q : V → Prop} : attrV M attrIn (.ref S.st) n_trail Q = Q (.ref S.r) := e_attr h.inst h.ns (by decide +kernel) rfl rfl
theorem StA.a_hb (h : StA M S A) {Q : V → Prop} : attrV M attrIn (.ref S.st) n_hb Q = Q (.int A.hb) := e_attr h.inst h.ns (by decide +kernel) rfl rfl
theorem StA.a_bb (h : StA M S A) {Q : V → Prop} : attrV M attrIn (.ref S.st) n_bb Q = Q (.int A.bb) := e_attr h.inst h.ns (by decide +kernel) rfl rfl
theorem StA.a_max (h : StA M S A) {Q : V → Prop} : attrV M attrIn (.ref S.st) n_max_heap Q = Q (.int 100000) := e_attr h.inst h.ns (by decide +kernel) rfl rfl
theorem StA.a_sym (h : StA M S A) {Q : V → Prop} : attrV M attrIn (.ref S.st) n_symbols Q = Q (.ref S.sy) := e_attr h.inst h.ns (by decide +kernel) rfl rfl
theorem StA.meth (h : StA M S A) {x : Str} {f : Addr} {K : Mk → Prop} (hm : methIn 374 x = some f) (hx : lk x (sNs S A.hb A.bb) = none) : recvV M methIn (.ref S.st) x K = K (.fn f) := e_recv h.inst h.ns hx hm
theorem StA.st_d (h : StA M S A) : S.st ≠ S.d := fun e => by have := h.inst; rw [e, h.ns] at this; cases this
theorem StA.st_h (h : StA M S A) : S.st ≠ S.h := fun e => by have := h.inst; rw [e, h.heap] at this; cases this
theorem StA.st_t (h : StA M S A) : S.st ≠ S.t := fun e => by have := h.inst; rw [e, h.stack] at this; cases this
theorem StA.st_r (h : StA M S A) : S.st ≠ S.r := fun e => by have := h.inst; rw [e, h.trail] at this; cases this
theorem StA.d_h (h : StA M S A) : S.d ≠ S.h := fun e => by have := h.ns; rw [e, h.heap] at this; cases this
theorem StA.d_t (h : StA M S A) : S.d ≠ S.t := fun e => by have := h.ns; rw [e, h.stack] at this; cases this
theorem StA.d_r (h : StA M S A) : S.d ≠ S.r := fun e => by have := h.ns; rw [e, h.trail] at this; cases this
theorem StA.setHeap (h : StA M S A) (l : List Cl) : StA (upd M S.h (.list (l.map cv))) S { A with heap := l } :=
  ⟨by rw [upd_ne _ _ h.st_h]; exact h.inst, by rw [upd_ne _ _ h.d_h]; exact h.ns, by rw [upd_same], by rw [upd_ne _ _ h.ht.symm]; exact h.stack, by rw [upd_ne _ _ h.hr.symm]; exact h.trail, h.ht, h.hr, h.tr⟩
theorem StA.setStack (h : StA M S A) (l : List Cl) : StA (upd M S.t (.list (l.map cv))) S { A with stack := l } :=
  ⟨by rw [upd_ne _ _ h.st_t]; exact h.inst, by rw [upd_ne _ _ h.d_t]; exact h.ns, by rw [upd_ne _ _ h.ht]; exact h.heap, by rw [upd_same], by rw [upd_ne _ _ h.tr.symm]; exact h.trail, h.ht, h.hr, h.tr⟩
theorem StA.setTrail (h : StA M S A) (l : List Tr) : StA (upd M S.r (.list (l.map fun x => .int (te x)))) S { A with trail := l } :=
  ⟨by rw [upd_ne _ _ h.st_r]; exact h.inst, by rw [upd_ne _ _ h.d_r]; exact h.ns, by rw [upd_ne _ _ h.hr]; exact h.heap, by rw [upd_ne _ _ h.tr]; exact h.stack, by rw [upd_same], h.ht, h.hr, h.tr⟩
theorem StA.setHb (h : StA M S A) (n : Nat) : StA (upd M S.d (.ns (sNs S n A.bb))) S { A with hb := n } :=
  ⟨by rw [upd_ne _ _ h.st_d]; exact h.inst, by rw [upd_same], by rw [upd_ne _ _ h.d_h.symm]; exact h.heap, by rw [upd_ne _ _ h.d_t.symm]; exact h.stack, by rw [upd_ne _ _ h.d_r.symm]; exact h.trail, h.ht, h.hr, h.tr⟩
theorem StA.setBb (h : StA M S A) (n : Nat) : StA (upd M S.d (.ns (sNs S A.hb n))) S { A with bb := n } :=
  ⟨by rw [upd_ne _ _ h.st_d]; exact h.inst, by rw [upd_same], by rw [upd_ne _ _ h.d_h.symm]; exact h.heap, by rw [upd_ne _ _ h.d_t.symm]; exact h.stack, by rw [upd_ne _ _ h.d_r.symm]; exact h.trail, h.ht, h.hr, h.tr⟩
-- what is not named stays
def Keeps (L : List Addr) (M M' : Mm) : Prop := ∀ a x, M a = some x → a ∉ L → M' a = some x
theorem Keeps.refl (L : List Addr) (M : Mm) : Keeps L M M := fun _ _ e _ => e
theorem Keeps.trans {L : List Addr} {M M' M'' : Mm} (a : Keeps L M M') (b : Keeps L M' M'') : Keeps L M M'' := fun x y e n => b x y (a x y e n) n
theorem Keeps.mono {L L' : List Addr} {M M' : Mm} (a : Keeps L M M') (h : ∀ x, x ∈ L → x ∈ L') : Keeps L' M M' := fun x y e n => a x y e fun q => n (h x q)
theorem Keeps.upd {L : List Addr} {M : Mm} {a : Addr} {x : MO} (h : a ∈ L) : Keeps L M (Mine.upd M a x) := fun b y e n => by rw [upd_ne _ _ (fun q : b = a => n (by rw [q]; exact h))]; exact e
theorem Keeps.new {L : List Addr} {M : Mm} {a : Addr} {x : MO} (h : M a = none) : Keeps L M (Mine.upd M a x) := fun b y e n => by rw [upd_ne _ _ (fun q => by rw [q, h] at e; cases e)]; exact e
end
end
end Mine

end
section
open PySem PySem.W PyProof.Rows PySem.Calls
set_option Elab.async false
set_option maxRecDepth 100000
set_option linter.all false
namespace Mine
noncomputable section
noncomputable def SA.all (S : SA) : List Addr := [S.d, S.h, S.t, S.r]
structure Sm (A : Ar) : Prop where
  h : A.heap.length < 500
  t : A.stack.length < 500
  r : A.trail.length < 60000
noncomputable def bindP (A : Ar) (c v : Cl) : Ar := match c with
  | .ref n => { A with heap := A.heap.set n v, trail := if n < A.hb then A.trail ++ [.h n] else A.trail }
  | .srf n => { A with stack := A.stack.set n v, trail := if n < A.bb then A.trail ++ [.s n] else A.trail }
  | _ => A
-- a variable's place
noncomputable def varAt (A : Ar) (c : Cl) : Prop := match c with
  | .ref n => n < A.heap.length
  | .srf n => n < A.stack.length
  | _ => False
section
variable {C : Cx} {k : Nat} {M : Mm} {S : SA} {A : Ar} {Q : V → Mm → Prop}
theorem c_bind {c v : Cl} (hS : StA M S A) (hm : Sm A) (hc : varAt A c) (h : ∀ M', StA M' S (bindP A c v) → Keeps S.all M M' → Q .none M') : CallP C (k + 1) (.ref 244) [.ref S.st, cv c, cv v] M Q := by
  refine f_bind ?_
  have h1 := hm.h; have h2 := hm.t; have h3 := hm.r
  cases c with
  | ref n =>
    have hc : n < A.heap.length := hc
    have hT := hS.setHeap (A.heap.set n v)
    simp only [e_item1, e_item0, Cl.tag, Cl.num, e_eqI, e_br, decide_true, forall_const, hS.a_heap, Bool.true_eq_false, false_implies, and_true]
    rw [e_set hS.heap (by simpa using hc) (by omega), ← List.map_set]
    simp only [hT.a_hb, e_ltI, decide_eq_true_eq, decide_eq_false_iff_not, hT.a_trail, e_rapp hT.trail]
    refine ⟨fun hlt => ?_, fun hlt => ?_⟩
    · rw [e_append hT.trail (by simp; omega)]
      have hU := hT.setTrail (A.trail ++ [.h n])
      refine h _ ?_ ((Keeps.upd (by simp [SA.all])).trans (Keeps.upd (by simp [SA.all])))
      have hlt' : n < A.hb := by simpa using hlt
      simp only [bindP, hlt', if_true]
      simpa [te] using hU
    · refine h _ ?_ (Keeps.upd (by simp [SA.all]))
      have hlt' : ¬ n < A.hb := by simpa using hlt
      simp only [bindP, hlt', if_false]
      exact hT
  | srf n =>
    have hc : n < A.stack.length := hc
    have hT := hS.setStack (A.stack.set n v)
    simp only [e_item1, e_item0, Cl.tag, Cl.num, e_eqI, e_br]
    refine ⟨fun e => by simp at e, fun _ => ?_⟩
    rw [hS.a_stack, e_set hS.stack (by simpa using hc) (by omega), ← List.map_set]
    simp only [hT.a_bb, e_ltI, decide_eq_true_eq, decide_eq_false_iff_not, hT.a_trail, e_rapp hT.trail, e_neg, e_sub]
    refine ⟨fun hlt => ?_, fun hlt => ?_⟩
    · rw [e_append hT.trail (by simp; omega)]
      have hU := hT.setTrail (A.trail ++ [.s n])
      refine h _ ?_ ((Keeps.upd (by simp [SA.all])).trans (Keeps.upd (by simp [SA.all])))
      have hlt' : n < A.bb := by simpa using hlt
      simp only [bindP, hlt', if_true]
      simpa [te] using hU
    · refine h _ ?_ (Keeps.upd (by simp [SA.all]))
      have hlt' : ¬ n < A.bb := by simpa using hlt
      simp only [bindP, hlt', if_false]
      exact hT
  | _ => exact hc.elim
-- the place of a variable: what stands there
noncomputable def look (A : Ar) : Cl → Option Cl
  | .ref n => A.heap[n]?
  | .srf n => A.stack[n]?
  | c => some c
-- a cell's end is d, found in fewer than n steps
inductive Der (A : Ar) : Nat → Cl → Cl → Prop where
  | stop {n c} (h : look A c = some c) : Der A n c c
  | go {n c c' d} (h : look A c = some c') (ne : c' ≠ c) (r : Der A n c' d) : Der A (n + 1) c d
theorem c_deref {n : Nat} {c d : Cl} (hS : StA M S A) (hm : Sm A) (hd : Der A n c d) (h : Q (cv d) M) : CallP C (k + 1) (.ref 230) [.ref S.st, cv c] M Q := by
  refine f_deref (fun i vals M' => ∃ c', vals = [.ref S.st, cv c'] ∧ M' = M ∧ Der A i c' d) ⟨⟨n, c, rfl, rfl, hd⟩, ?_⟩
  rintro i v v1 M' ⟨c', e, rfl, hi⟩
  simp only [List.cons.injEq, and_true] at e
  obtain ⟨rfl, rfl⟩ := e
  have h1 := hm.h; have h2 := hm.t
  have fin : ∀ {f : Cl}, look A c' = some f → (decide (f = c') = true → Q (cv c') M') ∧ (decide (f = c') = false → ∃ m, m < i ∧ ∃ c'', [.ref S.st, cv f] = [.ref S.st, cv c''] ∧ M' = M' ∧ Der A m c'' d) := fun {f} hf => by
    refine ⟨fun e => ?_, fun e => ?_⟩
    · have := of_decide_eq_true e; subst this
      cases hi with
      | stop _ => exact h
      | go h0 ne _ => rw [hf] at h0; cases h0; exact absurd rfl ne
    · have ne := of_decide_eq_false e
      cases hi with
      | stop h0 => rw [hf] at h0; cases h0; exact absurd rfl ne
      | go h0 _ r => rw [hf] at h0; cases h0; exact ⟨_, Nat.lt_succ_self _, f, rfl, rfl, r⟩
  have stopped : look A c' = some c' → Q (cv c') M' := fun hl => (fin hl).1 (by simp)
  simp only [e_truth, e_br, forall_const, Bool.true_eq_false, false_implies, and_true, e_item0, e_eqI]
  have hl : ∃ f, look A c' = some f := by cases hi with
    | stop h0 => exact ⟨_, h0⟩
    | go h0 _ _ => exact ⟨_, h0⟩
  obtain ⟨f, hf⟩ := hl
  cases c' with
  | ref p =>
    have hf' : A.heap[p]? = some f := hf
    have hp := (List.getElem?_eq_some_iff.mp hf').1
    simp only [Cl.tag, decide_true, forall_const, Bool.true_eq_false, false_implies, and_true, hS.a_heap, e_item1, Cl.num]
    rw [e_item hS.heap (X := cv f) (by simp [hf']) (by omega), e_eq]
    simpa using fin hf
  | srf p =>
    have hf' : A.stack[p]? = some f := hf
    have hp := (List.getElem?_eq_some_iff.mp hf').1
    refine ⟨fun e => by simp [Cl.tag] at e, fun _ => ⟨fun _ => ?_, fun e => by simp [Cl.tag] at e⟩⟩
    simp only [hS.a_stack, e_item1, Cl.num]
    rw [e_item hS.stack (X := cv f) (by simp [hf']) (by omega), e_eq]
    simpa using fin hf
  | str p => exact ⟨fun e => by simp [Cl.tag] at e, fun _ => ⟨fun e => by simp [Cl.tag] at e, fun _ => stopped rfl⟩⟩
  | con p => exact ⟨fun e => by simp [Cl.tag] at e, fun _ => ⟨fun e => by simp [Cl.tag] at e, fun _ => stopped rfl⟩⟩
  | fn p => exact ⟨fun e => by simp [Cl.tag] at e, fun _ => ⟨fun e => by simp [Cl.tag] at e, fun _ => stopped rfl⟩⟩
end
end
end Mine

end
section
open PySem PySem.W PyProof.Rows PySem.Calls
set_option Elab.async false
set_option maxRecDepth 100000
set_option linter.all false
namespace Mine
noncomputable section
-- a cell's end
noncomputable def derF (A : Ar) : Nat → Cl → Option Cl
  | 0, _ => none
  | n + 1, c => match look A c with
    | none => none
    | some d => if d = c then some c else derF A n d
theorem derF_succ {A : Ar} {n : Nat} {c : Cl} : derF A (n + 1) c = match look A c with | none => none | some d => if d = c then some c else derF A n d := rfl
theorem derF_der {A : Ar} {n : Nat} : ∀ {c d : Cl}, derF A n c = some d → Der A n c d := by
  induction n with
  | zero => intro c d h; cases h
  | succ n ih =>
    intro c d h
    rw [derF_succ] at h
    cases he : look A c with
    | none => rw [he] at h; cases h
    | some e =>
      rw [he] at h
      have h : (if e = c then some c else derF A n e) = some d := h
      by_cases q : e = c
      · rw [if_pos q] at h; cases h; subst q; exact .stop he
      · rw [if_neg q] at h; exact .go he q (ih h)
noncomputable abbrev dr (A : Ar) (c : Cl) : Option Cl := derF A 200 c
-- a block's arguments
noncomputable def argsF (ar : Nat → Option Nat) (A : Ar) (p : Nat) : Option (List Cl) := match A.heap[p]? with
  | some (.fn f) => match ar f with
    | some a => if p + 1 + a ≤ A.heap.length ∧ a ≤ 2 then some ((A.heap.drop (p + 1)).take a) else none
    | none => none
  | _ => none
noncomputable def isV : Cl → Bool
  | .ref _ => true
  | .srf _ => true
  | _ => false
-- does v stand in what waits?
noncomputable def occF (ar : Nat → Option Nat) (A : Ar) (v : Cl) : Nat → List Nat → List Cl → Option Bool
  | 0, _, _ => none
  | _ + 1, _, [] => some false
  | n + 1, met, c :: w => match dr A c with
    | none => none
    | some d => if d = v then some true else match d with
      | .str p => if p ∈ met then occF ar A v n met w else match argsF ar A p with
        | some as => occF ar A v n (p :: met) (as ++ w)
        | none => none
      | _ => occF ar A v n met w
noncomputable def occ2 (ar : Nat → Option Nat) (A : Ar) : Cl → Cl → Option Bool
  | .ref v, .str p => occF ar A (.ref v) 1000 [] [.str p]
  | _, _ => some false
-- occurs_in
noncomputable def occI (ar : Nat → Option Nat) (A : Ar) (v c : Cl) : Option Bool := match dr A c with
  | none => none
  | some d => if d = v then some true else occ2 ar A v d
noncomputable def bindPairP (A : Ar) (c d : Cl) : Ar := match c with
  | .ref i => match d with
    | .ref j => if i < j then bindP A (.ref j) (.ref i) else bindP A (.ref i) (.ref j)
    | .srf j => bindP A (.srf j) (.ref i)
    | _ => A
  | .srf i => match d with
    | .srf j => if i < j then bindP A (.srf j) (.srf i) else bindP A (.srf i) (.srf j)
    | .ref j => bindP A (.srf i) (.ref j)
    | _ => A
  | _ => A
noncomputable def uniF (ar : Nat → Option Nat) : Nat → Ar → List (Nat × Nat) → List (Cl × Cl) → Option (Ar × Bool)
  | 0, _, _, _ => none
  | _ + 1, A, _, [] => some (A, true)
  | n + 1, A, met, (l, r) :: w => match dr A l, dr A r with
    | some l', some r' => if l' = r' then uniF ar n A met w else match isV l', isV r' with
      | true, true => uniF ar n (bindPairP A l' r') met w
      | true, false => match occI ar A l' r' with
        | some true => some (A, false)
        | some false => uniF ar n (bindP A l' r') met w
        | none => none
      | false, true => match occI ar A r' l' with
        | some true => some (A, false)
        | some false => uniF ar n (bindP A r' l') met w
        | none => none
      | false, false => match l', r' with
        | .str p, .str q => match A.heap[p]?, A.heap[q]? with
          | some (.fn f), some (.fn f') => if f = f' then
              (if (p, q) ∈ met then uniF ar n A met w else match argsF ar A p, argsF ar A q with
                | some as, some bs => uniF ar n A ((p, q) :: met) (as.zip bs ++ w)
                | _, _ => none)
            else some (A, false)
          | _, _ => none
        | _, _ => some (A, false)
    | _, _ => none
-- compare's answer is 0
noncomputable def cmpF (ar : Nat → Option Nat) (A : Ar) : Nat → List (Nat × Nat) → List (Cl × Cl) → Bool
  | 0, _, _ => false
  | _ + 1, _, [] => true
  | n + 1, met, (l, r) :: w => match dr A l, dr A r with
    | some l', some r' => if l' = r' then cmpF ar A n met w else match l', r' with
      | .str p, .str q => match A.heap[p]?, A.heap[q]? with
        | some (.fn f), some (.fn f') => if f = f' then
            (if (p, q) ∈ met then cmpF ar A n met w else match argsF ar A p, argsF ar A q with
              | some as, some bs => cmpF ar A n ((p, q) :: met) (as.zip bs ++ w)
              | _, _ => false)
          else false
        | _, _ => false
      | _, _ => false
    | _, _ => false
noncomputable def varF (ar : Nat → Option Nat) (A : Ar) : Nat → List Nat → List Nat → List Cl → Option (List Nat)
  | 0, _, _, _ => none
  | _ + 1, found, _, [] => some found
  | n + 1, found, met, c :: w => match dr A c with
    | some (.ref i) => if i ∈ found then varF ar A n found met w else varF ar A n (found ++ [i]) met w
    | some (.str p) => if p ∈ met then varF ar A n found met w else match argsF ar A p with
      | some as => varF ar A n found (p :: met) (as ++ w)
      | none => none
    | some (.con _) => varF ar A n found met w
    | _ => none
noncomputable def grF (ar : Nat → Option Nat) (A : Ar) : Nat → List Nat → List Cl → Option Bool
  | 0, _, _ => none
  | _ + 1, _, [] => some true
  | n + 1, met, c :: w => match dr A c with
    | some (.str p) => if p ∈ met then grF ar A n met w else match argsF ar A p with
      | some as => grF ar A n (p :: met) (as ++ w)
      | none => none
    | some (.con _) => grF ar A n met w
    | some (.ref _) => some false
    | _ => none
section
variable {ar : Nat → Option Nat} {A : Ar} {n : Nat}
theorem argsF_def {p : Nat} : argsF ar A p = match A.heap[p]? with
  | some (.fn f) => match ar f with
    | some a => if p + 1 + a ≤ A.heap.length ∧ a ≤ 2 then some ((A.heap.drop (p + 1)).take a) else none
    | none => none
  | _ => none := rfl
theorem occF_nil {v : Cl} {met : List Nat} : occF ar A v (n + 1) met [] = some false := rfl
theorem occF_cons {v c : Cl} {met : List Nat} {w : List Cl} : occF ar A v (n + 1) met (c :: w) = match dr A c with
    | none => none
    | some d => if d = v then some true else match d with
      | .str p => if p ∈ met then occF ar A v n met w else match argsF ar A p with
        | some as => occF ar A v n (p :: met) (as ++ w)
        | none => none
      | _ => occF ar A v n met w := rfl
theorem uniF_nil {met : List (Nat × Nat)} : uniF ar (n + 1) A met [] = some (A, true) := rfl
theorem uniF_cons {l r : Cl} {met : List (Nat × Nat)} {w : List (Cl × Cl)} : uniF ar (n + 1) A met ((l, r) :: w) = match dr A l, dr A r with
    | some l', some r' => if l' = r' then uniF ar n A met w else match isV l', isV r' with
      | true, true => uniF ar n (bindPairP A l' r') met w
      | true, false => match occI ar A l' r' with
        | some true => some (A, false)
        | some false => uniF ar n (bindP A l' r') met w
        | none => none
      | false, true => match occI ar A r' l' with
        | some true => some (A, false)
        | some false => uniF ar n (bindP A r' l') met w
        | none => none
      | false, false => match l', r' with
        | .str p, .str q => match A.heap[p]?, A.heap[q]? with
          | some (.fn f), some (.fn f') => if f = f' then
              (if (p, q) ∈ met then uniF ar n A met w else match argsF ar A p, argsF ar A q with
                | some as, some bs => uniF ar n A ((p, q) :: met) (as.zip bs ++ w)
                | _, _ => none)
            else some (A, false)
          | _, _ => none
        | _, _ => some (A, false)
    | _, _ => none := rfl
theorem cmpF_nil {met : List (Nat × Nat)} : cmpF ar A (n + 1) met [] = true := rfl
theorem cmpF_cons {l r : Cl} {met : List (Nat × Nat)} {w : List (Cl × Cl)} : cmpF ar A (n + 1) met ((l, r) :: w) = match dr A l, dr A r with
    | some l', some r' => if l' = r' then cmpF ar A n met w else match l', r' with
      | .str p, .str q => match A.heap[p]?, A.heap[q]? with
        | some (.fn f), some (.fn f') => if f = f' then
            (if (p, q) ∈ met then cmpF ar A n met w else match argsF ar A p, argsF ar A q with
              | some as, some bs => cmpF ar A n ((p, q) :: met) (as.zip bs ++ w)
              | _, _ => false)
          else false
        | _, _ => false
      | _, _ => false
    | _, _ => false := rfl
theorem varF_nil {found met : List Nat} : varF ar A (n + 1) found met [] = some found := rfl
theorem varF_cons {c : Cl} {found met : List Nat} {w : List Cl} : varF ar A (n + 1) found met (c :: w) = match dr A c with
    | some (.ref i) => if i ∈ found then varF ar A n found met w else varF ar A n (found ++ [i]) met w
    | some (.str p) => if p ∈ met then varF ar A n found met w else match argsF ar A p with
      | some as => varF ar A n found (p :: met) (as ++ w)
      | none => none
    | some (.con _) => varF ar A n found met w
    | _ => none := rfl
theorem grF_nil {met : List Nat} : grF ar A (n + 1) met [] = some true := rfl
theorem grF_cons {c : Cl} {met : List Nat} {w : List Cl} : grF ar A (n + 1) met (c :: w) = match dr A c with
    | some (.str p) => if p ∈ met then grF ar A n met w else match argsF ar A p with
      | some as => grF ar A n (p :: met) (as ++ w)
      | none => none
    | some (.con _) => grF ar A n met w
    | some (.ref _) => some false
    | _ => none := rfl
end
end
end Mine

end
section
open PySem PySem.W PyProof.Rows PySem.Calls
set_option Elab.async false
set_option maxRecDepth 100000
set_option linter.all false
namespace Mine
noncomputable section
set_option genInjectivity false in
structure Sy where
  texts : List Str
  an : List (Str × V)
  fs : List (Nat × Nat)
  fn : List ((Int × Int) × V)
set_option genInjectivity false in
structure SY where
  sy : Addr
  d : Addr
  tx : Addr
  an : Addr
  fs : Addr
  fn : Addr
noncomputable def yNs (Y : SY) : List (Str × V) := [(n_texts, .ref Y.tx), (n_atom_numbers, .ref Y.an), (n_functors, .ref Y.fs), (n_functor_numbers, .ref Y.fn)]
noncomputable def fV (p : Nat × Nat) : V := .tup [.int p.1, .int p.2]
structure SyA (M : Mm) (Y : SY) (y : Sy) : Prop where
  inst : M Y.sy = some (.inst 154 Y.d)
  ns : M Y.d = some (.ns (yNs Y))
  tx : M Y.tx = some (.list (y.texts.map .str))
  an : M Y.an = some (.sdic y.an)
  fs : M Y.fs = some (.list (y.fs.map fV))
  fn : M Y.fn = some (.tdic y.fn)
  ne : Y.tx ≠ Y.fs
noncomputable def arOf (y : Sy) (f : Nat) : Option Nat := (y.fs[f]?).map (·.2)
section
variable {C : Cx} {k : Nat} {M : Mm} {S : SA} {A : Ar} {Q : V → Mm → Prop} {Y : SY} {y : Sy}
theorem SyA.a_fs (h : SyA M Y y) {Q : V → Prop} : attrV M attrIn (.ref Y.sy) n_functors Q = Q (.ref Y.fs) := e_attr h.inst h.ns (by decide +kernel) rfl rfl
theorem SyA.meth (h : SyA M Y y) {x : Str} {f : Addr} {K : Mk → Prop} (hm : methIn 154 x = some f) (hx : lk x (yNs Y) = none) : recvV M methIn (.ref Y.sy) x K = K (.fn f) := e_recv h.inst h.ns hx hm
theorem SyA.keep {M' : Mm} (h : SyA M Y y) {L : List Addr} (kk : Keeps L M M') (n1 : Y.sy ∉ L) (n2 : Y.d ∉ L) (n3 : Y.tx ∉ L) (n4 : Y.an ∉ L) (n5 : Y.fs ∉ L) (n6 : Y.fn ∉ L) : SyA M' Y y :=
  ⟨kk _ _ h.inst n1, kk _ _ h.ns n2, kk _ _ h.tx n3, kk _ _ h.an n4, kk _ _ h.fs n5, kk _ _ h.fn n6, h.ne⟩
theorem c_arity {f n : Nat} (hY : SyA M Y y) (hf : arOf y f = some n) (hs : f < 1000) (h : Q (.int n) M) : CallP C (k + 1) (.ref 123) [.ref Y.sy, .int f] M Q := by
  refine f_arity ?_
  obtain ⟨p, hp, rfl⟩ := Option.map_eq_some_iff.mp hf
  rw [hY.a_fs, e_item hY.fs (X := fV p) (by simp [hp]) (by omega)]
  simpa [itemV, intV, fV] using h
theorem c_is_variable {c : Cl} (h : Q (.bool (isV c)) M) : CallP C (k + 1) (.ref 432) [cv c] M Q := by
  refine f_is_variable ?_
  simp only [e_item0, e_eqI, e_truth, e_br]
  cases c <;> simp [Cl.tag] <;> exact h
theorem c_is_compound {c : Cl} (h : Q (.bool (decide (c.tag = 2))) M) : CallP C (k + 1) (.ref 286) [.ref S.st, cv c] M Q := by
  refine f_is_compound ?_
  simp only [e_item0, e_eqI, e_truth, e_br]
  cases c <;> simp [Cl.tag] at h ⊢ <;> exact h
theorem c_same_shape {p q : Nat} {d e : Cl} (hS : StA M S A) (hm : Sm A) (hp : A.heap[p]? = some d) (he : A.heap[q]? = some e)
    (h : Q (.bool (decide (d = e))) M) : CallP C (k + 1) (.ref 425) [.ref S.st, cv (.str p), cv (.str q)] M Q := by
  refine f_same_shape ?_
  have h1 := hm.h
  have hp' := (List.getElem?_eq_some_iff.mp hp).1
  have hq' := (List.getElem?_eq_some_iff.mp he).1
  simp only [e_item0, e_neI, e_br, e_eqI, e_item1, hS.a_heap]
  refine ⟨fun z => by simp [Cl.tag] at z, fun _ => ⟨fun z => by simp [Cl.tag] at z, fun _ => ?_⟩⟩
  rw [show ((Cl.str p).num) = p from rfl, show ((Cl.str q).num) = q from rfl, e_item hS.heap (X := cv d) (by simp [hp]) (by omega), e_item hS.heap (X := cv e) (by simp [he]) (by omega), e_eq]
  exact h
theorem c_same_shape' {p : Nat} {c : Cl} (hc : c.tag ≠ 2) (h : Q (.bool false) M) : CallP C (k + 1) (.ref 425) [.ref S.st, cv (.str p), cv c] M Q := by
  refine f_same_shape ?_
  refine Eq.mpr e_item0 ?_
  refine Eq.mpr e_item0 ?_
  refine Eq.mpr e_neI ?_
  refine Eq.mpr e_br ⟨fun _ => h, fun z => ?_⟩
  have z : (!decide ((2 : Int) = c.tag)) = false := z
  have : (2 : Int) = c.tag := by simpa only [Bool.not_eq_false', decide_eq_true_eq] using z
  exact absurd this.symm hc
theorem c_base {p : Nat} (h : Q (.int ((p + 1 : Nat) : Int)) M) : CallP C (k + 1) (.ref 307) [.ref S.st, cv (.str p)] M Q := by
  refine f_base ?_
  simp only [e_item0, e_eqI, e_br, e_item1, e_add]
  refine ⟨fun z => by simp [Cl.tag] at z, fun _ => ?_⟩
  simpa [Cl.num] using h
theorem c_width {p f n : Nat} (hS : StA M S A) (hm : Sm A) (hY : SyA M Y y) (hsy : S.sy = Y.sy) (hp : A.heap[p]? = some (.fn f)) (hf : arOf y f = some n) (hs : f < 1000) (h : Q (.int n) M) : CallP C (k + 2) (.ref 300) [.ref S.st, cv (.str p)] M Q := by
  refine f_width ?_
  have h1 := hm.h
  have hp' := (List.getElem?_eq_some_iff.mp hp).1
  simp only [e_item0, e_eqI, e_br, e_item1, hS.a_sym, hS.a_heap, hsy, hY.meth (x := n_arity) (f := 123) (by decide +kernel) rfl]
  refine ⟨fun z => by simp [Cl.tag] at z, fun _ => ⟨fun _ => ?_, fun z => by simp [Cl.tag] at z⟩⟩
  rw [show ((Cl.str p).num) = p from rfl, e_item hS.heap (X := cv (.fn f)) (by simp [hp]) (by omega), e_item1, e_fn]
  exact c_arity hY hf hs h
theorem c_order0 {i : Int} (h : Q (.int 0) M) : CallP C (k + 1) (.ref 474) [.int i, .int i] M Q := by
  refine f_order ?_
  simp only [e_ltI, e_gtI, e_br]
  simpa using h
theorem c_rank3 {p : Nat} (h : Q (.int 3) M) : CallP C (k + 1) (.ref 467) [cv (.str p)] M Q := by
  refine f_rank ?_
  simp only [e_item0, e_eqI, e_br]
  simpa [Cl.tag] using h
theorem c_functor_of {p f : Nat} (hS : StA M S A) (hm : Sm A) (hp : A.heap[p]? = some (.fn f)) (h : Q (.int f) M) : CallP C (k + 1) (.ref 293) [.ref S.st, cv (.str p)] M Q := by
  refine f_functor_of ?_
  have h1 := hm.h
  have hp' := (List.getElem?_eq_some_iff.mp hp).1
  simp only [e_item0, e_eqI, e_br, e_item1, hS.a_heap]
  refine ⟨fun _ => ?_, fun z => by simp [Cl.tag] at z⟩
  rw [show ((Cl.str p).num) = p from rfl, e_item hS.heap (X := cv (.fn f)) (by simp [hp]) (by omega), e_item1]
  exact h
theorem c_shapes {p q f : Nat} (hS : StA M S A) (hm : Sm A) (hp : A.heap[p]? = some (.fn f)) (hq : A.heap[q]? = some (.fn f)) (h : Q (.int 0) M) : CallP C (k + 2) (.ref 481) [.ref S.st, cv (.str p), cv (.str q)] M Q := by
  refine f_compare_shapes ?_
  rw [hS.a_sym, hS.meth (x := n_functor_of) (f := 293) (by decide +kernel) rfl, e_fn]
  refine c_functor_of hS hm hp ?_
  rw [hS.meth (x := n_functor_of) (f := 293) (by decide +kernel) rfl, e_fn]
  refine c_functor_of hS hm hq ?_
  rw [e_eqI, e_br]
  exact ⟨fun _ => h, fun z => by simp at z⟩
theorem c_tops {p q f : Nat} (hS : StA M S A) (hm : Sm A) (hp : A.heap[p]? = some (.fn f)) (hq : A.heap[q]? = some (.fn f)) (h : Q (.int 0) M) : CallP C (k + 3) (.ref 488) [.ref S.st, cv (.str p), cv (.str q)] M Q := by
  refine f_compare_tops ?_
  rw [e_cf]; refine c_rank3 ?_
  rw [e_cf]; refine c_rank3 ?_
  rw [e_cf]; refine c_order0 ?_
  simp only [e_neI, e_eqI, e_br]
  refine ⟨fun z => by simp at z, fun _ => ⟨fun z => by simp at z, fun _ => ⟨fun z => by simp at z, fun _ => ⟨fun z => by simp at z, fun _ => ?_⟩⟩⟩⟩
  rw [e_cf]
  exact c_shapes hS hm hp hq h
theorem c_mark (hS : StA M S A) (hm : Sm A) (h : Q (.int A.trail.length) M) : CallP C (k + 1) (.ref 265) [.ref S.st] M Q := by
  refine f_mark ?_
  have h1 := hm.r
  rw [hS.a_trail, e_len hS.trail (by simp; omega)]
  simpa using h
theorem c_bind_pair {c d : Cl} (hS : StA M S A) (hm : Sm A) (hc : varAt A c) (hd : varAt A d) (ne : c ≠ d) (h : ∀ M', StA M' S (bindPairP A c d) → Keeps S.all M M' → Q .none M') : CallP C (k + 2) (.ref 251) [.ref S.st, cv c, cv d] M Q := by
  refine f_bind_pair ?_
  simp only [e_eq, e_br, e_item0, e_item1, e_eqI, e_ltI, hS.meth (x := n_bind) (f := 244) (by decide +kernel) rfl, e_fn]
  refine ⟨fun z => absurd (of_decide_eq_true z) ne, fun _ => ?_⟩
  cases c with
  | ref i =>
    cases d with
    | ref j =>
      refine ⟨fun _ => ⟨fun z => ?_, fun z => ?_⟩, fun z => by simp [Cl.tag] at z⟩
      · have z : i < j := by simpa [Cl.num] using z
        exact c_bind hS hm hd fun M' a b => h M' (by simpa [bindPairP, z] using a) b
      · have z : ¬ i < j := by simpa [Cl.num] using z
        exact c_bind hS hm hc fun M' a b => h M' (by simpa [bindPairP, z] using a) b
    | srf j =>
      refine ⟨fun z => by simp [Cl.tag] at z, fun _ => ⟨fun z => by simp [Cl.tag] at z, fun _ => ?_⟩⟩
      exact c_bind hS hm hd fun M' a b => h M' a b
    | _ => exact hd.elim
  | srf i =>
    cases d with
    | ref j =>
      refine ⟨fun z => by simp [Cl.tag] at z, fun _ => ⟨fun _ => ?_, fun z => by simp [Cl.tag] at z⟩⟩
      exact c_bind hS hm hc fun M' a b => h M' a b
    | srf j =>
      refine ⟨fun _ => ⟨fun z => ?_, fun z => ?_⟩, fun z => by simp [Cl.tag] at z⟩
      · have z : i < j := by simpa [Cl.num] using z
        exact c_bind hS hm hd fun M' a b => h M' (by simpa [bindPairP, z] using a) b
      · have z : ¬ i < j := by simpa [Cl.num] using z
        exact c_bind hS hm hc fun M' a b => h M' (by simpa [bindPairP, z] using a) b
    | _ => exact hd.elim
  | _ => exact hc.elim
end
end
end Mine

end
section
open PySem PySem.W PyProof.Rows PySem.Calls
set_option Elab.async false
set_option maxRecDepth 100000
set_option linter.all false
namespace Mine
noncomputable section
noncomputable def SA.five (S : SA) : List Addr := [S.st, S.d, S.h, S.t, S.r]
noncomputable def SY.six (Y : SY) : List Addr := [Y.sy, Y.d, Y.tx, Y.an, Y.fs, Y.fn]
-- store and symbols as one
structure G (M : Mm) (S : SA) (A : Ar) (Y : SY) (y : Sy) : Prop where
  s : StA M S A
  ya : SyA M Y y
  sy : S.sy = Y.sy
  m : Sm A
  n : y.fs.length < 1000
  dis : ∀ a ∈ S.all, a ∉ Y.six
section
variable {C : Cx} {k : Nat} {M M' : Mm} {S : SA} {A : Ar} {Q : V → Mm → Prop} {Y : SY} {y : Sy}
theorem StA.keep (h : StA M S A) {L : List Addr} (kk : Keeps L M M') (n : ∀ a ∈ S.five, a ∉ L) : StA M' S A := by
  simp only [SA.five, List.mem_cons, List.not_mem_nil, or_false, forall_eq_or_imp, forall_eq] at n
  obtain ⟨n1, n2, n3, n4, n5⟩ := n
  exact ⟨kk _ _ h.inst n1, kk _ _ h.ns n2, kk _ _ h.heap n3, kk _ _ h.stack n4, kk _ _ h.trail n5, h.ht, h.hr, h.tr⟩
theorem SyA.keep' (h : SyA M Y y) {L : List Addr} (kk : Keeps L M M') (n : ∀ a ∈ Y.six, a ∉ L) : SyA M' Y y := by
  simp only [SY.six, List.mem_cons, List.not_mem_nil, or_false, forall_eq_or_imp, forall_eq] at n
  obtain ⟨n1, n2, n3, n4, n5, n6⟩ := n
  exact h.keep kk n1 n2 n3 n4 n5 n6
noncomputable def Out (S : SA) (Y : SY) (a : Addr) : Prop := a ∉ S.five ∧ a ∉ Y.six
theorem G.keep (g : G M S A Y y) {L : List Addr} (kk : Keeps L M M') (n : ∀ a ∈ L, Out S Y a) : G M' S A Y y :=
  ⟨g.s.keep kk fun a ha hl => (n a hl).1 ha, g.ya.keep' kk fun a ha hl => (n a hl).2 ha, g.sy, g.m, g.n, g.dis⟩
theorem G.keep0 (g : G M S A Y y) (kk : Keeps [] M M') : G M' S A Y y := g.keep kk (by simp)
theorem G.out (g : G M S A Y y) {a : Addr} (h : M a = none) : Out S Y a := by
  refine ⟨fun hm => ?_, fun hm => ?_⟩
  · simp only [SA.five, List.mem_cons, List.not_mem_nil, or_false] at hm
    rcases hm with rfl | rfl | rfl | rfl | rfl <;> simp [g.s.inst, g.s.ns, g.s.heap, g.s.stack, g.s.trail] at h
  · simp only [SY.six, List.mem_cons, List.not_mem_nil, or_false] at hm
    rcases hm with rfl | rfl | rfl | rfl | rfl | rfl <;> simp [g.ya.inst, g.ya.ns, g.ya.tx, g.ya.an, g.ya.fs, g.ya.fn] at h
theorem G.step (g : G M S A Y y) {A' : Ar} (h : StA M' S A') (kk : Keeps S.all M M') (m : Sm A') : G M' S A' Y y :=
  ⟨h, g.ya.keep' kk fun a ha hl => g.dis a hl ha, g.sy, m, g.n, g.dis⟩
theorem args_inv {p : Nat} {as : List Cl} (h : argsF (arOf y) A p = some as) : ∃ f n, A.heap[p]? = some (.fn f) ∧ arOf y f = some n ∧ p + 1 + n ≤ A.heap.length ∧ n ≤ 2 ∧ as = (A.heap.drop (p + 1)).take n ∧ as.length = n := by
  rw [argsF_def] at h
  split at h
  · rename_i f hf
    split at h
    · rename_i n hn
      split at h
      · rename_i hc
        cases h
        exact ⟨f, n, hf, hn, hc.1, hc.2, rfl, by simp; omega⟩
      · cases h
    · cases h
  · cases h
theorem ar_small (g : G M S A Y y) {f n : Nat} (h : arOf y f = some n) : f < 1000 := by
  obtain ⟨p, hp, _⟩ := Option.map_eq_some_iff.mp h
  have := (List.getElem?_eq_some_iff.mp hp).1
  have := g.n
  omega
theorem e_rng {m : Int} {K : Int → Int → Nat → Prop} (h1 : -1000 < m) (h2 : m < 1000) : rngV [.int m, .int (-(1:Int)), .int (-(1:Int))] K = K m (-1) (m + 1).toNat := by
  apply propext
  show (-(1:Int) = -1 ∧ -(1:Int) = -1 ∧ -1000 < m ∧ m < 1000 ∧ K m (-1) (m + 1).toNat) ↔ _
  exact ⟨fun h => h.2.2.2.2, fun h => ⟨rfl, rfl, h1, h2, h⟩⟩
theorem c_push_arguments {p : Nat} {as : List Cl} {w : Addr} {ws : List V} (g : G M S A Y y) (ha : argsF (arOf y) A p = some as) (hw : M w = some (.list ws)) (ho : Out S Y w) (hl : ws.length < 900000)
    (h : ∀ M', M' w = some (.list (ws ++ as.reverse.map cv)) → Keeps [w] M M' → Q .none M') : CallP C (k + 3) (.ref 411) [.ref S.st, cv (.str p), .ref w] M Q := by
  obtain ⟨f, n, hp, hn, hb, hn2, has, hlen⟩ := args_inv ha
  have h1 := g.m.h
  refine f_push_arguments (fun i vals M' => vals = [.ref S.st, .ref w, .int ((p + 1 : Nat) : Int)] ∧ M' w = some (.list (ws ++ (as.reverse.take i).map cv)) ∧ Keeps [w] M M') ?_
  rw [g.s.meth (x := n_base) (f := 307) (by decide +kernel) rfl, e_fn]
  refine c_base ?_
  rw [g.s.meth (x := n_width) (f := 300) (by decide +kernel) rfl, e_fn]
  refine c_width g.s g.m g.ya g.sy hp hn (ar_small g hn) ?_
  rw [e_sub, e_neg, e_neg, e_rng (by omega) (by omega)]
  refine ⟨⟨rfl, by simpa using hw, Keeps.refl _ _⟩, ?_, ?_⟩
  · rintro i v v1 v2 M' hi ⟨e, hw', kk⟩
    simp only [List.cons.injEq, and_true] at e
    obtain ⟨rfl, rfl, rfl⟩ := e
    have g' := g.keep kk (by simpa using ho)
    have hi' : i < n := by omega
    have hidx : ((p + 1 : Nat) : Int) + ((n : Int) - 1 + (i : Int) * -1) = ((p + 1 + (n - 1 - i) : Nat) : Int) := by omega
    have hel : A.heap[p + 1 + (n - 1 - i)]? = as[n - 1 - i]? := by
      rw [has, List.getElem?_take_of_lt (by omega), List.getElem?_drop]
    have ha' : as[n - 1 - i]? = some (as[n - 1 - i]'(by omega)) := List.getElem?_eq_getElem (by omega)
    rw [e_rapp hw', g'.s.a_heap, e_add, hidx, e_item g'.s.heap (X := cv (as[n - 1 - i]'(by omega))) (by simp [hel, ha']) (by omega),
      e_append hw' (by simp; omega)]
    refine ⟨rfl, ?_, kk.trans (Keeps.upd (by simp))⟩
    rw [upd_same, List.append_assoc, List.take_succ_eq_append_getElem (l := as.reverse) (i := i) (by simp [hlen]; omega)]
    simp [hlen]
  · rintro v v1 v2 M' ⟨e, hw', kk⟩
    refine h M' ?_ kk
    rw [hw', List.take_of_length_le (by simp [hlen])]
theorem c_push_pairs {p q : Nat} {as bs : List Cl} {w : Addr} {ws : List V} (g : G M S A Y y) (ha : argsF (arOf y) A p = some as) (hbq : argsF (arOf y) A q = some bs) (he : A.heap[p]? = A.heap[q]?) (hw : M w = some (.list ws)) (ho : Out S Y w) (hl : ws.length < 900000)
    (h : ∀ M', M' w = some (.list (ws ++ (as.zip bs).reverse.map fun x => .tup [cv x.1, cv x.2])) → Keeps [w] M M' → Q .none M') : CallP C (k + 3) (.ref 418) [.ref S.st, cv (.str p), cv (.str q), .ref w] M Q := by
  obtain ⟨f, n, hp, hn, hb, hn2, has, hlen⟩ := args_inv ha
  obtain ⟨f', n', hp', hn', hb', hn2', hbs, hlen'⟩ := args_inv hbq
  have ff : f' = f := by rw [hp, hp'] at he; simpa using he.symm
  subst ff
  have nn : n' = n := by rw [hn] at hn'; simpa using hn'.symm
  subst nn
  have h1 := g.m.h
  have hz : (as.zip bs).length = n' := by simp [hlen, hlen']
  refine f_push_pairs (fun i vals M' => vals = [.ref S.st, .ref w, .int ((p + 1 : Nat) : Int), .int ((q + 1 : Nat) : Int)] ∧ M' w = some (.list (ws ++ ((as.zip bs).reverse.take i).map fun x => .tup [cv x.1, cv x.2])) ∧ Keeps [w] M M') ?_
  rw [g.s.meth (x := n_base) (f := 307) (by decide +kernel) rfl, e_fn]
  refine c_base ?_
  rw [g.s.meth (x := n_base) (f := 307) (by decide +kernel) rfl, e_fn]
  refine c_base ?_
  rw [g.s.meth (x := n_width) (f := 300) (by decide +kernel) rfl, e_fn]
  refine c_width g.s g.m g.ya g.sy hp hn (ar_small g hn) ?_
  rw [e_sub, e_neg, e_neg, e_rng (by omega) (by omega)]
  refine ⟨⟨rfl, by simpa using hw, Keeps.refl _ _⟩, ?_, ?_⟩
  · rintro i v v1 v2 v3 M' hi ⟨e, hw', kk⟩
    simp only [List.cons.injEq, and_true] at e
    obtain ⟨rfl, rfl, rfl, rfl⟩ := e
    have g' := g.keep kk (by simpa using ho)
    have hi' : i < n' := by omega
    have hidx : ∀ p : Nat, ((p + 1 : Nat) : Int) + ((n' : Int) - 1 + (i : Int) * -1) = ((p + 1 + (n' - 1 - i) : Nat) : Int) := fun p => by omega
    have hel : ∀ {p : Nat} {as : List Cl}, as = (A.heap.drop (p + 1)).take n' → p + 1 + n' ≤ A.heap.length → A.heap[p + 1 + (n' - 1 - i)]? = as[n' - 1 - i]? := fun {p as} has hb => by
      rw [has, List.getElem?_take_of_lt (by omega), List.getElem?_drop]
    have ha' : as[n' - 1 - i]? = some (as[n' - 1 - i]'(by omega)) := List.getElem?_eq_getElem (by omega)
    have hb'' : bs[n' - 1 - i]? = some (bs[n' - 1 - i]'(by omega)) := List.getElem?_eq_getElem (by omega)
    rw [e_rapp hw', g'.s.a_heap, e_add, hidx, e_item g'.s.heap (X := cv (as[n' - 1 - i]'(by omega))) (by simp [hel has hb, ha']) (by omega), g'.s.a_heap, e_add, hidx,
      e_item g'.s.heap (X := cv (bs[n' - 1 - i]'(by omega))) (by simp [hel hbs hb', hb'']) (by omega), e_append hw' (by simp; omega)]
    refine ⟨rfl, ?_, kk.trans (Keeps.upd (by simp))⟩
    rw [upd_same, List.append_assoc, List.take_succ_eq_append_getElem (l := (as.zip bs).reverse) (i := i) (by simp [hlen, hlen']; omega)]
    simp [hlen, hlen']
  · rintro v v1 v2 v3 M' ⟨e, hw', kk⟩
    refine h M' ?_ kk
    rw [hw', List.take_of_length_le (by simp [hlen, hlen'])]
end
end
end Mine

end
section
open PySem PySem.W PyProof.Rows PySem.Calls
set_option Elab.async false
set_option maxRecDepth 100000
set_option linter.all false
namespace Mine
noncomputable section
-- a set of met places, as the program keeps it
noncomputable def setN : List Nat → Int → Bool
  | [] => fun _ => false
  | p :: met => fun j => setN met j || decide (j = (p : Int))
theorem setN_mem {p : Nat} : ∀ {met : List Nat}, setN met (p : Int) = decide (p ∈ met)
  | [] => by simp [setN]
  | q :: met => by
    show (setN met (p : Int) || decide ((p : Int) = (q : Int))) = _
    have e : decide ((p : Int) = (q : Int)) = decide (p = q) := by simp only [nc]
    rw [setN_mem, e]
    by_cases h : p = q <;> simp [h, Bool.or_comm]
-- what is unmet of n places
noncomputable def unm (N : Nat) (met : List Nat) : Nat := ((List.range N).filter fun p => !met.contains p).length
theorem filter_lt {α : Type} {f g : α → Bool} (hfg : ∀ x, f x = true → g x = true) : ∀ {l : List α} {a : α}, a ∈ l → g a = true → f a = false → (l.filter f).length < (l.filter g).length
  | x :: l, a, hm, hg, hf => by
    have le : ∀ l : List α, (l.filter f).length ≤ (l.filter g).length := fun l => by
      induction l with
      | nil => simp
      | cons y t ih =>
        simp only [List.filter_cons]
        cases hy : f y with
        | true => simp [hfg y hy, ih]
        | false => cases g y <;> simp <;> omega
    simp only [List.filter_cons]
    rcases List.mem_cons.mp hm with rfl | hm
    · rw [hf, hg]; simp; have := le l; omega
    · have := filter_lt hfg hm hg hf
      cases hy : f x with
      | true => simp [hfg x hy]; omega
      | false => cases g x <;> simp <;> omega
theorem unm_cons {N p : Nat} {met : List Nat} (hp : p < N) (hn : p ∉ met) : unm N (p :: met) < unm N met := by
  unfold unm
  refine filter_lt (fun x hx => ?_) (List.mem_range.mpr hp) (by simpa using hn) (by simp)
  simp only [List.contains_cons, Bool.not_eq_true', Bool.or_eq_false_iff] at hx
  simpa using hx.2
theorem unm_le {N : Nat} {met : List Nat} : unm N met ≤ N := by
  unfold unm
  exact Nat.le_trans (List.length_filter_le _ _) (by simp)
section
variable {C : Cx} {k : Nat} {M M' : Mm} {S : SA} {A : Ar} {Q : V → Mm → Prop} {Y : SY} {y : Sy}
theorem e_set0 {Q : V → Mm → Prop} : callV C k (.ty "set") [] M Q = ∀ b, M b = none → Q (.ref b) (upd M b (.set (fun _ => false) 0)) := by
  have e1 : ("set" == "list") = false := by decide
  have e2 : ("set" == "tuple") = false := by decide
  show tyV ("set" == "list") ("set" == "tuple") "set" [] M Q = _
  rw [e1, e2]
  exact propext ⟨fun z => z.2, fun z => ⟨rfl, z⟩⟩
theorem e_inS {T : Int → Bool} {n : Nat} {a : Addr} {i : Int} {Q : Bool → Prop} (h : M a = some (.set T n)) : cmpV M .In (.int i) (.ref a) Q = Q (T i) := by
  apply propext
  show (∃ o, M a = some o ∧ _) ↔ _
  rw [h]
  exact ⟨fun ⟨o, e, q⟩ => by cases e; exact q, fun q => ⟨_, rfl, q⟩⟩
theorem e_ninS {T : Int → Bool} {n : Nat} {a : Addr} {i : Int} {Q : Bool → Prop} (h : M a = some (.set T n)) : cmpV M .NotIn (.int i) (.ref a) Q = Q (!T i) := by
  apply propext
  show (∃ o, M a = some o ∧ _) ↔ _
  rw [h]
  exact ⟨fun ⟨o, e, q⟩ => by cases e; exact q, fun q => ⟨_, rfl, q⟩⟩
theorem e_radd {T : Int → Bool} {n : Nat} {a : Addr} {K : Mk → Prop} (h : M a = some (.set T n)) : recvV M methIn (.ref a) n_add K = K .add := by
  apply propext
  show (∃ o, M a = some o ∧ _) ↔ _
  rw [h]
  exact ⟨fun ⟨o, e, q⟩ => by cases e; exact q.2, fun q => ⟨_, rfl, by decide +kernel, q⟩⟩
theorem e_add1 {T : Int → Bool} {n : Nat} {a : Addr} {i : Int} {Q : V → Mm → Prop} (h : M a = some (.set T n)) (hn : n + 1 < 4096) (hT : T i = false) : mcallV C k .add (.ref a) [.int i] M Q = Q .none (upd M a (.set (fun j => T j || decide (j = i)) (n + 1))) := by
  apply propext
  show (∃ T n, M a = some (.set T n) ∧ n + 1 < 4096 ∧ _) ↔ _
  constructor
  · rintro ⟨T', n', e, _, q⟩
    rw [h] at e; cases e
    rw [hT] at q; exact q
  · intro q; exact ⟨T, n, h, hn, by rw [hT]; exact q⟩
theorem G.m_deref (g : G M S A Y y) {K : Mk → Prop} : recvV M methIn (.ref S.st) n_deref K = K (.fn 230) := g.s.meth (by decide +kernel) rfl
theorem G.m_isc (g : G M S A Y y) {K : Mk → Prop} : recvV M methIn (.ref S.st) n_is_compound K = K (.fn 286) := g.s.meth (by decide +kernel) rfl
theorem none_of {kk : Keeps [] M M'} {a : Addr} (h : M' a = none) : M a = none := by
  cases e : M a with
  | none => rfl
  | some z => rw [kk a z e (by simp)] at h; cases h
-- the state at the head of a loop over cells
structure DL (M : Mm) (S : SA) (Y : SY) (y : Sy) (s w : Addr) (M' : Mm) (A : Ar) (met : List Nat) (wk : List Cl) : Prop where
  g : G M' S A Y y
  ss : M' s = some (.set (setN met) met.length)
  ws : M' w = some (.list (wk.reverse.map cv))
  kk : Keeps [] M M'
  ns : M s = none
  nw : M w = none
  sw : s ≠ w
  N60 : A.heap.length ≤ 60
  mu : wk.length + 3 * unm 60 met ≤ 200
  mm : met.length + unm 60 met ≤ 60
theorem DL.pop {s w : Addr} {met : List Nat} {wk : List Cl} {c : Cl} (L : DL M S Y y s w M' A met (c :: wk)) (g0 : G M S A Y y) : DL M S Y y s w (upd M' w (.list (wk.reverse.map cv))) A met wk := by
  have hmu := L.mu
  simp only [List.length_cons] at hmu
  have kk : Keeps [] M (upd M' w (.list (wk.reverse.map cv))) := fun a z e n => by
    rw [upd_ne _ _ (by rintro rfl; rw [L.nw] at e; cases e)]; exact L.kk a z e n
  exact ⟨g0.keep0 kk, by rw [upd_ne _ _ L.sw]; exact L.ss, upd_same .., kk, L.ns, L.nw, L.sw, L.N60, by omega, L.mm⟩
theorem DL.note {s w : Addr} {met : List Nat} {wk as : List Cl} {p : Nat} {M2 : Mm} (L : DL M S Y y s w M' A met wk) (hmu : wk.length + 1 + 3 * unm 60 met ≤ 200) (g0 : G M S A Y y) (hn : p ∉ met) (hp : p < A.heap.length) (hl : as.length ≤ 2)
    (hw : M2 w = some (.list ((as ++ wk).reverse.map cv))) (k2 : Keeps [w] (upd M' s (.set (setN (p :: met)) (p :: met).length)) M2) : DL M S Y y s w M2 A (p :: met) (as ++ wk) := by
  have hmm := L.mm
  have hN := L.N60
  have hp60 : p < 60 := by omega
  have := unm_cons hp60 hn
  have kk : Keeps [] M M2 := fun a z e n => by
    refine k2 a z ?_ (by simp; rintro rfl; rw [L.nw] at e; cases e)
    rw [upd_ne _ _ (by rintro rfl; rw [L.ns] at e; cases e)]; exact L.kk a z e n
  exact ⟨g0.keep0 kk, k2 _ _ (upd_same ..) (by simpa using L.sw), hw, kk, L.ns, L.nw, L.sw, L.N60, by simp only [List.length_append]; omega, by simp only [List.length_cons]; omega⟩
-- other new places may change
theorem DL.other {s w : Addr} {met : List Nat} {wk : List Cl} {M2 : Mm} {K : List Addr} (L : DL M S Y y s w M' A met wk) (g0 : G M S A Y y) (k2 : Keeps K M' M2) (hK : ∀ a ∈ K, M a = none ∧ a ≠ s ∧ a ≠ w) : DL M S Y y s w M2 A met wk := by
  have kk : Keeps [] M M2 := fun a z e n => k2 a z (L.kk a z e n) fun ha => by rw [(hK a ha).1] at e; cases e
  exact ⟨g0.keep0 kk, k2 _ _ L.ss fun ha => (hK _ ha).2.1 rfl, k2 _ _ L.ws fun ha => (hK _ ha).2.2 rfl, kk, L.ns, L.nw, L.sw, L.N60, L.mu, L.mm⟩
theorem DL.start {s w : Addr} {c : Cl} {M1 : Mm} (g0 : G M S A Y y) (hN : A.heap.length ≤ 60) (kk : Keeps [] M M1) (hs : M s = none) (hw1 : M1 w = none) (hs1 : M1 s = some (.set (fun _ => false) 0)) : DL M S Y y s w (upd M1 w (.list [cv c])) A [] [c] := by
  have hw := none_of (kk := kk) hw1
  have sw : s ≠ w := by rintro rfl; rw [hs1] at hw1; cases hw1
  have k2 : Keeps [] M (upd M1 w (.list [cv c])) := kk.trans (Keeps.new hw1)
  have := @unm_le 60 []
  exact ⟨g0.keep0 k2, by rw [upd_ne _ _ sw]; exact hs1, upd_same .., k2, hs, hw, sw, hN, by simp; omega, by simpa using this⟩
-- a block is met: noted and its arguments pushed
theorem DL.visit {s w : Addr} {met : List Nat} {wk as : List Cl} {p : Nat} {R : V → Mm → Prop} (L : DL M S Y y s w M' A met wk) (hmu : wk.length + 1 + 3 * unm 60 met ≤ 200) (g0 : G M S A Y y) (hn : p ∉ met) (ha : argsF (arOf y) A p = some as)
    (h : ∀ M2, DL M S Y y s w M2 A (p :: met) (as ++ wk) → Keeps [s, w] M' M2 → R .none M2) :
    mcallV C (k + 3) .add (.ref s) [.int (p : Nat)] M' fun _ M1 => CallP C (k + 3) (.ref 411) [.ref S.st, cv (.str p), .ref w] M1 R := by
  obtain ⟨f, n, hp, hn', hb, hn2, has, hlen⟩ := args_inv ha
  have hmm := L.mm
  refine Eq.mpr (e_add1 L.ss (by omega) (by rw [setN_mem]; simpa using hn)) ?_
  have k1 : Keeps [] M (upd M' s (.set (fun j => setN met j || decide (j = (p : Int))) (met.length + 1))) := fun a x e n => by
    rw [upd_ne _ _ (by rintro rfl; rw [L.ns] at e; cases e)]; exact L.kk a x e n
  refine c_push_arguments (g0.keep0 k1) ha (ws := wk.reverse.map cv) (by rw [upd_ne _ _ L.sw.symm]; exact L.ws) (g0.out L.nw) (by simp; omega) fun M2 hw k2 => ?_
  refine h M2 (L.note hmu g0 hn (by omega) (by omega) (by rw [hw]; simp) k2) fun a z e n => ?_
  simp only [List.mem_cons, List.not_mem_nil, or_false, not_or] at n
  exact k2 a z (by rw [upd_ne _ _ n.1]; exact e) (by simpa using n.2)
noncomputable def WOcc (M : Mm) (S : SA) (Y : SY) (y : Sy) (A : Ar) (v : Cl) (b : Bool) (i : Nat) (vals : List V) (M' : Mm) : Prop :=
  ∃ s w met wk, vals = [.ref S.st, cv v, .ref s, .ref w] ∧ DL M S Y y s w M' A met wk ∧ occF (arOf y) A v i met wk = some b
-- the loop of occurs_in
theorem c_occurs_in {v c : Cl} {b : Bool} (g : G M S A Y y) (hN : A.heap.length ≤ 60) (ho : occI (arOf y) A v c = some b) (hv : isV v = true) (h : ∀ M', Keeps [] M M' → Q (.bool b) M') : CallP C (k + 4) (.ref 460) [.ref S.st, cv v, cv c] M Q := by
  unfold occI at ho
  cases hd : dr A c with
  | none => rw [hd] at ho; cases ho
  | some d =>
  rw [hd] at ho
  have ho : (if d = v then some true else occ2 (arOf y) A v d) = some b := ho
  refine f_occurs_in (WOcc M S Y y A v b) ?_
  refine Eq.mpr g.m_deref ?_
  refine c_deref g.s g.m (derF_der hd) ?_
  refine Eq.mpr e_eq ?_
  refine Eq.mpr e_br ⟨fun z1 => ?_, fun z1 => ?_⟩
  · rw [if_pos (of_decide_eq_true z1)] at ho
    cases ho; exact h M (Keeps.refl _ _)
  rw [if_neg (of_decide_eq_false z1)] at ho
  clear z1
  refine Eq.mpr e_item0 ?_
  refine Eq.mpr e_eqI ?_
  refine Eq.mpr e_br ⟨fun z2 => ?_, fun z2 => ?_⟩
  · have : b = false := by cases v <;> simp [Cl.tag] at z2; exact (Option.some.inj ho).symm
    subst this
    exact h M (Keeps.refl _ _)
  refine Eq.mpr g.m_isc ?_
  refine c_is_compound ?_
  refine Eq.mpr e_truth ?_
  refine Eq.mpr e_br ⟨fun z3 => ?_, fun z3 => ?_⟩
  · have : b = false := by cases v <;> cases d <;> simp [Cl.tag] at z3 <;> exact (Option.some.inj ho).symm
    subst this
    exact h M (Keeps.refl _ _)
  obtain ⟨p, rfl⟩ : ∃ p, d = .str p := by cases d <;> simp [Cl.tag] at z3; exact ⟨_, rfl⟩
  obtain ⟨q, rfl⟩ : ∃ q, v = .ref q := by
    cases v <;> first | exact ⟨_, rfl⟩ | (cases hv; done) | (simp [Cl.tag] at z2)
  have ho : occF (arOf y) A (.ref q) 1000 [] [.str p] = some b := ho
  clear z2 z3 hv hd
  refine Eq.mpr e_set0 fun s hs w hw => ?_
  refine ⟨⟨1000, s, w, [], [.str p], rfl, DL.start g hN (Keeps.new hs) hs hw (upd_same ..), ho⟩, ?_⟩
  clear hs hw ho
  rintro i v0 v1 v2 v3 M' ⟨s, w, met, wk, e, L, hF⟩
  simp only [List.cons.injEq, and_true] at e
  obtain ⟨rfl, rfl, rfl, rfl⟩ := e
  have mu := L.mu
  refine Eq.mpr (e_len L.ws (by simp; omega)) ?_
  refine Eq.mpr e_gtI ?_
  cases i with
  | zero => cases hF
  | succ i =>
  cases wk with
  | nil =>
    refine Eq.mpr e_br ⟨fun z => by simp at z, fun _ => ?_⟩
    cases Option.some.inj (show some false = some b from hF)
    exact h M' L.kk
  | cons c wk =>
  refine Eq.mpr e_br ⟨fun _ => ?_, fun z => by simp at z⟩
  have hW : M' w = some (.list (wk.reverse.map cv ++ [cv c])) := by rw [L.ws]; simp
  simp only [List.length_cons] at mu
  refine Eq.mpr L.g.m_deref ?_
  refine Eq.mpr (e_rpop hW) ?_
  refine Eq.mpr (e_pop hW (by simp; omega)) ?_
  have L1 := L.pop g
  revert L1
  generalize upd M' w (.list (wk.reverse.map cv)) = M1
  intro L1
  clear L hW
  rw [occF_cons] at hF
  cases hd : dr A c with
  | none => rw [hd] at hF; cases hF
  | some d =>
  simp only [hd] at hF
  refine c_deref L1.g.s L1.g.m (derF_der hd) ?_
  have next : occF (arOf y) A (.ref q) i met wk = some b → ∃ m, m < i + 1 ∧ WOcc M S Y y A (.ref q) b m [.ref S.st, cv (.ref q), .ref s, .ref w] M1 := fun hF => ⟨i, Nat.lt_succ_self _, s, w, met, wk, rfl, L1, hF⟩
  refine Eq.mpr e_eq ?_
  refine Eq.mpr e_br ⟨fun z => ?_, fun z => ?_⟩
  · rw [if_pos (of_decide_eq_true z)] at hF
    cases hF; exact h M1 L1.kk
  rw [if_neg (of_decide_eq_false z)] at hF
  refine Eq.mpr L1.g.m_isc ?_
  refine c_is_compound ?_
  refine Eq.mpr e_truth ?_
  refine Eq.mpr e_br ⟨fun z => ?_, fun z => ?_⟩
  · obtain ⟨p, rfl⟩ : ∃ p, d = .str p := by cases d <;> simp [Cl.tag] at z; exact ⟨_, rfl⟩
    refine Eq.mpr e_item1 ?_
    refine Eq.mpr (e_ninS L1.ss) ?_
    refine Eq.mpr e_br ⟨fun z => ?_, fun z => ?_⟩
    · have hn : p ∉ met := by rw [show (Cl.str p).num = p from rfl, setN_mem] at z; simpa using z
      simp only at hF
      rw [if_neg hn] at hF
      cases ha : argsF (arOf y) A p with
      | none => rw [ha] at hF; cases hF
      | some as =>
      rw [ha] at hF
      refine Eq.mpr (e_radd L1.ss) ?_
      refine Eq.mpr e_item1 ?_
      exact L1.visit mu g hn ha fun M2 L2 _ => ⟨i, Nat.lt_succ_self _, s, w, _, _, rfl, L2, hF⟩
    · have hn : p ∈ met := by rw [show (Cl.str p).num = p from rfl, setN_mem] at z; simpa using z
      exact next ((if_pos hn).symm.trans hF)
  · refine next ?_
    cases d <;> first | exact hF | (simp [Cl.tag] at z)
theorem c_bind_checked {v c : Cl} {b : Bool} (g : G M S A Y y) (hN : A.heap.length ≤ 60) (ho : occI (arOf y) A v c = some b) (hv : isV v = true) (hva : varAt A v)
    (h : ∀ M' A', StA M' S A' → Keeps S.all M M' → A' = (if b then A else bindP A v c) → Q (.bool (!b)) M') : CallP C (k + 5) (.ref 446) [.ref S.st, cv v, cv c, .bool true] M Q := by
  refine f_bind_checked ?_
  rw [e_truth, e_br]
  refine ⟨fun _ => ?_, fun z => by cases z⟩
  rw [e_cf]
  refine c_occurs_in g hN ho hv fun M1 kk => ?_
  rw [e_truth, e_br]
  have g1 := g.keep0 kk
  have kk' : Keeps S.all M M1 := kk.mono (by simp)
  refine ⟨fun z => ?_, fun z => ?_⟩
  · subst z; exact h M1 A g1.s kk' (by simp)
  · subst z
    rw [g1.s.meth (x := n_bind) (f := 244) (by decide +kernel) rfl, e_fn]
    exact (c_bind g1.s g1.m hva fun M2 a b => h M2 _ a (kk'.trans b) (by simp))
end
end
end Mine

end
section
open PySem PySem.W PyProof.Rows PySem.Calls
set_option Elab.async false
set_option maxRecDepth 100000
set_option linter.all false
namespace Mine
noncomputable section
set_option genInjectivity false in
structure PA where
  ps : Addr
  d : Addr
  m : Addr
noncomputable def setP (sp : Nat) : List (Nat × Nat) → Int → Bool
  | [] => fun _ => false
  | x :: met => fun j => setP sp met j || decide (j = (x.1 : Int) * (sp : Int) + (x.2 : Int))
theorem pair_num {sp p q p' q' : Nat} (h : q < sp) (h' : q' < sp) : ((p : Int) * (sp : Int) + (q : Int) = (p' : Int) * (sp : Int) + (q' : Int)) = ((p, q) = (p', q')) := by
  apply propext
  constructor
  · intro e
    have e : p * sp + q = p' * sp + q' := by exact_mod_cast e
    have hp : p = p' := by
      rcases Nat.lt_trichotomy p p' with z | z | z
      · have := Nat.mul_le_mul_right sp (Nat.succ_le_of_lt z); rw [Nat.succ_mul] at this; omega
      · exact z
      · have := Nat.mul_le_mul_right sp (Nat.succ_le_of_lt z); rw [Nat.succ_mul] at this; omega
    subst hp
    have : q = q' := by omega
    rw [this]
  · intro e; cases e; rfl
theorem setP_mem {sp p q : Nat} (hq : q < sp) : ∀ {met : List (Nat × Nat)}, (∀ x ∈ met, x.2 < sp) → setP sp met ((p : Int) * (sp : Int) + (q : Int)) = decide ((p, q) ∈ met)
  | [], _ => by simp [setP]
  | x :: met, h => by
    have e : decide ((p : Int) * (sp : Int) + (q : Int) = (x.1 : Int) * (sp : Int) + (x.2 : Int)) = decide ((p, q) = x) := by
      have := pair_num (p := p) (p' := x.1) hq (h x (.head _))
      simp only [this]
    show (setP sp met _ || decide _) = _
    rw [e, setP_mem hq fun y hy => h y (.tail _ hy)]
    by_cases z : (p, q) = x <;> simp [z, Bool.or_comm]
structure PsA (M : Mm) (P : PA) (sp : Nat) (met : List (Nat × Nat)) : Prop where
  inst : M P.ps = some (.inst 400 P.d)
  ns : M P.d = some (.ns [(n_span, .int sp), (n_met, .ref P.m)])
  set : M P.m = some (.set (setP sp met) met.length)
section
variable {C : Cx} {k : Nat} {M M' : Mm} {S : SA} {A : Ar} {Q : V → Mm → Prop} {Y : SY} {y : Sy}
theorem c_PS_new (g : G M S A Y y) (h : ∀ P M', M P.ps = none → M P.d = none → M P.m = none → PsA M' P (A.heap.length + 1) [] → Keeps [] M M' → Q (.ref P.ps) M') : CallP C (k + 2) (.ref 400) [.ref S.st] M Q := by
  refine call_class (fI := 390) (by kernel_rfl) (by kernel_rfl) (by kernel_rfl) fun x d hx hd ne => ?_
  have k0 : Keeps [] M (upd (upd M d (.ns [])) x (.inst 400 d)) := (Keeps.new hd).trans (Keeps.new (by rw [upd_ne _ _ ne]; exact hx))
  have hx0 : upd (upd M d (.ns [])) x (.inst 400 d) x = some (.inst 400 d) := upd_same ..
  have hd0 : upd (upd M d (.ns [])) x (.inst 400 d) d = some (.ns []) := by rw [upd_ne _ _ ne.symm, upd_same]
  have keep : ∀ b, M b = none → b ≠ x → b ≠ d → upd (upd M d (.ns [])) x (.inst 400 d) b = none := fun b hb h1 h2 => by rw [upd_ne _ _ h1, upd_ne _ _ h2]; exact hb
  have new : ∀ b, upd (upd M d (.ns [])) x (.inst 400 d) b = none → M b = none ∧ b ≠ x ∧ b ≠ d := fun b hb => by
    have h1 : b ≠ x := by rintro rfl; rw [hx0] at hb; cases hb
    have h2 : b ≠ d := by rintro rfl; rw [hd0] at hb; cases hb
    rw [upd_ne _ _ h1, upd_ne _ _ h2] at hb
    exact ⟨hb, h1, h2⟩
  revert k0 hx0 hd0 new
  generalize upd (upd M d (.ns [])) x (.inst 400 d) = M0
  intro k0 hx0 hd0 new
  have g0 := g.keep0 k0
  have hl := g.m.h
  refine f_PS_init ?_
  refine Eq.mpr g0.s.a_heap ?_
  refine Eq.mpr (e_len g0.s.heap (by simp; omega)) ?_
  refine Eq.mpr e_add ?_
  refine Eq.mpr (e_setAttr hx0 hd0 (by decide +kernel) (by decide)) ?_
  refine Eq.mpr e_set0 fun b hb => ?_
  have hbd : b ≠ d := by rintro rfl; rw [upd_same] at hb; cases hb
  rw [upd_ne _ _ hbd] at hb
  obtain ⟨hb0, hbx, _⟩ := new b hb
  refine Eq.mpr (e_setAttr (c := 400) (d := d) (l := [(n_span, .int ((A.heap.map cv).length + 1))]) (by rw [upd_ne _ _ hbx.symm, upd_ne _ _ ne]; exact hx0) (by rw [upd_ne _ _ hbd.symm, upd_same]; rfl) (by decide +kernel) (by simp)) ?_
  refine ⟨rfl, h ⟨x, d, b⟩ _ hx hd hb0 ⟨?_, ?_, ?_⟩ fun a z e n => ?_⟩
  · show upd _ d _ x = _
    rw [upd_ne _ _ ne, upd_ne _ _ hbx.symm, upd_ne _ _ ne]; exact hx0
  · show upd _ d _ d = _
    rw [upd_same]
    simp [Mine.st]; rfl
  · show upd _ d _ b = _
    rw [upd_ne _ _ hbd, upd_same]; rfl
  · have h1 : a ≠ d := by rintro rfl; rw [hd] at e; cases e
    have h2 : a ≠ b := by rintro rfl; rw [hb0] at e; cases e
    rw [upd_ne _ _ h1, upd_ne _ _ h2, upd_ne _ _ h1]
    exact k0 a z e n
theorem PsA.keep {P : PA} {sp : Nat} {met : List (Nat × Nat)} (h : PsA M P sp met) {L : List Addr} (kk : Keeps L M M') (n1 : P.ps ∉ L) (n2 : P.d ∉ L) (n3 : P.m ∉ L) : PsA M' P sp met := ⟨kk _ _ h.inst n1, kk _ _ h.ns n2, kk _ _ h.set n3⟩
theorem c_PS_add {P : PA} {sp p q : Nat} {met : List (Nat × Nat)} (hP : PsA M P sp met) (hq : q < sp) (hp : p < sp) (hs : sp < 1000) (hm : ∀ x ∈ met, x.2 < sp) (hl : met.length < 4000)
    (h1 : (p, q) ∈ met → Q (.bool false) M) (h2 : (p, q) ∉ met → ∀ M', PsA M' P sp ((p, q) :: met) → Keeps [P.m] M M' → Q (.bool true) M') : CallP C (k + 1) (.ref 397) [.ref P.ps, cv (.str p), cv (.str q)] M Q := by
  refine f_PS_add ?_
  refine Eq.mpr e_item1 ?_
  refine Eq.mpr (e_attr hP.inst hP.ns (by decide +kernel) rfl rfl) ?_
  refine ⟨by simp [Cl.num]; omega, by simp; omega, ?_⟩
  refine Eq.mpr e_item1 ?_
  refine Eq.mpr e_add ?_
  refine Eq.mpr (e_attr hP.inst hP.ns (by decide +kernel) rfl rfl) ?_
  refine Eq.mpr (e_inS hP.set) ?_
  have e : setP sp met (((Cl.str p).num : Int) * (sp : Int) + ((Cl.str q).num : Int)) = decide ((p, q) ∈ met) := setP_mem hq hm
  refine Eq.mpr e_br ⟨fun z => ?_, fun z => ?_⟩
  · rw [e] at z; exact h1 (of_decide_eq_true z)
  · have z' := z
    rw [e] at z'
    refine Eq.mpr (e_attr hP.inst hP.ns (by decide +kernel) rfl rfl) ?_
    refine Eq.mpr (e_radd hP.set) ?_
    refine Eq.mpr (e_add1 hP.set (by omega) z) ?_
    have n1 : P.ps ≠ P.m := fun q => by have := hP.inst; rw [q, hP.set] at this; cases this
    have n2 : P.d ≠ P.m := fun q => by have := hP.ns; rw [q, hP.set] at this; cases this
    refine h2 (of_decide_eq_false z') _ ⟨?_, ?_, ?_⟩ (Keeps.upd (by simp))
    · rw [upd_ne _ _ n1]; exact hP.inst
    · rw [upd_ne _ _ n2]; exact hP.ns
    · rw [upd_same]; rfl
end
end
end Mine

end
section
open PySem PySem.W PyProof.Rows PySem.Calls
set_option Elab.async false
set_option maxRecDepth 100000
set_option linter.all false
namespace Mine
noncomputable section
noncomputable def pairsN (N : Nat) : List (Nat × Nat) := (List.range N).flatMap fun p => (List.range N).map fun q => (p, q)
theorem pairsN_len (N : Nat) : (pairsN N).length = N * N := by
  unfold pairsN
  rw [List.length_flatMap]
  have : ∀ l : List Nat, (l.map fun p => ((List.range N).map fun q => (p, q)).length).sum = l.length * N := fun l => by
    induction l with
    | nil => simp
    | cons a t ih =>
      simp only [List.length_map, List.length_range] at ih
      simp only [List.map_cons, List.sum_cons, List.length_cons, Nat.succ_mul, List.length_map, List.length_range]; omega
  rw [this, List.length_range]
theorem pairsN_mem {N p q : Nat} (hp : p < N) (hq : q < N) : (p, q) ∈ pairsN N := by
  unfold pairsN
  simp only [List.mem_flatMap, List.mem_map, List.mem_range]
  exact ⟨p, hp, q, hq, rfl⟩
noncomputable def unmP (N : Nat) (met : List (Nat × Nat)) : Nat := ((pairsN N).filter fun x => !met.contains x).length
theorem unmP_cons {N p q : Nat} {met : List (Nat × Nat)} (hp : p < N) (hq : q < N) (hn : (p, q) ∉ met) : unmP N ((p, q) :: met) < unmP N met := by
  unfold unmP
  refine filter_lt (fun x hx => ?_) (pairsN_mem hp hq) (by simpa using hn) (by simp)
  simp only [List.contains_cons, Bool.not_eq_true', Bool.or_eq_false_iff] at hx
  simpa using hx.2
theorem unmP_le {N : Nat} {met : List (Nat × Nat)} : unmP N met ≤ N * N := by
  unfold unmP
  exact Nat.le_trans (List.length_filter_le _ _) (by rw [pairsN_len]; exact Nat.le_refl _)
theorem derF_end {A : Ar} : ∀ {n : Nat} {c d : Cl}, derF A n c = some d → look A d = some d
  | n + 1, c, d, h => by
    rw [derF_succ] at h
    split at h
    · cases h
    · rename_i e he
      split at h
      · rename_i q; cases h; subst q; exact he
      · exact derF_end h
theorem var_end {A : Ar} {n : Nat} {c d : Cl} (h : derF A n c = some d) (hv : isV d = true) : varAt A d := by
  have := derF_end h
  cases d with
  | ref i => exact (List.getElem?_eq_some_iff.mp this).1
  | srf i => exact (List.getElem?_eq_some_iff.mp this).1
  | _ => cases hv
theorem bindP_len {A : Ar} {c v : Cl} : (bindP A c v).heap.length = A.heap.length ∧ (bindP A c v).stack.length = A.stack.length ∧ (bindP A c v).trail.length ≤ A.trail.length + 1 := by
  cases c <;> simp [bindP] <;> split <;> simp
theorem bindPP_len {A : Ar} {c d : Cl} : (bindPairP A c d).heap.length = A.heap.length ∧ (bindPairP A c d).stack.length = A.stack.length ∧ (bindPairP A c d).trail.length ≤ A.trail.length + 1 := by
  cases c <;> first | exact ⟨rfl, rfl, Nat.le_succ _⟩ | skip
  all_goals (cases d <;> first | exact ⟨rfl, rfl, Nat.le_succ _⟩ | exact bindP_len | (simp only [bindPairP]; split <;> exact bindP_len))
section
variable {C : Cx} {k : Nat} {M M' : Mm} {S : SA} {A : Ar} {Q : V → Mm → Prop} {Y : SY} {y : Sy}
theorem G.m_bp (g : G M S A Y y) {K : Mk → Prop} : recvV M methIn (.ref S.st) n_bind_pair K = K (.fn 251) := g.s.meth (by decide +kernel) rfl
noncomputable def pv (x : Cl × Cl) : V := .tup [cv x.1, cv x.2]
-- the state at the head of a loop over pairs
structure PL (M : Mm) (S : SA) (Y : SY) (y : Sy) (P : PA) (w : Addr) (N : Nat) (M' : Mm) (A : Ar) (met : List (Nat × Nat)) (wk : List (Cl × Cl)) : Prop where
  g : G M' S A Y y
  ps : PsA M' P (N + 1) met
  ws : M' w = some (.list (wk.reverse.map pv))
  kk : Keeps S.all M M'
  n1 : M P.ps = none
  n2 : M P.d = none
  n3 : M P.m = none
  nw : M w = none
  w1 : w ≠ P.ps
  w2 : w ≠ P.d
  w3 : w ≠ P.m
  len : A.heap.length = N
  N60 : N ≤ 60
  mu : A.trail.length + wk.length + 3 * unmP 60 met ≤ 50000
  mm : met.length + unmP 60 met ≤ 3600
  lt : ∀ x ∈ met, x.2 < N + 1
noncomputable def WUni (M : Mm) (S : SA) (Y : SY) (y : Sy) (res : Ar × Bool) (P : PA) (w : Addr) (N : Nat) (i : Nat) (vals : List V) (M' : Mm) : Prop :=
  vals = [.ref S.st, .bool true, .ref P.ps, .ref w] ∧ ∃ A met wk, PL M S Y y P w N M' A met wk ∧ uniF (arOf y) i A met wk = some res
theorem notAll (g : G M S A Y y) {a : Addr} (ha : M a = none) : a ∉ S.all := by
  intro hm
  simp only [SA.all, List.mem_cons, List.not_mem_nil, or_false] at hm
  rcases hm with rfl | rfl | rfl | rfl <;> simp [g.s.ns, g.s.heap, g.s.stack, g.s.trail] at ha
end
end
end Mine

end
section
open PySem PySem.W PyProof.Rows PySem.Calls
set_option Elab.async false
set_option maxRecDepth 100000
set_option linter.all false
namespace Mine
noncomputable section
section
variable {C : Cx} {k : Nat} {M M' : Mm} {S : SA} {A : Ar} {Q : V → Mm → Prop} {Y : SY} {y : Sy}
-- the next pair is taken
theorem PL.pop {P : PA} {w : Addr} {N : Nat} {met : List (Nat × Nat)} {wk : List (Cl × Cl)} {x : Cl × Cl} {A0 : Ar} (h : PL M S Y y P w N M' A met (x :: wk)) (g0 : G M S A0 Y y) : PL M S Y y P w N (upd M' w (.list (wk.reverse.map pv))) A met wk := by
  have hmu := h.mu
  simp only [List.length_cons] at hmu
  have hw := notAll g0 h.nw
  have kk : Keeps [w] M' (upd M' w (.list (wk.reverse.map pv))) := Keeps.upd (by simp)
  refine ⟨h.g.keep kk (by simpa using g0.out h.nw), h.ps.keep kk (by simpa using h.w1.symm) (by simpa using h.w2.symm) (by simpa using h.w3.symm), upd_same .., fun a z e n => ?_, h.n1, h.n2, h.n3, h.nw, h.w1, h.w2, h.w3, h.len, h.N60, by omega, h.mm, h.lt⟩
  rw [upd_ne _ _ (by rintro rfl; rw [h.nw] at e; cases e)]
  exact h.kk a z e n
-- a pair is noted
theorem PL.note {P : PA} {w : Addr} {N p q : Nat} {met : List (Nat × Nat)} {wk nw : List (Cl × Cl)} {A0 : Ar} {M1 M2 : Mm} (h : PL M S Y y P w N M' A met wk) (g0 : G M S A0 Y y) (hp : p < N) (hq : q < N) (hn : (p, q) ∉ met) (hP : PsA M1 P (N + 1) ((p, q) :: met)) (k1 : Keeps [P.m] M' M1)
    (hw : M2 w = some (.list ((nw ++ wk).reverse.map pv))) (k2 : Keeps [w] M1 M2) (hl : nw.length ≤ 2) : PL M S Y y P w N M2 A ((p, q) :: met) (nw ++ wk) := by
  have hmu := h.mu
  have hmm := h.mm
  have hN := h.N60
  have := unmP_cons (N := 60) (by omega) (by omega) hn
  have kk : ∀ a z, M a = some z → a ∉ S.all → M2 a = some z := fun a z e n => by
    have n1 : a ≠ P.m := by rintro rfl; rw [h.n3] at e; cases e
    have n2 : a ≠ w := by rintro rfl; rw [h.nw] at e; cases e
    exact k2 a z (k1 a z (h.kk a z e n) (by simpa using n1)) (by simpa using n2)
  have g1 := (h.g.keep k1 (by simpa using g0.out h.n3)).keep k2 (by simpa using g0.out h.nw)
  refine ⟨g1, hP.keep k2 (by simpa using h.w1.symm) (by simpa using h.w2.symm) (by simpa using h.w3.symm), hw, kk, h.n1, h.n2, h.n3, h.nw, h.w1, h.w2, h.w3, h.len, h.N60, by simp only [List.length_append]; omega, by simp only [List.length_cons]; omega, fun x hx => ?_⟩
  rcases List.mem_cons.mp hx with rfl | hx
  · show q < N + 1
    omega
  · exact h.lt x hx
theorem PL.area' {P : PA} {w : Addr} {N : Nat} {met : List (Nat × Nat)} {wk : List (Cl × Cl)} {A' A0 : Ar} {M'' : Mm} (h : PL M S Y y P w N M' A met wk) (hx : A.trail.length + (wk.length + 1) + 3 * unmP 60 met ≤ 50000) (g0 : G M S A0 Y y) (hS : StA M'' S A') (kk : Keeps S.all M' M'') (hl : A'.heap.length = A.heap.length) (ht : A'.stack.length = A.stack.length) (hr : A'.trail.length ≤ A.trail.length + 1) : PL M S Y y P w N M'' A' met wk := by
  refine ⟨h.g.step hS kk ⟨by have := h.g.m.h; omega, by have := h.g.m.t; omega, by omega⟩, h.ps.keep kk (notAll g0 h.n1) (notAll g0 h.n2) (notAll g0 h.n3), kk _ _ h.ws (notAll g0 h.nw), h.kk.trans kk, h.n1, h.n2, h.n3, h.nw, h.w1, h.w2, h.w3, by rw [hl]; exact h.len, h.N60, by omega, h.mm, h.lt⟩
theorem PL.init {P : PA} {w : Addr} {x : Cl × Cl} {M1 : Mm} (g : G M S A Y y) (hN : A.heap.length ≤ 60) (ht : A.trail.length ≤ 30000) (n1 : M P.ps = none) (n2 : M P.d = none) (n3 : M P.m = none) (hP : PsA M1 P (A.heap.length + 1) []) (kk : Keeps [] M M1) (hw : M1 w = none) (hM : ∀ a, M1 a = none → M a = none) :
    PL M S Y y P w A.heap.length (upd M1 w (.list [pv x])) A [] [x] := by
  have w1 : w ≠ P.ps := by rintro rfl; rw [hP.inst] at hw; cases hw
  have w2 : w ≠ P.d := by rintro rfl; rw [hP.ns] at hw; cases hw
  have w3 : w ≠ P.m := by rintro rfl; rw [hP.set] at hw; cases hw
  have k2 : Keeps [w] M1 (upd M1 w (.list [pv x])) := Keeps.upd (by simp)
  have hMw := hM w hw
  have := @unmP_le 60 []
  refine ⟨(g.keep0 kk).keep k2 (by simpa using g.out hMw), hP.keep k2 (by simpa using w1.symm) (by simpa using w2.symm) (by simpa using w3.symm), upd_same .., fun a z e n => ?_, n1, n2, n3, hMw, w1, w2, w3, rfl, hN, by simp; omega, by simp; omega, by simp⟩
  rw [upd_ne _ _ (by rintro rfl; rw [hMw] at e; cases e)]
  exact kk a z e (by simp)
theorem e_attrPS {P : PA} {sp : Nat} {met : List (Nat × Nat)} {K : Mk → Prop} (h : PsA M P sp met) : recvV M methIn (.ref P.ps) n_add K = K (.fn 397) := e_recv h.inst h.ns rfl (by decide +kernel)
theorem e_pv {x : Cl × Cl} {Q : V → V → Prop} : pairV (pv x) Q = Q (cv x.1) (cv x.2) := rfl
theorem c_unify {c d : Cl} {n : Nat} {res : Ar × Bool} (g : G M S A Y y) (hN : A.heap.length ≤ 60) (ht : A.trail.length ≤ 30000) (hu : uniF (arOf y) n A [] [(c, d)] = some res)
    (h : ∀ M', G M' S res.1 Y y → Keeps S.all M M' → Q (.bool res.2) M') : CallP C (k + 6) (.ref 439) [.ref S.st, cv c, cv d, .bool true] M Q := by
  -- the pairs' set and the work list come later: their places are named by the invariant
  refine f_unify (fun i vals M' => ∃ P w, WUni M S Y y res P w A.heap.length i vals M') ?_
  refine c_PS_new g fun P M1 n1 n2 n3 hP kk => ?_
  intro w hw
  refine ⟨⟨n, P, w, rfl, A, [], [(c, d)], PL.init (x := (c, d)) g hN ht n1 n2 n3 hP kk hw fun a h => none_of (kk := kk) h, hu⟩, ?_⟩
  rintro i v v1 v2 v3 M' ⟨P, w, e, A1, met, wk, L, hF⟩
  simp only [List.cons.injEq, and_true] at e
  obtain ⟨rfl, rfl, rfl, rfl⟩ := e
  have mu := L.mu
  refine Eq.mpr (e_len L.ws (by simp; omega)) ?_
  refine Eq.mpr e_gtI ?_
  refine Eq.mpr e_br ⟨fun z => ?_, fun z => ?_⟩
  case refine_2 =>
    have : wk = [] := by cases wk with
      | nil => rfl
      | cons _ _ => simp at z
    subst this
    cases i with
    | zero => cases hF
    | succ i =>
      simp only [uniF_nil, uniF_cons, Option.some.injEq] at hF
      subst hF
      exact h _ L.g L.kk
  cases wk with
  | nil => simp at z
  | cons x wk =>
  clear z
  cases i with
  | zero => cases hF
  | succ i =>
  obtain ⟨l, r⟩ := x
  have hW : M' w = some (.list (wk.reverse.map pv ++ [pv (l, r)])) := by rw [L.ws]; simp
  simp only [List.length_cons] at mu
  refine Eq.mpr (e_rpop hW) ?_
  refine Eq.mpr (e_pop hW (by simp; omega)) ?_
  have L1 := L.pop g
  revert L1
  generalize upd M' w (.list (wk.reverse.map pv)) = M1
  intro L1
  clear L hW
  refine Eq.mpr (e_pv (x := (l, r))) ?_
  refine Eq.mpr L1.g.m_deref ?_
  cases hl : dr A1 l with
  | none => simp only [uniF_nil, uniF_cons, hl] at hF; cases hF
  | some l' =>
  cases hr : dr A1 r with
  | none => simp only [uniF_nil, uniF_cons, hl, hr] at hF; cases hF
  | some r' =>
  simp only [uniF_nil, uniF_cons, hl, hr] at hF
  refine c_deref L1.g.s L1.g.m (derF_der hl) ?_
  refine Eq.mpr L1.g.m_deref ?_
  refine c_deref L1.g.s L1.g.m (derF_der hr) ?_
  refine Eq.mpr e_eq ?_
  have next : ∀ {A' : Ar} {met' : List (Nat × Nat)} {wk' : List (Cl × Cl)} {M2 : Mm}, PL M S Y y P w A.heap.length M2 A' met' wk' → uniF (arOf y) i A' met' wk' = some res → ∃ m, m < i + 1 ∧ ∃ P' w', WUni M S Y y res P' w' A.heap.length m [.ref S.st, .bool true, .ref P.ps, .ref w] M2 := fun L2 hF => ⟨i, Nat.lt_succ_self _, P, w, rfl, _, _, _, L2, hF⟩
  refine Eq.mpr e_br ⟨fun z => ?_, fun z => ?_⟩
  · rw [if_pos (of_decide_eq_true z)] at hF
    exact next L1 hF
  have hne := of_decide_eq_false z
  rw [if_neg hne] at hF
  clear z
  refine c_is_variable ?_
  refine Eq.mpr e_truth ?_
  refine Eq.mpr e_br ⟨fun z1 => ?_, fun z1 => ?_⟩
  · refine c_is_variable ?_
    refine Eq.mpr e_truth ?_
    have va := var_end hl z1
    refine Eq.mpr e_br ⟨fun z2 => ?_, fun z2 => ?_⟩
    · simp only [z1, z2] at hF
      have vb := var_end hr z2
      refine Eq.mpr L1.g.m_bp ?_
      refine c_bind_pair L1.g.s L1.g.m va vb hne fun M2 hS kk => ?_
      obtain ⟨b1, b2, b3⟩ := @bindPP_len A1 l' r'
      exact next (L1.area' mu g hS kk b1 b2 b3) hF
    · simp only [z1, z2] at hF
      cases ho : occI (arOf y) A1 l' r' with
      | none => rw [ho] at hF; cases hF
      | some b =>
      rw [ho] at hF
      refine c_bind_checked L1.g (by rw [L1.len]; exact hN) ho z1 va fun M2 A2 hS kk hA => ?_
      refine Eq.mpr e_truth ?_
      refine Eq.mpr e_br ⟨fun z3 => ?_, fun z3 => ?_⟩
      · cases b with
        | false => simp at z3
        | true =>
          simp only [Option.some.injEq] at hF
          subst hF
          simp only [if_true] at hA
          subst hA
          exact h _ (L1.g.step hS kk L1.g.m) (L1.kk.trans kk)
      · cases b with
        | true => simp at z3
        | false =>
          simp only [Bool.false_eq_true, if_false] at hA
          subst hA
          obtain ⟨b1, b2, b3⟩ := @bindP_len A1 l' r'
          exact next (L1.area' mu g hS kk b1 b2 b3) hF
  · refine c_is_variable ?_
    refine Eq.mpr e_truth ?_
    refine Eq.mpr e_br ⟨fun z2 => ?_, fun z2 => ?_⟩
    · simp only [z1, z2] at hF
      have vb := var_end hr z2
      cases ho : occI (arOf y) A1 r' l' with
      | none => rw [ho] at hF; cases hF
      | some b =>
      rw [ho] at hF
      refine c_bind_checked L1.g (by rw [L1.len]; exact hN) ho z2 vb fun M2 A2 hS kk hA => ?_
      refine Eq.mpr e_truth ?_
      refine Eq.mpr e_br ⟨fun z3 => ?_, fun z3 => ?_⟩
      · cases b with
        | false => simp at z3
        | true =>
          simp only [Option.some.injEq] at hF
          subst hF
          simp only [if_true] at hA
          subst hA
          exact h _ (L1.g.step hS kk L1.g.m) (L1.kk.trans kk)
      · cases b with
        | true => simp at z3
        | false =>
          simp only [Bool.false_eq_true, if_false] at hA
          subst hA
          obtain ⟨b1, b2, b3⟩ := @bindP_len A1 r' l'
          exact next (L1.area' mu g hS kk b1 b2 b3) hF
    · simp only [z1, z2] at hF
      refine Eq.mpr L1.g.m_isc ?_
      refine c_is_compound ?_
      refine Eq.mpr e_truth ?_
      refine Eq.mpr e_br ⟨fun z3 => ?_, fun z3 => ?_⟩
      · obtain ⟨p, rfl⟩ : ∃ p, l' = .str p := by cases l' <;> simp [Cl.tag] at z3; exact ⟨_, rfl⟩
        by_cases hq : r'.tag = 2
        case neg =>
          refine c_same_shape' hq ?_
          refine Eq.mpr e_truth ?_
          refine Eq.mpr e_br ⟨fun z => (by cases z), fun _ => ?_⟩
          have : res = (A1, false) := by
            cases r' <;> simp [Cl.tag] at hq <;> simpa using hF.symm
          subst this
          exact h _ L1.g L1.kk
        obtain ⟨q, rfl⟩ : ∃ q, r' = .str q := by cases r' <;> simp [Cl.tag] at hq; exact ⟨_, rfl⟩
        simp only at hF
        split at hF
        case h_2 => cases hF
        rename_i f f' hp hq'
        refine c_same_shape L1.g.s L1.g.m hp hq' ?_
        refine Eq.mpr e_truth ?_
        refine Eq.mpr e_br ⟨fun z4 => ?_, fun z4 => ?_⟩
        · have hff : f = f' := by simpa using z4
          subst hff
          simp only [if_true] at hF
          have hps := (List.getElem?_eq_some_iff.mp hp).1
          have hqs := (List.getElem?_eq_some_iff.mp hq').1
          have hlen := L1.len
          refine Eq.mpr (e_attrPS L1.ps) ?_
          refine c_PS_add L1.ps (by omega) (by omega) (by omega) L1.lt (by have := L1.mm; omega) (fun hm => ?_) (fun hm M2 hP kk => ?_)
          · refine Eq.mpr e_truth ?_
            refine Eq.mpr e_br ⟨fun z => (by cases z), fun _ => ?_⟩
            rw [if_pos hm] at hF
            exact next L1 hF
          · refine Eq.mpr e_truth ?_
            refine Eq.mpr e_br ⟨fun _ => ?_, fun z => (by cases z)⟩
            rw [if_neg hm] at hF
            split at hF
            case h_2 => cases hF
            rename_i as bs has hbs
            have g2 := L1.g.keep kk (by simpa using g.out L1.n3)
            have hw2 := kk _ _ L1.ws (by simpa using L1.w3)
            refine c_push_pairs g2 has hbs (by rw [hp, hq']) hw2 (g.out L1.nw) (by simp; omega) fun M3 hw3 k3 => ?_
            have hl2 : (as.zip bs).length ≤ 2 := by
              obtain ⟨_, _, _, _, _, h2, _, h4⟩ := args_inv has
              simp; omega
            refine next (L1.note g (by omega) (by omega) hm hP kk (nw := as.zip bs) ?_ k3 hl2) hF
            rw [hw3]; simp [pv]
        · have hff : f ≠ f' := by simpa using z4
          rw [if_neg hff] at hF
          simp only [Option.some.injEq] at hF
          subst hF
          exact h _ L1.g L1.kk
      · have : res = (A1, false) := by
          cases l' <;> cases r' <;> simp [Cl.tag] at z3 <;> simpa using hF.symm
        subst this
        exact h _ L1.g L1.kk
end
end
end Mine

end
section
open PySem PySem.W PyProof.Rows PySem.Calls
set_option Elab.async false
set_option maxRecDepth 100000
set_option linter.all false
namespace Mine
noncomputable section
noncomputable def undo1 (A : Ar) : Tr → Ar
  | .h n => { A with heap := A.heap.set n (.ref n) }
  | .s n => { A with stack := A.stack.set n (.srf n) }
noncomputable def trIn (A : Ar) : Tr → Prop
  | .h n => n < A.heap.length
  | .s n => n < A.stack.length
theorem undo1_len {A : Ar} {t : Tr} : (undo1 A t).heap.length = A.heap.length ∧ (undo1 A t).stack.length = A.stack.length ∧ (undo1 A t).trail = A.trail := by cases t <;> simp [undo1]
-- back to the mark
noncomputable def undoR (A : Ar) (t0 ex : List Tr) : Ar := ex.reverse.foldl undo1 { A with trail := t0 }
theorem undoR_snoc {A : Ar} {t0 ex : List Tr} {t : Tr} : undoR A t0 (ex ++ [t]) = undoR (undo1 A t) t0 ex := by
  unfold undoR
  rw [List.reverse_append, List.reverse_singleton, List.singleton_append, List.foldl_cons]
  cases t <;> rfl
section
variable {C : Cx} {k : Nat} {M M' : Mm} {S : SA} {A : Ar} {Q : V → Mm → Prop} {Y : SY} {y : Sy}
theorem e_sub' {a b c : Int} {Q : V → Prop} (h : a - b = c) : binV .Sub (.int a) (.int b) Q = Q (.int c) := by rw [← h]; rfl
theorem G.setHeap (g : G M S A Y y) {l : List Cl} (hl : l.length = A.heap.length) : G (upd M S.h (.list (l.map cv))) S { A with heap := l } Y y :=
  g.step (g.s.setHeap l) (Keeps.upd (by simp [SA.all])) ⟨by have := g.m.h; simp; omega, g.m.t, g.m.r⟩
theorem G.setStack (g : G M S A Y y) {l : List Cl} (hl : l.length = A.stack.length) : G (upd M S.t (.list (l.map cv))) S { A with stack := l } Y y :=
  g.step (g.s.setStack l) (Keeps.upd (by simp [SA.all])) ⟨g.m.h, by have := g.m.t; simp; omega, g.m.r⟩
theorem G.setTrail (g : G M S A Y y) {l : List Tr} (hl : l.length < 60000) : G (upd M S.r (.list (l.map fun x => .int (te x)))) S { A with trail := l } Y y :=
  g.step (g.s.setTrail l) (Keeps.upd (by simp [SA.all])) ⟨g.m.h, g.m.t, hl⟩
-- the state at the head of undo_to's loop
noncomputable def WUn (M : Mm) (S : SA) (Y : SY) (y : Sy) (t0 : List Tr) (R : Ar) (i : Nat) (vals : List V) (M' : Mm) : Prop :=
  vals = [.ref S.st, .int (t0.length : Nat)] ∧ ∃ A ex, i = ex.length ∧ G M' S A Y y ∧ Keeps S.all M M' ∧ A.trail = t0 ++ ex ∧ (∀ t ∈ ex, trIn A t) ∧ undoR A t0 ex = R
theorem c_undo_to {t0 ex : List Tr} (g : G M S A Y y) (ht : A.trail = t0 ++ ex) (hb : ∀ t ∈ ex, trIn A t) (h : ∀ M', G M' S (undoR A t0 ex) Y y → Keeps S.all M M' → Q .none M') :
    CallP C (k + 1) (.ref 272) [.ref S.st, .int (t0.length : Nat)] M Q := by
  refine f_undo_to (WUn M S Y y t0 (undoR A t0 ex)) ⟨⟨_, rfl, A, ex, rfl, g, Keeps.refl _ _, ht, hb, rfl⟩, ?_⟩
  rintro i v v1 M' ⟨e, A1, ex1, hi, g1, kk, ht1, hb1, hR⟩
  simp only [List.cons.injEq, and_true] at e
  obtain ⟨rfl, rfl⟩ := e
  have hr := g1.m.r
  refine Eq.mpr g1.s.a_trail ?_
  refine Eq.mpr (e_len g1.s.trail (by simp; omega)) ?_
  refine Eq.mpr e_gtI ?_
  rcases List.eq_nil_or_concat ex1 with rfl | ⟨ex2, t, rfl⟩
  · refine Eq.mpr e_br ⟨fun z => ?_, fun _ => ?_⟩
    · rw [ht1] at z; simp at z
    · have : undoR A1 t0 [] = A1 := by unfold undoR; simp at ht1; simp [← ht1]
      rw [this] at hR; subst hR
      exact h _ g1 kk
  · rw [List.concat_eq_append] at *
    refine Eq.mpr e_br ⟨fun _ => ?_, fun z => ?_⟩
    case refine_2 => rw [ht1] at z; simp at z; omega
    have hT : M' S.r = some (.list ((t0 ++ ex2).map (fun x => V.int (te x)) ++ [V.int (te t)])) := by rw [g1.s.trail, ht1]; simp
    have hlen : (t0 ++ ex2).length < 60000 := by rw [ht1] at hr; simp at hr ⊢; omega
    refine Eq.mpr g1.s.a_trail ?_
    refine Eq.mpr (e_rpop hT) ?_
    refine Eq.mpr (e_pop hT (by simp only [List.length_map]; omega)) ?_
    have g2 := g1.setTrail hlen
    have k2 : Keeps S.all M' (upd M' S.r (.list ((t0 ++ ex2).map fun x => .int (te x)))) := Keeps.upd (by simp [SA.all])
    revert g2 k2
    generalize upd M' S.r (.list ((t0 ++ ex2).map fun x => V.int (te x))) = M2
    intro g2 k2
    rw [undoR_snoc] at hR
    refine Eq.mpr e_geI ?_
    have fin : ∀ {M3 : Mm}, G M3 S (undo1 { A1 with trail := t0 ++ ex2 } t) Y y → Keeps S.all M2 M3 → ∃ m, m < i ∧ WUn M S Y y t0 (undoR A t0 ex) m [.ref S.st, .int (t0.length : Nat)] M3 := fun {M3} g3 k3 => by
      refine ⟨ex2.length, by rw [hi]; simp, rfl, _, ex2, rfl, g3, (kk.trans k2).trans k3, undo1_len.2.2, fun x hx => ?_, ?_⟩
      · have hx1 := hb1 x (List.mem_append_left _ hx)
        obtain ⟨l1, l2, _⟩ := @undo1_len { A1 with trail := t0 ++ ex2 } t
        cases x with
        | h n => show n < (undo1 { A1 with trail := t0 ++ ex2 } t).heap.length; rw [l1]; exact hx1
        | s n => show n < (undo1 { A1 with trail := t0 ++ ex2 } t).stack.length; rw [l2]; exact hx1
      · rw [← hR]; cases t <;> rfl
    have hin := hb1 t (List.mem_append_right _ (.head _))
    cases t with
    | h n =>
      have hin : n < A1.heap.length := hin
      have := g1.m.h
      refine Eq.mpr e_br ⟨fun _ => ?_, fun z => by simp [te] at z⟩
      refine Eq.mpr g2.s.a_heap ?_
      refine Eq.mpr (e_set (n := n) g2.s.heap (by simpa using hin) (by omega)) ?_
      have g3 := g2.setHeap (l := A1.heap.set n (.ref n)) (by simp)
      rw [List.map_set] at g3
      exact fin g3 (Keeps.upd (by simp [SA.all]))
    | s n =>
      have hin : n < A1.stack.length := hin
      have := g1.m.t
      refine Eq.mpr e_br ⟨fun z => by simp [te] at z; omega, fun _ => ?_⟩
      refine Eq.mpr e_neg ?_
      refine Eq.mpr (e_sub' (c := (n : Nat)) (by simp [te]; omega)) ?_
      refine Eq.mpr g2.s.a_stack ?_
      refine Eq.mpr (e_set (n := n) g2.s.stack (by simpa using hin) (by omega)) ?_
      have g3 := g2.setStack (l := A1.stack.set n (.srf n)) (by simp)
      rw [List.map_set] at g3
      exact fin g3 (Keeps.upd (by simp [SA.all]))
theorem e_setHb {n : Nat} (g : G M S A Y y) {Q : Mm → Prop} : setAttrV M attrIn (.int n) (.ref S.st) n_hb Q = Q (upd M S.d (.ns (sNs S n A.bb))) := e_setAttr g.s.inst g.s.ns (by decide +kernel) (by simp [sNs])
theorem e_setBb {n : Nat} (g : G M S A Y y) {Q : Mm → Prop} : setAttrV M attrIn (.int n) (.ref S.st) n_bb Q = Q (upd M S.d (.ns (sNs S A.hb n))) := e_setAttr g.s.inst g.s.ns (by decide +kernel) (by simp [sNs])
theorem G.setHb (g : G M S A Y y) (n : Nat) : G (upd M S.d (.ns (sNs S n A.bb))) S { A with hb := n } Y y := g.step (g.s.setHb n) (Keeps.upd (by simp [SA.all])) ⟨g.m.h, g.m.t, g.m.r⟩
theorem G.setBb (g : G M S A Y y) (n : Nat) : G (upd M S.d (.ns (sNs S A.hb n))) S { A with bb := n } Y y := g.step (g.s.setBb n) (Keeps.upd (by simp [SA.all])) ⟨g.m.h, g.m.t, g.m.r⟩
theorem kd : Keeps S.all M (upd M S.d x) := Keeps.upd (by simp [SA.all])
-- the areas with their bounds at their ends
noncomputable def mkd (A : Ar) : Ar := { A with hb := A.heap.length, bb := A.stack.length }
theorem c_trial {c d : Cl} {n : Nat} {A' : Ar} {b : Bool} {ex : List Tr} (g : G M S A Y y) (hN : A.heap.length ≤ 60) (ht : A.trail.length ≤ 30000) (hu : uniF (arOf y) n (mkd A) [] [(c, d)] = some (A', b)) (hx : A'.trail = A.trail ++ ex) (hb : ∀ t ∈ ex, trIn A' t)
    (h : ∀ M', G M' S { undoR A' A.trail ex with hb := A.hb, bb := A.bb } Y y → Keeps S.all M M' → Q (.bool b) M') : CallP C (k + 7) (.ref 453) [.ref S.st, cv c, cv d, .bool true] M Q := by
  refine f_trial ?_
  have h1 := g.m.h; have h2 := g.m.t
  refine Eq.mpr g.s.a_hb ?_
  refine Eq.mpr g.s.a_bb ?_
  refine Eq.mpr (g.s.meth (x := n_mark) (f := 265) (by decide +kernel) rfl) ?_
  refine c_mark g.s g.m ?_
  refine Eq.mpr g.s.a_heap ?_
  refine Eq.mpr (e_len g.s.heap (by simp; omega)) ?_
  refine Eq.mpr (e_setHb g) ?_
  have g1 := g.setHb (A.heap.map cv).length
  have k1 : Keeps S.all M (upd M S.d (.ns (sNs S (A.heap.map cv).length A.bb))) := kd
  revert g1 k1
  generalize upd M S.d (.ns (sNs S (A.heap.map cv).length A.bb)) = M1
  intro g1 k1
  refine Eq.mpr g1.s.a_stack ?_
  refine Eq.mpr (e_len g1.s.stack (by simp; omega)) ?_
  refine Eq.mpr (e_setBb g1) ?_
  have g2 := g1.setBb (A.stack.map cv).length
  have k2 : Keeps S.all M1 (upd M1 S.d (.ns (sNs S (A.heap.map cv).length (A.stack.map cv).length))) := kd
  revert g2 k2
  show G (upd M1 S.d (.ns (sNs S (A.heap.map cv).length (A.stack.map cv).length))) S _ Y y → _
  generalize upd M1 S.d (.ns (sNs S (A.heap.map cv).length (A.stack.map cv).length)) = M2
  intro g2 k2
  have g2 : G M2 S (mkd A) Y y := by simpa [mkd] using g2
  refine c_unify g2 hN ht hu fun M3 g3 k3 => ?_
  refine Eq.mpr (g3.s.meth (x := n_undo_to) (f := 272) (by decide +kernel) rfl) ?_
  refine c_undo_to g3 hx hb fun M4 g4 k4 => ?_
  refine Eq.mpr (e_setHb g4) ?_
  have g5 := g4.setHb A.hb
  refine Eq.mpr (e_setBb g5) ?_
  exact h _ (g5.setBb A.bb) (((((k1.trans k2).trans k3).trans k4).trans kd).trans kd)
end
end
end Mine

end
section
open PySem PySem.W PyProof.Rows PySem.Calls
set_option Elab.async false
set_option maxRecDepth 100000
set_option linter.all false
namespace Mine
noncomputable section
section
variable {C : Cx} {k : Nat} {M M' : Mm} {S : SA} {A : Ar} {Q : V → Mm → Prop} {Y : SY} {y : Sy}
noncomputable def WCmp (M : Mm) (S : SA) (Y : SY) (y : Sy) (A : Ar) (i : Nat) (vals : List V) (M' : Mm) : Prop :=
  ∃ P w met wk, vals = [.ref S.st, .ref P.ps, .ref w] ∧ PL M S Y y P w A.heap.length M' A met wk ∧ cmpF (arOf y) A i met wk = true
theorem c_compare {c d : Cl} {n : Nat} (g : G M S A Y y) (hN : A.heap.length ≤ 60) (ht : A.trail.length ≤ 30000) (hu : cmpF (arOf y) A n [] [(c, d)] = true)
    (h : ∀ M', G M' S A Y y → Keeps S.all M M' → Q (.int 0) M') : CallP C (k + 5) (.ref 495) [.ref S.st, cv c, cv d] M Q := by
  refine f_compare (WCmp M S Y y A) ?_
  refine c_PS_new g fun P M1 n1 n2 n3 hP kk => ?_
  intro w hw
  refine ⟨⟨n, P, w, [], [(c, d)], rfl, PL.init (x := (c, d)) g hN ht n1 n2 n3 hP kk hw fun a h => none_of (kk := kk) h, hu⟩, ?_⟩
  rintro i v v1 v2 M' ⟨P, w, met, wk, e, L, hF⟩
  simp only [List.cons.injEq, and_true] at e
  obtain ⟨rfl, rfl, rfl⟩ := e
  have mu := L.mu
  refine Eq.mpr (e_len L.ws (by simp; omega)) ?_
  refine Eq.mpr e_gtI ?_
  refine Eq.mpr e_br ⟨fun z => ?_, fun z => h _ L.g L.kk⟩
  cases wk with
  | nil => simp at z
  | cons x wk =>
  clear z
  cases i with
  | zero => cases hF
  | succ i =>
  obtain ⟨l, r⟩ := x
  have hW : M' w = some (.list (wk.reverse.map pv ++ [pv (l, r)])) := by rw [L.ws]; simp
  simp only [List.length_cons] at mu
  refine Eq.mpr (e_rpop hW) ?_
  refine Eq.mpr (e_pop hW (by simp; omega)) ?_
  have L1 := L.pop g
  revert L1
  generalize upd M' w (.list (wk.reverse.map pv)) = M1
  intro L1
  clear L hW
  refine Eq.mpr (e_pv (x := (l, r))) ?_
  refine Eq.mpr L1.g.m_deref ?_
  cases hl : dr A l with
  | none => simp only [cmpF_nil, cmpF_cons, hl] at hF; cases hF
  | some l' =>
  cases hr : dr A r with
  | none => simp only [cmpF_nil, cmpF_cons, hl, hr] at hF; cases hF
  | some r' =>
  simp only [cmpF_nil, cmpF_cons, hl, hr] at hF
  refine c_deref L1.g.s L1.g.m (derF_der hl) ?_
  refine Eq.mpr L1.g.m_deref ?_
  refine c_deref L1.g.s L1.g.m (derF_der hr) ?_
  refine Eq.mpr e_eq ?_
  have next : ∀ {met' : List (Nat × Nat)} {wk' : List (Cl × Cl)} {M2 : Mm}, PL M S Y y P w A.heap.length M2 A met' wk' → cmpF (arOf y) A i met' wk' = true → ∃ m, m < i + 1 ∧ WCmp M S Y y A m [.ref S.st, .ref P.ps, .ref w] M2 := fun L2 hF => ⟨i, Nat.lt_succ_self _, P, w, _, _, rfl, L2, hF⟩
  refine Eq.mpr e_br ⟨fun z => ?_, fun z => ?_⟩
  · rw [if_pos (of_decide_eq_true z)] at hF
    exact next L1 hF
  rw [if_neg (of_decide_eq_false z)] at hF
  clear z
  split at hF
  case h_2 => cases hF
  rename_i p q _ _
  split at hF
  case h_2 => cases hF
  rename_i f f' hp hq
  split at hF
  case isFalse => cases hF
  rename_i hff
  subst hff
  refine c_tops L1.g.s L1.g.m hp hq ?_
  refine Eq.mpr e_neI ?_
  refine Eq.mpr e_br ⟨fun z => by simp at z, fun _ => ?_⟩
  refine Eq.mpr L1.g.m_isc ?_
  refine c_is_compound ?_
  refine Eq.mpr e_truth ?_
  refine Eq.mpr e_br ⟨fun _ => ?_, fun z => by simp [Cl.tag] at z⟩
  have hps := (List.getElem?_eq_some_iff.mp hp).1
  have hqs := (List.getElem?_eq_some_iff.mp hq).1
  refine Eq.mpr (e_attrPS L1.ps) ?_
  refine c_PS_add L1.ps (by omega) (by omega) (by omega) L1.lt (by have := L1.mm; omega) (fun hm => ?_) (fun hm M2 hP kk => ?_)
  · refine Eq.mpr e_truth ?_
    refine Eq.mpr e_br ⟨fun z => (by cases z), fun _ => ?_⟩
    rw [if_pos hm] at hF
    exact next L1 hF
  · refine Eq.mpr e_truth ?_
    refine Eq.mpr e_br ⟨fun _ => ?_, fun z => (by cases z)⟩
    rw [if_neg hm] at hF
    split at hF
    case h_2 => cases hF
    rename_i as bs has hbs
    have g2 := L1.g.keep kk (by simpa using g.out L1.n3)
    have hw2 := kk _ _ L1.ws (by simpa using L1.w3)
    refine c_push_pairs g2 has hbs (by rw [hp, hq]) hw2 (g.out L1.nw) (by simp; omega) fun M3 hw3 k3 => ?_
    have hl2 : (as.zip bs).length ≤ 2 := by
      obtain ⟨_, _, _, _, _, h2, _, h4⟩ := args_inv has
      simp; omega
    refine next (L1.note g (by omega) (by omega) hm hP kk (nw := as.zip bs) ?_ k3 hl2) hF
    rw [hw3]; simp [pv]
theorem c_identical {c d : Cl} {n : Nat} (g : G M S A Y y) (hN : A.heap.length ≤ 60) (ht : A.trail.length ≤ 30000) (hu : cmpF (arOf y) A n [] [(c, d)] = true)
    (h : ∀ M', G M' S A Y y → Keeps S.all M M' → Q (.bool true) M') : CallP C (k + 6) (.ref 502) [.ref S.st, cv c, cv d] M Q := by
  refine f_identical ?_
  refine c_compare g hN ht hu fun M' g' kk => ?_
  refine Eq.mpr e_eqI ?_
  exact h M' g' kk
noncomputable def WGr (M : Mm) (S : SA) (Y : SY) (y : Sy) (A : Ar) (b : Bool) (i : Nat) (vals : List V) (M' : Mm) : Prop :=
  ∃ s w met wk, vals = [.ref S.st, .ref s, .ref w] ∧ DL M S Y y s w M' A met wk ∧ grF (arOf y) A i met wk = some b
theorem c_ground {c : Cl} {n : Nat} {b : Bool} (g : G M S A Y y) (hN : A.heap.length ≤ 60) (hF : grF (arOf y) A n [] [c] = some b) (h : ∀ M', Keeps [] M M' → Q (.bool b) M') : CallP C (k + 4) (.ref 516) [.ref S.st, cv c] M Q := by
  refine f_ground (WGr M S Y y A b) ?_
  refine Eq.mpr e_set0 fun s hs w hw => ?_
  refine ⟨⟨n, s, w, [], [c], rfl, DL.start g hN (Keeps.new hs) hs hw (upd_same ..), hF⟩, ?_⟩
  clear hs hw hF
  rintro i v v1 v2 M' ⟨s, w, met, wk, e, L, hF⟩
  simp only [List.cons.injEq, and_true] at e
  obtain ⟨rfl, rfl, rfl⟩ := e
  have mu := L.mu
  refine Eq.mpr (e_len L.ws (by simp; omega)) ?_
  refine Eq.mpr e_gtI ?_
  cases i with
  | zero => cases hF
  | succ i =>
  cases wk with
  | nil =>
    refine Eq.mpr e_br ⟨fun z => by simp at z, fun z => ?_⟩
    simp only [grF_nil, grF_cons, Option.some.injEq] at hF
    subst hF; exact h _ L.kk
  | cons c wk =>
  refine Eq.mpr e_br ⟨fun _ => ?_, fun z => by simp at z⟩
  have hW : M' w = some (.list (wk.reverse.map cv ++ [cv c])) := by rw [L.ws]; simp
  simp only [List.length_cons] at mu
  refine Eq.mpr L.g.m_deref ?_
  refine Eq.mpr (e_rpop hW) ?_
  refine Eq.mpr (e_pop hW (by simp; omega)) ?_
  have L1 := L.pop g
  revert L1
  generalize upd M' w (.list (wk.reverse.map cv)) = M1
  intro L1
  clear L hW
  cases hd : dr A c with
  | none => simp only [grF_nil, grF_cons, hd] at hF; cases hF
  | some d =>
  refine c_deref L1.g.s L1.g.m (derF_der hd) ?_
  have next : grF (arOf y) A i met wk = some b → ∃ m, m < i + 1 ∧ WGr M S Y y A b m [.ref S.st, .ref s, .ref w] M1 := fun hF => ⟨i, Nat.lt_succ_self _, s, w, met, wk, rfl, L1, hF⟩
  refine c_is_variable ?_
  refine Eq.mpr e_truth ?_
  cases d with
  | srf j => simp only [grF_nil, grF_cons, hd] at hF; cases hF
  | fn j => simp only [grF_nil, grF_cons, hd] at hF; cases hF
  | ref j =>
    refine Eq.mpr e_br ⟨fun _ => ?_, fun z => by simp [isV] at z⟩
    simp only [grF_nil, grF_cons, hd, Option.some.injEq] at hF
    subst hF; exact h _ L1.kk
  | con j =>
    refine Eq.mpr e_br ⟨fun z => by simp [isV] at z, fun _ => ?_⟩
    refine Eq.mpr L1.g.m_isc ?_
    refine c_is_compound ?_
    refine Eq.mpr e_truth ?_
    refine Eq.mpr e_br ⟨fun z => by simp [Cl.tag] at z, fun _ => ?_⟩
    simp only [grF_nil, grF_cons, hd] at hF
    exact next hF
  | str p =>
    refine Eq.mpr e_br ⟨fun z => by simp [isV] at z, fun _ => ?_⟩
    refine Eq.mpr L1.g.m_isc ?_
    refine c_is_compound ?_
    refine Eq.mpr e_truth ?_
    refine Eq.mpr e_br ⟨fun _ => ?_, fun z => by simp [Cl.tag] at z⟩
    simp only [grF_nil, grF_cons, hd] at hF
    refine Eq.mpr e_item1 ?_
    refine Eq.mpr (e_ninS L1.ss) ?_
    refine Eq.mpr e_br ⟨fun z => ?_, fun z => ?_⟩
    · have hn : p ∉ met := by rw [show (Cl.str p).num = p from rfl, setN_mem] at z; simpa using z
      rw [if_neg hn] at hF
      cases ha : argsF (arOf y) A p with
      | none => rw [ha] at hF; cases hF
      | some as =>
      rw [ha] at hF
      refine Eq.mpr (e_radd L1.ss) ?_
      refine Eq.mpr e_item1 ?_
      exact L1.visit (by omega) g hn ha fun M2 L2 _ => ⟨i, Nat.lt_succ_self _, s, w, _, _, rfl, L2, hF⟩
    · have hn : p ∈ met := by rw [show (Cl.str p).num = p from rfl, setN_mem] at z; simpa using z
      rw [if_pos hn] at hF
      exact next hF
noncomputable def WVar (M : Mm) (S : SA) (Y : SY) (y : Sy) (A : Ar) (res : List Nat) (i : Nat) (vals : List V) (M' : Mm) : Prop :=
  ∃ f nt s w found met wk, vals = [.ref S.st, .ref f, .ref nt, .ref s, .ref w] ∧ DL M S Y y s w M' A met wk ∧ varF (arOf y) A i found met wk = some res ∧
    M' f = some (.list (found.map fun i => cv (.ref i))) ∧ M' nt = some (.set (setN found.reverse) found.length) ∧ M f = none ∧ M nt = none ∧ f ≠ nt ∧ f ≠ s ∧ f ≠ w ∧ nt ≠ s ∧ nt ≠ w ∧ found.length + wk.length + 3 * unm 60 met ≤ 200
theorem c_globalise {c d : Cl} (g : G M S A Y y) (hd : dr A c = some d) (hs : d.tag ≠ 1) (h : Q (cv d) M) : CallP C (k + 2) (.ref 258) [.ref S.st, cv c] M Q := by
  refine f_globalise ?_
  refine Eq.mpr g.m_deref ?_
  refine c_deref g.s g.m (derF_der hd) ?_
  refine Eq.mpr e_item0 ?_
  refine Eq.mpr e_eqI ?_
  exact Eq.mpr e_br ⟨fun z => absurd (of_decide_eq_true z) hs, fun _ => h⟩
theorem c_variables {c d : Cl} {n : Nat} {res : List Nat} (g : G M S A Y y) (hN : A.heap.length ≤ 60) (hd : dr A c = some d) (hs : d.tag ≠ 1) (hF : varF (arOf y) A n [] [] [d] = some res)
    (h : ∀ M' f, M f = none → M' f = some (.list (res.map fun i => cv (.ref i))) → Keeps [] M M' → Q (.ref f) M') : CallP C (k + 4) (.ref 509) [.ref S.st, cv c] M Q := by
  refine f_variables (WVar M S Y y A res) ?_
  refine fun f hf => Eq.mpr e_set0 fun nt hnt => Eq.mpr e_set0 fun s hs' => ?_
  have k1 : Keeps [] M (upd M f (.list [])) := Keeps.new hf
  have k2 := k1.trans (Keeps.new (x := .set (fun _ => false) 0) hnt)
  have k3 := k2.trans (Keeps.new (x := .set (fun _ => false) 0) hs')
  have n1 : nt ≠ f := by rintro rfl; rw [upd_same] at hnt; cases hnt
  have n2 : s ≠ nt := by rintro rfl; rw [upd_same] at hs'; cases hs'
  have n3 : s ≠ f := by rintro rfl; rw [upd_ne _ _ n2, upd_same] at hs'; cases hs'
  have hfv : upd (upd (upd M f (.list [])) nt (.set (fun _ => false) 0)) s (.set (fun _ => false) 0) f = some (.list []) := by rw [upd_ne _ _ n3.symm, upd_ne _ _ n1.symm, upd_same]
  have hnv : upd (upd (upd M f (.list [])) nt (.set (fun _ => false) 0)) s (.set (fun _ => false) 0) nt = some (.set (fun _ => false) 0) := by rw [upd_ne _ _ n2.symm, upd_same]
  have hsv : upd (upd (upd M f (.list [])) nt (.set (fun _ => false) 0)) s (.set (fun _ => false) 0) s = some (.set (fun _ => false) 0) := upd_same ..
  have hnt0 := none_of (kk := k1) hnt
  have hs0 := none_of (kk := k2) hs'
  revert k3 hfv hnv hsv
  generalize upd (upd (upd M f (.list [])) nt (.set (fun _ => false) 0)) s (.set (fun _ => false) 0) = M3
  intro k3 hfv hnv hsv
  clear k1 k2 hnt hs'
  have g3 := g.keep0 k3
  refine Eq.mpr (g3.s.meth (x := n_globalise) (f := 258) (by decide +kernel) rfl) ?_
  refine c_globalise g3 hd hs ?_
  intro w hw
  have w1 : w ≠ f := by rintro rfl; rw [hfv] at hw; cases hw
  have w2 : w ≠ nt := by rintro rfl; rw [hnv] at hw; cases hw
  have w3 : w ≠ s := by rintro rfl; rw [hsv] at hw; cases hw
  have := @unm_le 60 []
  refine ⟨⟨n, f, nt, s, w, [], [], [d], rfl, DL.start g hN k3 hs0 hw hsv, hF, by rw [upd_ne _ _ w1.symm]; exact hfv, by rw [upd_ne _ _ w2.symm]; exact hnv, hf, hnt0, n1.symm, n3.symm, w1.symm, n2.symm, w2.symm, by simp; omega⟩, ?_⟩
  clear hF hfv hnv hsv hw w1 w2 w3 n1 n2 n3 k3 g3 hs0 hnt0 hf this hd hs
  rintro i v v1 v2 v3 v4 M' ⟨f, nt, s, w, found, met, wk, e, L, hF, hfv, hnv, hf, hnt, a1, a2, a3, a4, a5, mu⟩
  simp only [List.cons.injEq, and_true] at e
  obtain ⟨rfl, rfl, rfl, rfl, rfl⟩ := e
  refine Eq.mpr (e_len L.ws (by simp; omega)) ?_
  refine Eq.mpr e_gtI ?_
  cases i with
  | zero => cases hF
  | succ i =>
  cases wk with
  | nil =>
    refine Eq.mpr e_br ⟨fun z => by simp at z, fun z => ?_⟩
    simp only [varF_nil, varF_cons, Option.some.injEq] at hF
    subst hF; exact h _ _ hf hfv L.kk
  | cons c wk =>
  refine Eq.mpr e_br ⟨fun _ => ?_, fun z => by simp at z⟩
  have hW : M' w = some (.list (wk.reverse.map cv ++ [cv c])) := by rw [L.ws]; simp
  simp only [List.length_cons] at mu
  refine Eq.mpr L.g.m_deref ?_
  refine Eq.mpr (e_rpop hW) ?_
  refine Eq.mpr (e_pop hW (by simp; omega)) ?_
  have L1 := L.pop g
  have hfv1 : upd M' w (.list (wk.reverse.map cv)) f = some (.list (found.map fun i => cv (.ref i))) := by rw [upd_ne _ _ a3]; exact hfv
  have hnv1 : upd M' w (.list (wk.reverse.map cv)) nt = some (.set (setN found.reverse) found.length) := by rw [upd_ne _ _ a5]; exact hnv
  revert L1 hfv1 hnv1
  generalize upd M' w (.list (wk.reverse.map cv)) = M1
  intro L1 hfv1 hnv1
  clear L hW hfv hnv
  cases hd : dr A c with
  | none => simp only [varF_nil, varF_cons, hd] at hF; cases hF
  | some d =>
  refine c_deref L1.g.s L1.g.m (derF_der hd) ?_
  have next : varF (arOf y) A i found met wk = some res → ∃ m, m < i + 1 ∧ WVar M S Y y A res m [.ref S.st, .ref f, .ref nt, .ref s, .ref w] M1 := fun hF => ⟨i, Nat.lt_succ_self _, f, nt, s, w, found, met, wk, rfl, L1, hF, hfv1, hnv1, hf, hnt, a1, a2, a3, a4, a5, by omega⟩
  refine Eq.mpr e_item0 ?_
  refine Eq.mpr e_eqI ?_
  cases d with
  | srf j => simp only [varF_nil, varF_cons, hd] at hF; cases hF
  | fn j => simp only [varF_nil, varF_cons, hd] at hF; cases hF
  | ref j =>
    refine Eq.mpr e_br ⟨fun _ => ?_, fun z => by simp [Cl.tag] at z⟩
    simp only [varF_nil, varF_cons, hd] at hF
    refine Eq.mpr e_item1 ?_
    refine Eq.mpr (e_ninS hnv1) ?_
    have hm : setN found.reverse ((Cl.ref j).num : Int) = decide (j ∈ found) := by rw [show (Cl.ref j).num = j from rfl, setN_mem]; simp
    refine Eq.mpr e_br ⟨fun z => ?_, fun z => ?_⟩
    · have hn : j ∉ found := by rw [hm] at z; simpa using z
      rw [if_neg hn] at hF
      refine Eq.mpr (e_radd hnv1) ?_
      refine Eq.mpr e_item1 ?_
      refine Eq.mpr (e_add1 hnv1 (by omega) (by rw [hm]; simpa using hn)) ?_
      have hfv2 : upd M1 nt (.set (fun x => setN found.reverse x || decide (x = ((Cl.ref j).num : Int))) (found.length + 1)) f = some (.list (found.map fun i => cv (.ref i))) := by rw [upd_ne _ _ a1]; exact hfv1
      refine Eq.mpr (e_rapp hfv2) ?_
      refine Eq.mpr (e_append hfv2 (by simp; omega)) ?_
      refine ⟨i, Nat.lt_succ_self _, f, nt, s, w, found ++ [j], met, wk, rfl, L1.other (K := [f, nt]) g ?_ (by simp [hf, hnt, a2, a3, a4, a5]), hF, by rw [upd_same]; simp, ?_, hf, hnt, a1, a2, a3, a4, a5, by simp; omega⟩
      · exact (Keeps.upd (by simp)).trans (Keeps.upd (by simp))
      · rw [upd_ne _ _ a1.symm, upd_same]
        rw [List.reverse_append, List.reverse_singleton, List.singleton_append, List.length_append]; rfl
    · have hn : j ∈ found := by rw [hm] at z; simpa using z
      rw [if_pos hn] at hF
      exact next hF
  | con j =>
    refine Eq.mpr e_br ⟨fun z => by simp [Cl.tag] at z, fun _ => ?_⟩
    refine Eq.mpr L1.g.m_isc ?_
    refine c_is_compound ?_
    refine Eq.mpr e_truth ?_
    refine Eq.mpr e_br ⟨fun z => by simp [Cl.tag] at z, fun _ => ?_⟩
    simp only [varF_nil, varF_cons, hd] at hF
    exact next hF
  | str p =>
    refine Eq.mpr e_br ⟨fun z => by simp [Cl.tag] at z, fun _ => ?_⟩
    refine Eq.mpr L1.g.m_isc ?_
    refine c_is_compound ?_
    refine Eq.mpr e_truth ?_
    refine Eq.mpr e_br ⟨fun _ => ?_, fun z => by simp [Cl.tag] at z⟩
    simp only [varF_nil, varF_cons, hd] at hF
    refine Eq.mpr e_item1 ?_
    refine Eq.mpr (e_ninS L1.ss) ?_
    refine Eq.mpr e_br ⟨fun z => ?_, fun z => ?_⟩
    · have hn : p ∉ met := by rw [show (Cl.str p).num = p from rfl, setN_mem] at z; simpa using z
      rw [if_neg hn] at hF
      cases ha : argsF (arOf y) A p with
      | none => rw [ha] at hF; cases hF
      | some as =>
      rw [ha] at hF
      obtain ⟨_, _, hp, _, _, h2, _, h4⟩ := args_inv ha
      have hps := (List.getElem?_eq_some_iff.mp hp).1
      have hN := L1.N60
      have := unm_cons (N := 60) (by omega) hn
      refine Eq.mpr (e_radd L1.ss) ?_
      refine Eq.mpr e_item1 ?_
      refine L1.visit (p := p) (by omega) g hn ha fun M2 L2 k2 => ⟨i, Nat.lt_succ_self _, f, nt, s, w, found, _, _, rfl, L2, hF, k2 _ _ hfv1 (by simp [a2, a3]), k2 _ _ hnv1 (by simp [a4, a5]), hf, hnt, a1, a2, a3, a4, a5, by simp only [List.length_append]; omega⟩
    · have hn : p ∈ met := by rw [show (Cl.str p).num = p from rfl, setN_mem] at z; simpa using z
      rw [if_pos hn] at hF
      exact next hF
end
end
end Mine

end
section
open PySem PySem.W PyProof.Rows PySem.Calls
set_option Elab.async false
set_option maxRecDepth 100000
set_option linter.all false
namespace Mine
noncomputable section
-- the numbers told agree with the tables
structure SyI (y : Sy) : Prop where
  an : ∀ t X, kvAt y.an t = some X → ∃ n : Nat, X = .int n ∧ y.texts[n]? = some t
  fn : ∀ a k X, kvAt y.fn (a, k) = some X → ∃ (f a' k' : Nat), X = .int f ∧ a = a' ∧ k = k' ∧ y.fs[f]? = some (a', k')
  al : y.an.length ≤ y.texts.length
  fl : y.fn.length ≤ y.fs.length
-- the tables go on
structure SyE (y y' : Sy) (n : Nat) : Prop where
  tx : ∀ (i : Nat) t, y.texts[i]? = some t → y'.texts[i]? = some t
  fs : ∀ (i : Nat) t, y.fs[i]? = some t → y'.fs[i]? = some t
  tl : y'.texts.length ≤ y.texts.length + n
  fl : y'.fs.length ≤ y.fs.length + n
theorem SyE.refl (y : Sy) : SyE y y 0 := ⟨fun _ _ h => h, fun _ _ h => h, Nat.le_refl _, Nat.le_refl _⟩
theorem SyE.trans {a b c : Sy} {m n : Nat} (x : SyE a b m) (z : SyE b c n) : SyE a c (m + n) := ⟨fun i t h => z.tx i t (x.tx i t h), fun i t h => z.fs i t (x.fs i t h), by have := x.tl; have := z.tl; omega, by have := x.fl; have := z.fl; omega⟩
theorem SyE.mono {a b : Sy} {m n : Nat} (x : SyE a b m) (h : m ≤ n) : SyE a b n := ⟨x.tx, x.fs, by have := x.tl; omega, by have := x.fl; omega⟩
theorem kvAt_put_none {K : Type} [DecidableEq K] {l : List (K × V)} {k : K} {X : V} (h : kvAt l k = none) : kvPut l k X = l ++ [(k, X)] := by
  unfold kvAt at h
  unfold kvPut
  have : l.any (fun x => decide (x.1 = k)) = false := by
    rw [List.any_eq_false]
    intro x hx
    have := List.find?_eq_none.mp (Option.map_eq_none_iff.mp h) x hx
    simpa using this
  rw [if_neg (by rw [this]; simp)]
theorem kvAt_snoc {K : Type} [DecidableEq K] {l : List (K × V)} {k k' : K} {X Z : V} (h : kvAt (l ++ [(k, X)]) k' = some Z) : kvAt l k' = some Z ∨ (k = k' ∧ Z = X) := by
  unfold kvAt at h ⊢
  rw [List.find?_append] at h
  cases e : l.find? fun x => decide (x.1 = k') with
  | some p => rw [e] at h; exact .inl h
  | none =>
    rw [e] at h
    simp only [Option.none_or, List.find?_cons] at h
    by_cases q : k = k'
    · simp [q] at h; exact .inr ⟨q, h.symm⟩
    · simp [q] at h
section
variable {C : Cx} {k : Nat} {M M' : Mm} {Q : V → Mm → Prop} {Y : SY} {y : Sy}
noncomputable def SY.four (Y : SY) : List Addr := [Y.tx, Y.an, Y.fs, Y.fn]
theorem SyA.a_tx (h : SyA M Y y) {Q : V → Prop} : attrV M attrIn (.ref Y.sy) n_texts Q = Q (.ref Y.tx) := e_attr h.inst h.ns (by decide +kernel) rfl rfl
theorem SyA.a_an (h : SyA M Y y) {Q : V → Prop} : attrV M attrIn (.ref Y.sy) n_atom_numbers Q = Q (.ref Y.an) := e_attr h.inst h.ns (by decide +kernel) rfl rfl
theorem SyA.a_fn (h : SyA M Y y) {Q : V → Prop} : attrV M attrIn (.ref Y.sy) n_functor_numbers Q = Q (.ref Y.fn) := e_attr h.inst h.ns (by decide +kernel) rfl rfl
theorem ne_of_mo {a b : Addr} {x z : MO} (ha : M a = some x) (hb : M b = some z) (h : x ≠ z) : a ≠ b := fun e => by rw [e, hb] at ha; cases ha; exact h rfl
theorem e_rgetS {a : Addr} {l : List (Str × V)} {K : Mk → Prop} (h : M a = some (.sdic l)) : recvV M methIn (.ref a) n_get K = K .sget := by
  apply propext
  show (∃ o, M a = some o ∧ _) ↔ _
  rw [h]
  exact ⟨fun ⟨o, e, q⟩ => by cases e; exact q.2, fun q => ⟨_, rfl, by decide +kernel, q⟩⟩
theorem e_rgetT {a : Addr} {l : List ((Int × Int) × V)} {K : Mk → Prop} (h : M a = some (.tdic l)) : recvV M methIn (.ref a) n_get K = K .tget := by
  apply propext
  show (∃ o, M a = some o ∧ _) ↔ _
  rw [h]
  exact ⟨fun ⟨o, e, q⟩ => by cases e; exact q.2, fun q => ⟨_, rfl, by decide +kernel, q⟩⟩
theorem c_atom {t : Str} (hY : SyA M Y y) (hI : SyI y) (hl : y.texts.length < 900)
    (h : ∀ M' y' (n : Nat), SyA M' Y y' → SyI y' → y'.texts[n]? = some t → y'.fs = y.fs → SyE y y' 1 → Keeps Y.four M M' → Q (.int n) M') : CallP C (k + 1) (.ref 88) [.ref Y.sy, .str t] M Q := by
  refine f_atom ?_
  refine Eq.mpr hY.a_an ?_
  refine Eq.mpr (e_rgetS hY.an) ?_
  refine Eq.mpr e_neg ?_
  refine ⟨_, hY.an, ?_⟩
  cases e : kvAt y.an t with
  | some X =>
    obtain ⟨n, rfl, hn⟩ := hI.an _ _ e
    refine Eq.mpr e_geI ?_
    refine Eq.mpr e_br ⟨fun _ => h M y n hY hI hn rfl ((SyE.refl y).mono (by omega)) (Keeps.refl _ _), fun z => ?_⟩
    have : (n : Int) ≥ 0 := by omega
    simp [this] at z
  | none =>
    refine Eq.mpr e_geI ?_
    refine Eq.mpr e_br ⟨fun z => by simp at z, fun _ => ?_⟩
    refine Eq.mpr hY.a_tx ?_
    refine Eq.mpr (e_len hY.tx (by simp; omega)) ?_
    refine Eq.mpr hY.a_tx ?_
    refine Eq.mpr (e_rapp hY.tx) ?_
    refine Eq.mpr (e_append hY.tx (by simp; omega)) ?_
    have n1 : Y.sy ≠ Y.tx := ne_of_mo hY.inst hY.tx (by simp)
    have n2 : Y.d ≠ Y.tx := ne_of_mo hY.ns hY.tx (by simp)
    have n3 : Y.an ≠ Y.tx := ne_of_mo hY.an hY.tx (by simp)
    have n4 : Y.fn ≠ Y.tx := ne_of_mo hY.fn hY.tx (by simp)
    have n5 : Y.sy ≠ Y.an := ne_of_mo hY.inst hY.an (by simp)
    have n6 : Y.d ≠ Y.an := ne_of_mo hY.ns hY.an (by simp)
    have n7 : Y.fs ≠ Y.an := ne_of_mo hY.fs hY.an (by simp)
    have n8 : Y.fn ≠ Y.an := ne_of_mo hY.fn hY.an (by simp)
    have h1 : SyA (upd M Y.tx (.list (y.texts.map V.str ++ [.str t]))) Y { y with texts := y.texts ++ [t] } :=
      ⟨by rw [upd_ne _ _ n1]; exact hY.inst, by rw [upd_ne _ _ n2]; exact hY.ns, by rw [upd_same]; simp, by rw [upd_ne _ _ n3]; exact hY.an, by rw [upd_ne _ _ hY.ne.symm]; exact hY.fs, by rw [upd_ne _ _ n4]; exact hY.fn, hY.ne⟩
    have k1 : Keeps Y.four M (upd M Y.tx (.list (y.texts.map V.str ++ [.str t]))) := Keeps.upd (by simp [SY.four])
    revert h1 k1
    generalize upd M Y.tx (.list (y.texts.map V.str ++ [V.str t])) = M1
    intro h1 k1
    refine Eq.mpr h1.a_an ?_
    refine ⟨_, h1.an, by have := hI.al; show y.an.length < 1000; omega, ?_⟩
    simp only [List.length_map]
    rw [kvAt_put_none e]
    refine h _ { y with texts := y.texts ++ [t], an := y.an ++ [(t, .int (y.texts.length : Nat))] } y.texts.length ?_ ?_ (by simp) rfl ⟨fun i x hx => ?_, fun _ _ h => h, by simp, by simp⟩ (k1.trans (Keeps.upd (by simp [SY.four])))
    · exact ⟨by rw [upd_ne _ _ n5]; exact h1.inst, by rw [upd_ne _ _ n6]; exact h1.ns, by rw [upd_ne _ _ n3.symm]; exact h1.tx, by rw [upd_same], by rw [upd_ne _ _ n7]; exact h1.fs, by rw [upd_ne _ _ n8]; exact h1.fn, hY.ne⟩
    · refine ⟨fun u X hu => ?_, hI.fn, by have := hI.al; simp only [List.length_append, List.length_singleton]; omega, hI.fl⟩
      rcases kvAt_snoc hu with hu | ⟨rfl, rfl⟩
      · obtain ⟨n, hn, hx⟩ := hI.an _ _ hu
        exact ⟨n, hn, by rw [List.getElem?_append_left (List.getElem?_eq_some_iff.mp hx).1]; exact hx⟩
      · exact ⟨_, rfl, by simp⟩
    · show (y.texts ++ [t])[i]? = some x
      rw [List.getElem?_append_left (List.getElem?_eq_some_iff.mp hx).1]; exact hx
theorem c_functor {a n : Nat} (hY : SyA M Y y) (hI : SyI y) (hl : y.fs.length < 900)
    (h : ∀ M' y' (f : Nat), SyA M' Y y' → SyI y' → y'.fs[f]? = some (a, n) → y'.texts = y.texts → SyE y y' 1 → Keeps Y.four M M' → Q (.int f) M') : CallP C (k + 1) (.ref 102) [.ref Y.sy, .int a, .int n] M Q := by
  refine f_functor ?_
  refine Eq.mpr hY.a_fn ?_
  refine Eq.mpr (e_rgetT hY.fn) ?_
  refine Eq.mpr e_neg ?_
  refine ⟨_, hY.fn, ?_⟩
  cases e : kvAt y.fn ((a : Int), (n : Int)) with
  | some X =>
    obtain ⟨f, a', n', rfl, ha, hn, hf⟩ := hI.fn _ _ _ e
    have ha : a = a' := by omega
    have hn : n = n' := by omega
    subst ha hn
    refine Eq.mpr e_geI ?_
    refine Eq.mpr e_br ⟨fun _ => h M y f hY hI hf rfl ((SyE.refl y).mono (by omega)) (Keeps.refl _ _), fun z => ?_⟩
    have : (f : Int) ≥ 0 := by omega
    simp [this] at z
  | none =>
    refine Eq.mpr e_geI ?_
    refine Eq.mpr e_br ⟨fun z => by simp at z, fun _ => ?_⟩
    refine Eq.mpr hY.a_fs ?_
    refine Eq.mpr (e_len hY.fs (by simp; omega)) ?_
    refine Eq.mpr hY.a_fs ?_
    refine Eq.mpr (e_rapp hY.fs) ?_
    refine Eq.mpr (e_append hY.fs (by simp; omega)) ?_
    have n1 : Y.sy ≠ Y.fs := ne_of_mo hY.inst hY.fs (by simp)
    have n2 : Y.d ≠ Y.fs := ne_of_mo hY.ns hY.fs (by simp)
    have n3 : Y.an ≠ Y.fs := ne_of_mo hY.an hY.fs (by simp)
    have n4 : Y.fn ≠ Y.fs := ne_of_mo hY.fn hY.fs (by simp)
    have n5 : Y.sy ≠ Y.fn := ne_of_mo hY.inst hY.fn (by simp)
    have n6 : Y.d ≠ Y.fn := ne_of_mo hY.ns hY.fn (by simp)
    have n7 : Y.tx ≠ Y.fn := ne_of_mo hY.tx hY.fn (by simp)
    have n8 : Y.an ≠ Y.fn := ne_of_mo hY.an hY.fn (by simp)
    have h1 : SyA (upd M Y.fs (.list (y.fs.map fV ++ [.tup [.int a, .int n]]))) Y { y with fs := y.fs ++ [(a, n)] } :=
      ⟨by rw [upd_ne _ _ n1]; exact hY.inst, by rw [upd_ne _ _ n2]; exact hY.ns, by rw [upd_ne _ _ hY.ne]; exact hY.tx, by rw [upd_ne _ _ n3]; exact hY.an, by rw [upd_same]; simp [fV], by rw [upd_ne _ _ n4]; exact hY.fn, hY.ne⟩
    have k1 : Keeps Y.four M (upd M Y.fs (.list (y.fs.map fV ++ [.tup [.int a, .int n]]))) := Keeps.upd (by simp [SY.four])
    revert h1 k1
    generalize upd M Y.fs (.list (y.fs.map fV ++ [V.tup [.int a, .int n]])) = M1
    intro h1 k1
    refine Eq.mpr h1.a_fn ?_
    refine ⟨_, h1.fn, by have := hI.fl; show y.fn.length < 1000; omega, e, ?_⟩
    simp only [List.length_map]
    refine h _ { y with fs := y.fs ++ [(a, n)], fn := y.fn ++ [(((a : Int), (n : Int)), .int (y.fs.length : Nat))] } y.fs.length ?_ ?_ (by simp) rfl ⟨fun _ _ h => h, fun i x hx => ?_, by simp, by simp⟩ (k1.trans (Keeps.upd (by simp [SY.four])))
    · exact ⟨by rw [upd_ne _ _ n5]; exact h1.inst, by rw [upd_ne _ _ n6]; exact h1.ns, by rw [upd_ne _ _ n7]; exact h1.tx, by rw [upd_ne _ _ n8]; exact h1.an, by rw [upd_ne _ _ n4.symm]; exact h1.fs, by rw [upd_same], hY.ne⟩
    · refine ⟨hI.an, fun u v X hu => ?_, hI.al, by have := hI.fl; simp only [List.length_append, List.length_singleton]; omega⟩
      rcases kvAt_snoc hu with hu | ⟨hk, rfl⟩
      · obtain ⟨f, a', k', hX, h1, h2, hx⟩ := hI.fn _ _ _ hu
        exact ⟨f, a', k', hX, h1, h2, by rw [List.getElem?_append_left (List.getElem?_eq_some_iff.mp hx).1]; exact hx⟩
      · cases hk
        exact ⟨_, a, n, rfl, rfl, rfl, by simp⟩
    · show (y.fs ++ [(a, n)])[i]? = some x
      rw [List.getElem?_append_left (List.getElem?_eq_some_iff.mp hx).1]; exact hx
theorem c_func {t : Str} {n : Nat} (hY : SyA M Y y) (hI : SyI y) (hl : y.texts.length < 900) (hl' : y.fs.length < 900)
    (h : ∀ M' y' (f a : Nat), SyA M' Y y' → SyI y' → y'.texts[a]? = some t → y'.fs[f]? = some (a, n) → SyE y y' 1 → Keeps Y.four M M' → Q (.int f) M') : CallP C (k + 2) (.ref 109) [.ref Y.sy, .str t, .int n] M Q := by
  refine f_func ?_
  refine Eq.mpr (hY.meth (x := n_functor) (f := 102) (by decide +kernel) rfl) ?_
  refine Eq.mpr (hY.meth (x := n_atom) (f := 88) (by decide +kernel) rfl) ?_
  refine c_atom hY hI hl fun M1 y1 a h1 i1 ha e1 x1 k1 => ?_
  refine c_functor h1 i1 (by rw [e1]; exact hl') fun M2 y2 f h2 i2 hf e2 x2 k2 => ?_
  refine h M2 y2 f a h2 i2 (by rw [e2]; exact ha) hf ⟨fun i u hu => x2.tx i u (x1.tx i u hu), fun i u hu => x2.fs i u (x1.fs i u hu), by rw [e2]; exact x1.tl, by have := x2.fl; rw [e1] at this; exact this⟩ (k1.trans k2)
end
end
end Mine

end
section
open PySem PySem.W PyProof.Rows PySem.Calls
set_option Elab.async false
set_option maxRecDepth 100000
set_option linter.all false
namespace Mine
noncomputable section
noncomputable def addH (A : Ar) (l : List Cl) : Ar := { A with heap := A.heap ++ l }
section
variable {C : Cx} {k : Nat} {M M' : Mm} {S : SA} {A : Ar} {Q : V → Mm → Prop} {Y : SY} {y : Sy}
theorem G.addH (g : G M S A Y y) {l : List Cl} (hl : A.heap.length + l.length < 500) : G (upd M S.h (.list ((A.heap ++ l).map cv))) S (addH A l) Y y :=
  g.step (g.s.setHeap (A.heap ++ l)) (Keeps.upd (by simp [SA.all])) ⟨by simp [Mine.addH]; exact hl, g.m.t, g.m.r⟩
theorem kh {x : MO} : Keeps S.all M (upd M S.h x) := Keeps.upd (by simp [SA.all])
theorem c_push {c : Cl} (g : G M S A Y y) (hl : A.heap.length < 490) (h : ∀ M', G M' S (addH A [c]) Y y → Keeps S.all M M' → Q (.int (A.heap.length : Nat)) M') : CallP C (k + 1) (.ref 202) [.ref S.st, cv c] M Q := by
  refine f_push ?_
  refine Eq.mpr g.s.a_heap ?_
  refine Eq.mpr (e_len g.s.heap (by simp; omega)) ?_
  refine Eq.mpr g.s.a_max ?_
  refine Eq.mpr e_geI ?_
  simp only [List.length_map]
  refine Eq.mpr e_br ⟨fun z => ?_, fun _ => ?_⟩
  · have := of_decide_eq_true z; omega
  refine Eq.mpr g.s.a_heap ?_
  refine Eq.mpr (e_rapp g.s.heap) ?_
  refine Eq.mpr (e_append g.s.heap (by simp; omega)) ?_
  have g1 := g.addH (l := [c]) (by simp; omega)
  rw [List.map_append] at g1
  exact h _ g1 kh
theorem c_new_var (g : G M S A Y y) (hl : A.heap.length < 490) (h : ∀ M', G M' S (addH A [.ref A.heap.length]) Y y → Keeps S.all M M' → Q (cv (.ref A.heap.length)) M') : CallP C (k + 2) (.ref 209) [.ref S.st] M Q := by
  refine f_new_var ?_
  refine Eq.mpr g.s.a_heap ?_
  refine Eq.mpr (e_len g.s.heap (by simp; omega)) ?_
  simp only [List.length_map]
  refine Eq.mpr (g.s.meth (x := n_push) (f := 202) (by decide +kernel) rfl) ?_
  exact c_push (c := .ref A.heap.length) g hl h
noncomputable def vars (N n : Nat) : List Cl := (List.range n).map fun i => .ref (N + i)
theorem vars_succ {N n : Nat} : vars N (n + 1) = vars N n ++ [.ref (N + n)] := by simp [vars, List.range_succ]
theorem vars_len {N n : Nat} : (vars N n).length = n := by simp [vars]
noncomputable def WRes (M : Mm) (S : SA) (A : Ar) (Y : SY) (y : Sy) (n : Nat) (i : Nat) (vals : List V) (M' : Mm) : Prop :=
  vals = [.ref S.st, .int (n : Nat), .int (A.heap.length : Nat)] ∧ G M' S (addH A (vars A.heap.length i)) Y y ∧ Keeps S.all M M'
theorem c_reserve {n : Nat} (g : G M S A Y y) (hl : A.heap.length + n < 490) (h : ∀ M', G M' S (addH A (vars A.heap.length n)) Y y → Keeps S.all M M' → Q (.int (A.heap.length : Nat)) M') : CallP C (k + 1) (.ref 216) [.ref S.st, .int (n : Nat)] M Q := by
  refine f_reserve (WRes M S A Y y n) ?_
  refine Eq.mpr g.s.a_heap ?_
  refine Eq.mpr (e_len g.s.heap (by simp; omega)) ?_
  simp only [List.length_map]
  refine Eq.mpr e_add ?_
  refine Eq.mpr g.s.a_max ?_
  refine Eq.mpr e_gtI ?_
  refine Eq.mpr e_br ⟨fun z => ?_, fun _ => ?_⟩
  · have := of_decide_eq_true z; omega
  refine ⟨by omega, by omega, ⟨rfl, ?_, Keeps.refl _ _⟩, ?_, ?_⟩
  · simpa [vars, addH] using g
  · rintro i v v1 v2 M' hi ⟨e, g', kk⟩
    simp only [List.cons.injEq, and_true] at e
    obtain ⟨rfl, rfl, rfl⟩ := e
    have hi : i < n := by simpa using hi
    refine Eq.mpr g'.s.a_heap ?_
    refine Eq.mpr (e_rapp g'.s.heap) ?_
    refine Eq.mpr e_add ?_
    refine Eq.mpr (e_append g'.s.heap (by simp [addH, vars_len]; omega)) ?_
    have g1 := g'.addH (l := [.ref (A.heap.length + i)]) (by simp [addH, vars_len]; omega)
    have e : Mine.addH (Mine.addH A (vars A.heap.length i)) [.ref (A.heap.length + i)] = Mine.addH A (vars A.heap.length (i + 1)) := by simp [addH, vars_succ]
    rw [e, List.map_append] at g1
    refine ⟨rfl, ?_, kk.trans kh⟩
    have e2 : ((A.heap.length : Nat) : Int) + (0 + (i : Int) * 1) = ((A.heap.length + i : Nat) : Int) := by omega
    rw [e2]
    exact g1
  · rintro v v1 v2 M' ⟨e, g', kk⟩
    simp only [List.cons.injEq, and_true] at e
    obtain ⟨rfl, rfl, rfl⟩ := e
    exact h _ (by simpa using g') kk
-- a block
noncomputable def blk (N f n : Nat) : List Cl := .fn f :: vars (N + 1) n
theorem vars_set {A : Ar} {f n : Nat} : (A.heap ++ vars A.heap.length (n + 1)).set A.heap.length (.fn f) = A.heap ++ blk A.heap.length f n := by
  have : vars A.heap.length (n + 1) = .ref A.heap.length :: vars (A.heap.length + 1) n := by
    unfold vars
    rw [List.range_succ_eq_map]
    simp [Nat.add_comm, Nat.add_left_comm, Nat.add_assoc]
  rw [this, List.set_append_right _ _ (Nat.le_refl _)]
  simp [blk]
theorem c_new_block {f n : Nat} (g : G M S A Y y) (hf : arOf y f = some n) (h0 : f ≠ 0) (hl : A.heap.length + n < 480) (h : ∀ M', G M' S (addH A (blk A.heap.length f n)) Y y → Keeps S.all M M' → Q (cv (.str A.heap.length)) M') :
    CallP C (k + 2) (.ref 321) [.ref S.st, .int (f : Nat)] M Q := by
  refine f_new_block ?_
  refine Eq.mpr e_eqI ?_
  refine Eq.mpr e_br ⟨fun z => ?_, fun _ => ?_⟩
  · have := of_decide_eq_true z; omega
  refine Eq.mpr (g.s.meth (x := n_reserve) (f := 216) (by decide +kernel) rfl) ?_
  refine Eq.mpr g.s.a_sym ?_
  rw [g.sy]
  refine Eq.mpr (g.ya.meth (x := n_arity) (f := 123) (by decide +kernel) rfl) ?_
  refine c_arity g.ya hf (ar_small g hf) ?_
  refine Eq.mpr e_add ?_
  rw [show (1 : Int) + (n : Int) = ((n + 1 : Nat) : Int) by omega]
  refine c_reserve g (by omega) fun M1 g1 k1 => ?_
  refine Eq.mpr g1.s.a_heap ?_
  refine Eq.mpr (e_set (n := A.heap.length) g1.s.heap (by simp [addH, vars_len]) (by omega)) ?_
  have g2 := g1.setHeap (l := (addH A (vars A.heap.length (n + 1))).heap.set A.heap.length (.fn f)) (by simp)
  rw [List.map_set] at g2
  have e : ({ addH A (vars A.heap.length (n + 1)) with heap := (addH A (vars A.heap.length (n + 1))).heap.set A.heap.length (.fn f) } : Ar) = addH A (blk A.heap.length f n) := by
    simp only [addH, vars_set]
  rw [e] at g2
  exact h _ g2 (k1.trans kh)
theorem c_is_unbound {j : Nat} {c : Cl} (g : G M S A Y y) (hc : A.stack[j]? = some c) (h : Q (.bool (decide (c = .srf j))) M) : CallP C (k + 1) (.ref 237) [.ref S.st, cv (.srf j)] M Q := by
  refine f_is_unbound ?_
  have := g.m.t
  have := (List.getElem?_eq_some_iff.mp hc).1
  refine Eq.mpr e_item0 ?_
  refine Eq.mpr e_eqI ?_
  refine Eq.mpr e_br ⟨fun z => by simp [Cl.tag] at z, fun _ => ?_⟩
  refine Eq.mpr e_item0 ?_
  refine Eq.mpr e_eqI ?_
  refine Eq.mpr e_br ⟨fun _ => ?_, fun z => by simp [Cl.tag] at z⟩
  refine Eq.mpr g.s.a_stack ?_
  refine Eq.mpr e_item1 ?_
  refine Eq.mpr (e_item (n := j) g.s.stack (X := cv c) (by simp [hc]) (by omega)) ?_
  exact Eq.mpr e_eq h
theorem c_stack_put {c : Cl} (g : G M S A Y y) (hl : A.stack.length < 400) (h : ∀ M', G M' S { A with stack := A.stack ++ [c] } Y y → Keeps S.all M M' → Q .none M') : CallP C (k + 1) (.ref 279) [.ref S.st, .int (A.stack.length : Nat), cv c] M Q := by
  refine f_stack_put (fun i vals M' => vals = [.ref S.t, .int (A.stack.length : Nat), cv c] ∧ M' = M) ?_
  refine Eq.mpr g.s.a_stack ?_
  refine Eq.mpr (e_len g.s.stack (by simp; omega)) ?_
  simp only [List.length_map]
  refine Eq.mpr e_ltI ?_
  refine Eq.mpr e_br ⟨fun z => by simp at z, fun _ => ?_⟩
  refine ⟨⟨0, by simp⟩, ?_⟩
  rintro i v v1 v2 M' ⟨e, rfl⟩
  simp only [List.cons.injEq, and_true] at e
  obtain ⟨rfl, rfl, rfl⟩ := e
  refine Eq.mpr (e_len g.s.stack (by simp; omega)) ?_
  simp only [List.length_map]
  refine Eq.mpr e_ltI ?_
  refine Eq.mpr e_br ⟨fun z => by simp at z, fun _ => ?_⟩
  refine Eq.mpr (e_rapp g.s.stack) ?_
  refine Eq.mpr (e_append g.s.stack (by simp; omega)) ?_
  have g1 := g.step (g.s.setStack (A.stack ++ [c])) (Keeps.upd (by simp [SA.all])) ⟨g.m.h, by simp; omega, g.m.r⟩
  rw [List.map_append] at g1
  exact h _ g1 (Keeps.upd (by simp [SA.all]))
theorem c_globalise' {i j : Nat} (g : G M S A Y y) (ht : A.trail.length < 50000) (hl : A.heap.length < 480) (hd : dr A (.srf i) = some (.srf j)) (h : ∀ M', G M' S (bindP (addH A [.ref A.heap.length]) (.srf j) (.ref A.heap.length)) Y y → Keeps S.all M M' → Q (cv (.ref A.heap.length)) M') :
    CallP C (k + 3) (.ref 258) [.ref S.st, cv (.srf i)] M Q := by
  refine f_globalise ?_
  refine Eq.mpr g.m_deref ?_
  refine c_deref g.s g.m (derF_der hd) ?_
  refine Eq.mpr e_item0 ?_
  refine Eq.mpr e_eqI ?_
  refine Eq.mpr e_br ⟨fun _ => ?_, fun z => by simp [Cl.tag] at z⟩
  refine Eq.mpr (g.s.meth (x := n_new_var) (f := 209) (by decide +kernel) rfl) ?_
  refine c_new_var g (by omega) fun M1 g1 k1 => ?_
  refine Eq.mpr (g1.s.meth (x := n_bind) (f := 244) (by decide +kernel) rfl) ?_
  have hv : varAt A (.srf j) := var_end hd rfl
  have hv : varAt (addH A [.ref A.heap.length]) (.srf j) := hv
  refine c_bind g1.s g1.m hv fun M2 hS k2 => ?_
  obtain ⟨b1, b2, b3⟩ := @bindP_len (addH A [.ref A.heap.length]) (.srf j) (.ref A.heap.length)
  have := g1.m.h; have := g1.m.t
  refine h M2 (g1.step hS k2 ⟨by omega, by omega, by have : (addH A [.ref A.heap.length]).trail.length = A.trail.length := rfl; omega⟩) (k1.trans k2)
end
end
end Mine

end
section
open PySem PySem.W PyProof.Rows PySem.Calls
set_option Elab.async false
set_option maxRecDepth 100000
set_option linter.all false
namespace Mine
noncomputable section
-- terms as the law writes them down
set_option genInjectivity false in
inductive Tm where
  | v (i : Nat)
  | a (n : Nat)
  | s (f : Nat) (l : List Tm)
noncomputable def kV : Str := u [118]
noncomputable def kA : Str := u [97]
noncomputable def kS : Str := u [115]
mutual
noncomputable def tv : Tm → V
  | .v i => .tup [.str kV, .int (i : Nat)]
  | .a n => .tup [.str kA, .int (n : Nat)]
  | .s f l => .tup [.str kS, .int (f : Nat), .tup (tvL l)]
noncomputable def tvL : List Tm → List V
  | [] => []
  | t :: l => tv t :: tvL l
end
mutual
noncomputable def sz : Tm → Nat
  | .v _ => 1
  | .a _ => 1
  | .s _ l => 2 + szL l
noncomputable def szL : List Tm → Nat
  | [] => 0
  | t :: l => sz t + szL l
end
mutual
noncomputable def al : Tm → Nat
  | .v _ => 0
  | .a _ => 0
  | .s _ l => 1 + l.length + alL l
noncomputable def alL : List Tm → Nat
  | [] => 0
  | t :: l => al t + alL l
end
mutual
noncomputable def tok (y : Sy) : Tm → Prop
  | .v i => i < 5
  | .a _ => True
  | .s f l => f ≠ 0 ∧ arOf y f = some l.length ∧ l.length ≤ 2 ∧ tokL y l
noncomputable def tokL (y : Sy) : List Tm → Prop
  | [] => True
  | t :: l => tok y t ∧ tokL y l
end
theorem tvL_map : ∀ l, tvL l = l.map tv
  | [] => rfl
  | t :: l => by show tv t :: tvL l = _; rw [tvL_map l]; rfl
theorem tokL_get {y : Sy} : ∀ {l : List Tm}, tokL y l → ∀ t ∈ l, tok y t
  | x :: l, h, t, hm => by
    have h : tok y x ∧ tokL y l := h
    rcases List.mem_cons.mp hm with rfl | hm
    · exact h.1
    · exact tokL_get h.2 t hm
def notFn : Cl → Prop
  | .fn _ => False
  | _ => True
-- a block stands at p
structure Blk (y : Sy) (A : Ar) (p : Nat) : Prop where
  ex : ∃ f n, A.heap[p]? = some (.fn f) ∧ arOf y f = some n ∧ n ≤ 2 ∧ p + n < A.heap.length ∧ ∀ k, k < n → ∃ d, A.heap[p + 1 + k]? = some d ∧ notFn d
-- a cell that stands for a term
def CellOk (y : Sy) (A : Ar) : Cl → Prop
  | .ref j => ∃ d, A.heap[j]? = some d ∧ notFn d
  | .str p => Blk y A p
  | .con _ => True
  | _ => False
def isS : Cl → Bool
  | .srf _ => true
  | _ => false
def Ke (y : Sy) (A A' : Ar) : Prop := ∀ c, CellOk y A c → CellOk y A' c
-- while a term is put
structure BW (y : Sy) (A : Ar) (tb : List (Int × Cl)) (pl : List Nat) : Prop where
  cell : ∀ (i : Nat) (c : Cl), A.heap[i]? = some c → match c with
    | .ref j => j ≤ i ∧ A.heap[j]? = some (.ref j)
    | .str p => i < p ∧ Blk y A p
    | .srf _ => False
    | _ => True
  tbl : ∀ (k : Int) (c : Cl), (k, c) ∈ tb → (∃ j, c = .ref j ∧ A.heap[j]? = some (.ref j) ∧ ∀ p ∈ pl, j < p) ∨ (∃ i, c = .srf i ∧ A.stack[i]? = some (.srf i))
  stk : ∀ (i : Nat) (c : Cl), A.stack[i]? = some c → c = .srf i ∨ ∃ j, c = .ref j ∧ A.heap[j]? = some (.ref j) ∧ j ∉ pl
  pend : ∀ p ∈ pl, A.heap[p]? = some (.ref p) ∧ ∀ i, A.heap[i]? = some (.ref p) → i = p
  up : pl.Pairwise (· < ·)
section
variable {y : Sy} {A : Ar} {tb : List (Int × Cl)} {pl : List Nat}
theorem get_set {l : List Cl} {p i : Nat} {c d : Cl} (h : (l.set p c)[i]? = some d) (hp : p < l.length) : (i = p ∧ d = c) ∨ (i ≠ p ∧ l[i]? = some d) := by
  by_cases e : i = p
  · subst e; rw [List.getElem?_set_self hp] at h; cases h; exact .inl ⟨rfl, rfl⟩
  · rw [List.getElem?_set_ne (Ne.symm e)] at h; exact .inr ⟨e, h⟩
-- a pending place is written
theorem BW.write {p : Nat} {c : Cl} (h : BW y A tb (p :: pl)) (hc : match c with
    | .ref j => j < p ∧ A.heap[j]? = some (.ref j)
    | .str q => p < q ∧ Blk y A q
    | .con _ => True
    | _ => False) : BW y { A with heap := A.heap.set p c } tb pl := by
  obtain ⟨hp, hu⟩ := h.pend p (.head _)
  have hlt := (List.getElem?_eq_some_iff.mp hp).1
  have nf : notFn c := by cases c <;> first | exact hc.elim | trivial
  have keepR : ∀ j : Nat, j ≠ p → A.heap[j]? = some (.ref j) → (A.heap.set p c)[j]? = some (.ref j) := fun j ne e => by rw [List.getElem?_set_ne (Ne.symm ne)]; exact e
  have keepB : ∀ q, Blk y A q → Blk y { A with heap := A.heap.set p c } q := fun q ⟨f, n, h1, h2, h3, h4, h5⟩ => by
    have nq : q ≠ p := by rintro rfl; rw [hp] at h1; cases h1
    refine ⟨f, n, by show (A.heap.set p c)[q]? = _; rw [List.getElem?_set_ne (Ne.symm nq)]; exact h1, h2, h3, by simpa using h4, fun k hk => ?_⟩
    obtain ⟨d, hd, nd⟩ := h5 k hk
    by_cases e : q + 1 + k = p
    · exact ⟨c, by show (A.heap.set p c)[q + 1 + k]? = _; rw [e, List.getElem?_set_self hlt], nf⟩
    · exact ⟨d, by show (A.heap.set p c)[q + 1 + k]? = _; rw [List.getElem?_set_ne (Ne.symm e)]; exact hd, nd⟩
  have hup := List.pairwise_cons.mp h.up
  refine ⟨fun i d hd => ?_, fun k d hd => ?_, fun i d hd => ?_, fun q hq => ?_, hup.2⟩
  · rcases get_set hd hlt with ⟨rfl, rfl⟩ | ⟨ne, hd2⟩
    · cases d with
      | ref j => exact ⟨Nat.le_of_lt hc.1, keepR j (Nat.ne_of_lt hc.1) hc.2⟩
      | str q => exact ⟨hc.1, keepB q hc.2⟩
      | con n => trivial
      | srf n => exact hc.elim
      | fn n => exact hc.elim
    · have := h.cell i d hd2
      cases d with
      | ref j =>
        have nj : j ≠ p := by rintro rfl; exact ne (hu i hd2)
        exact ⟨this.1, keepR j nj this.2⟩
      | str q => exact ⟨this.1, keepB q this.2⟩
      | con n => trivial
      | srf n => exact this.elim
      | fn n => trivial
  · rcases h.tbl k d hd with ⟨j, rfl, hj, hl⟩ | z
    · exact .inl ⟨j, rfl, keepR j (Nat.ne_of_lt (hl p (.head _))) hj, fun q hq => hl q (.tail _ hq)⟩
    · exact .inr z
  · rcases h.stk i d hd with z | ⟨j, rfl, hj, hl⟩
    · exact .inl z
    · exact .inr ⟨j, rfl, keepR j (fun e => hl (e ▸ .head _)) hj, fun hq => hl (.tail _ hq)⟩
  · obtain ⟨hq1, hq2⟩ := h.pend q (.tail _ hq)
    have nq : q ≠ p := Nat.ne_of_gt (hup.1 q hq)
    refine ⟨keepR q nq hq1, fun i hi => ?_⟩
    rcases get_set hi hlt with ⟨rfl, e⟩ | ⟨_, hi⟩
    · subst e
      have : q < i := hc.1
      exact absurd (hup.1 q hq) (by omega)
    · exact hq2 i hi
-- a pending place becomes a variable of the table
theorem BW.name {p : Nat} {k : Int} (h : BW y A tb (p :: pl)) (hs : ∀ (i : Nat) (c : Cl), A.stack[i]? = some c → c = .srf i ∨ ∃ j, c = .ref j ∧ A.heap[j]? = some (.ref j) ∧ j ∉ pl) : BW y A (tb ++ [(k, .ref p)]) pl := by
  have hup := List.pairwise_cons.mp h.up
  refine ⟨h.cell, fun k' c hm => ?_, hs, fun q hq => h.pend q (.tail _ hq), hup.2⟩
  rcases List.mem_append.mp hm with hm | hm
  · rcases h.tbl k' c hm with ⟨j, rfl, hj, hl⟩ | z
    · exact .inl ⟨j, rfl, hj, fun q hq => hl q (.tail _ hq)⟩
    · exact .inr z
  · simp only [List.mem_singleton, Prod.mk.injEq] at hm
    obtain ⟨rfl, rfl⟩ := hm
    exact .inl ⟨p, rfl, (h.pend p (.head _)).1, hup.1⟩
-- a block comes to be
theorem BW.block {f n : Nat} (h : BW y A tb pl) (hf : arOf y f = some n) (hn : n ≤ 2) : BW y (addH A (blk A.heap.length f n)) tb (pl ++ (List.range n).map (A.heap.length + 1 + ·)) ∧ Blk y (addH A (blk A.heap.length f n)) A.heap.length := by
  have old : ∀ (i : Nat) (c : Cl), A.heap[i]? = some c → (addH A (blk A.heap.length f n)).heap[i]? = some c := fun i c e => by
    show (A.heap ++ blk A.heap.length f n)[i]? = _
    rw [List.getElem?_append_left (List.getElem?_eq_some_iff.mp e).1]; exact e
  have new : ∀ k : Nat, k < n → (addH A (blk A.heap.length f n)).heap[A.heap.length + 1 + k]? = some (.ref (A.heap.length + 1 + k)) := fun k hk => by
    show (A.heap ++ blk A.heap.length f n)[A.heap.length + 1 + k]? = _
    rw [List.getElem?_append_right (by omega)]
    have : A.heap.length + 1 + k - A.heap.length = k + 1 := by omega
    rw [this]
    simp [blk, vars, hk]
  have hd : (addH A (blk A.heap.length f n)).heap[A.heap.length]? = some (.fn f) := by
    show (A.heap ++ blk A.heap.length f n)[A.heap.length]? = _
    rw [List.getElem?_append_right (Nat.le_refl _)]; simp [blk]
  have len : (addH A (blk A.heap.length f n)).heap.length = A.heap.length + 1 + n := by simp [addH, blk, vars_len]; omega
  have split : ∀ (i : Nat) (c : Cl), (addH A (blk A.heap.length f n)).heap[i]? = some c → A.heap[i]? = some c ∨ (i = A.heap.length ∧ c = .fn f) ∨ ∃ k, k < n ∧ i = A.heap.length + 1 + k ∧ c = .ref i := fun i c e => by
    have hi := (List.getElem?_eq_some_iff.mp e).1
    rw [len] at hi
    by_cases h1 : i < A.heap.length
    · left
      have e : (A.heap ++ blk A.heap.length f n)[i]? = some c := e
      rwa [List.getElem?_append_left h1] at e
    · by_cases h2 : i = A.heap.length
      · subst h2; rw [hd] at e; cases e; exact .inr (.inl ⟨rfl, rfl⟩)
      · obtain ⟨k, rfl⟩ : ∃ k, i = A.heap.length + 1 + k := ⟨i - (A.heap.length + 1), by omega⟩
        have hk : k < n := by omega
        rw [new k hk] at e; cases e
        exact .inr (.inr ⟨k, hk, rfl, rfl⟩)
  have keepB : ∀ q, Blk y A q → Blk y (addH A (blk A.heap.length f n)) q := fun q ⟨g, m, h1, h2, h3, h4, h5⟩ => ⟨g, m, old _ _ h1, h2, h3, by rw [len]; omega, fun k hk => let ⟨d, hd, nd⟩ := h5 k hk; ⟨d, old _ _ hd, nd⟩⟩
  refine ⟨⟨fun i c hc => ?_, fun k c hm => ?_, fun i c hc => ?_, fun p hp => ?_, ?_⟩, ⟨f, n, hd, hf, hn, by rw [len]; omega, fun k hk => ⟨_, new k hk, trivial⟩⟩⟩
  · rcases split i c hc with e | ⟨rfl, rfl⟩ | ⟨k, hk, hi, rfl⟩
    · have := h.cell i c e
      cases c with
      | ref j => exact ⟨this.1, old _ _ this.2⟩
      | str q => exact ⟨this.1, keepB q this.2⟩
      | con n => trivial
      | srf n => exact this.elim
      | fn n => trivial
    · trivial
    · exact ⟨Nat.le_refl _, hc⟩
  · rcases h.tbl k c hm with ⟨j, rfl, hj, hl⟩ | z
    · refine .inl ⟨j, rfl, old _ _ hj, fun p hp => ?_⟩
      rcases List.mem_append.mp hp with hp | hp
      · exact hl p hp
      · obtain ⟨k, _, rfl⟩ := List.mem_map.mp hp
        have := (List.getElem?_eq_some_iff.mp hj).1
        show j < A.heap.length + 1 + k
        omega
    · exact .inr z
  · rcases h.stk i c hc with z | ⟨j, rfl, hj, hl⟩
    · exact .inl z
    · refine .inr ⟨j, rfl, old _ _ hj, fun hp => ?_⟩
      rcases List.mem_append.mp hp with hp | hp
      · exact hl hp
      · obtain ⟨k, _, e⟩ := List.mem_map.mp hp
        have := (List.getElem?_eq_some_iff.mp hj).1
        have e : A.heap.length + 1 + k = j := e
        omega
  · rcases List.mem_append.mp hp with hp | hp
    · obtain ⟨h1, h2⟩ := h.pend p hp
      refine ⟨old _ _ h1, fun i hi => ?_⟩
      have := (List.getElem?_eq_some_iff.mp h1).1
      rcases split i _ hi with e | ⟨_, e⟩ | ⟨k, hk, hi', e⟩
      · exact h2 i e
      · cases e
      · simp only [Cl.ref.injEq] at e; omega
    · obtain ⟨k, hk, rfl⟩ := List.mem_map.mp hp
      have hk := List.mem_range.mp hk
      refine ⟨new k hk, fun i hi => ?_⟩
      rcases split i _ hi with e | ⟨_, e⟩ | ⟨k', hk', hi', e⟩
      · have := h.cell i _ e
        have := (List.getElem?_eq_some_iff.mp this.2).1
        omega
      · cases e
      · simp only [Cl.ref.injEq] at e; exact e.symm
  · refine List.pairwise_append.mpr ⟨h.up, ?_, fun a ha b hb => ?_⟩
    · rw [List.pairwise_map]
      refine List.Pairwise.imp ?_ List.pairwise_lt_range
      intro a b hab; omega
    · obtain ⟨k, _, rfl⟩ := List.mem_map.mp hb
      have := (List.getElem?_eq_some_iff.mp (h.pend a ha).1).1
      show a < A.heap.length + 1 + k
      omega
end
end
end Mine

end
section
open PySem PySem.W PyProof.Rows PySem.Calls
set_option Elab.async false
set_option maxRecDepth 100000
set_option linter.all false
namespace Mine
noncomputable section
abbrev Tb := List (Int × Cl)
noncomputable def vV (tb : Tb) : List (Int × V) := tb.map fun p => (p.1, cv p.2)
noncomputable def tbSet (tb : Tb) (k : Int) (c : Cl) : Tb := tb.map fun x => if x.1 = k then (x.1, c) else x
theorem vV_at {tb : Tb} {k : Int} {c : Cl} : (tb.map (·.1)).Nodup → (k, c) ∈ tb → kvAt (vV tb) k = some (cv c) := by
  induction tb with
  | nil => intro _ h; cases h
  | cons x t ih =>
    intro hn h
    rw [List.map_cons] at hn
    obtain ⟨h1, h2⟩ := List.nodup_cons.mp hn
    unfold kvAt vV
    simp only [List.map_cons, List.find?_cons]
    rcases List.mem_cons.mp h with rfl | h
    · simp
    · have : x.1 ≠ k := by rintro rfl; exact h1 (List.mem_map.mpr ⟨_, h, rfl⟩)
      simp only [this, decide_false]
      exact ih h2 h
theorem vV_inv {tb : Tb} {k : Int} {X : V} : kvAt (vV tb) k = some X → ∃ c, X = cv c ∧ (k, c) ∈ tb := by
  induction tb with
  | nil => intro h; cases h
  | cons x t ih =>
    intro h
    unfold kvAt vV at h
    simp only [List.map_cons, List.find?_cons] at h
    by_cases e : x.1 = k
    · simp only [e, decide_true, Option.map_some, Option.some.injEq] at h
      exact ⟨x.2, h.symm, by rw [← e]; exact .head _⟩
    · simp only [e, decide_false] at h
      obtain ⟨c, h1, h2⟩ := ih h
      exact ⟨c, h1, .tail _ h2⟩
theorem vV_put {tb : Tb} {k : Int} {c d : Cl} (h : (k, d) ∈ tb) : kvPut (vV tb) k (cv c) = vV (tbSet tb k c) := by
  unfold kvPut
  have : (vV tb).any (fun x => decide (x.1 = k)) = true := List.any_eq_true.mpr ⟨_, List.mem_map.mpr ⟨_, h, rfl⟩, by simp⟩
  rw [if_pos this]
  simp only [vV, tbSet, List.map_map]
  apply List.map_congr_left
  intro x _
  by_cases e : x.1 = k <;> simp [e]
theorem vV_add {tb : Tb} {k : Int} {c : Cl} (h : kvAt (vV tb) k = none) : kvPut (vV tb) k (cv c) = vV (tb ++ [(k, c)]) := by
  rw [kvAt_put_none h]; simp [vV]
theorem tbSet_keys {tb : Tb} {k : Int} {c : Cl} : (tbSet tb k c).map (·.1) = tb.map (·.1) := by
  simp only [tbSet, List.map_map]
  apply List.map_congr_left
  intro x _
  by_cases e : x.1 = k <;> simp [e]
theorem tbSet_mem {tb : Tb} {k k' : Int} {c d : Cl} (h : (k', d) ∈ tbSet tb k c) : (k' = k ∧ d = c) ∨ (k' ≠ k ∧ (k', d) ∈ tb) := by
  obtain ⟨x, hx, e⟩ := List.mem_map.mp h
  by_cases q : x.1 = k
  · rw [if_pos q] at e; cases e; exact .inl ⟨q, rfl⟩
  · rw [if_neg q] at e; subst e; exact .inr ⟨q, hx⟩
-- a stack variable becomes one of the heap
theorem BW.glob {y : Sy} {A : Ar} {tb : Tb} {j : Nat} (h : BW y A tb []) (hb : A.bb = 0) (hk : ∀ k i, (k, Cl.srf i) ∈ tb → k = (i : Int)) (hj : A.stack[j]? = some (.srf j)) :
    BW y (bindP (addH A [.ref A.heap.length]) (.srf j) (.ref A.heap.length)) (tbSet tb (j : Int) (.ref A.heap.length)) [] ∧ (bindP (addH A [.ref A.heap.length]) (.srf j) (.ref A.heap.length)).trail = A.trail := by
  have hlt := (List.getElem?_eq_some_iff.mp hj).1
  have e : bindP (addH A [.ref A.heap.length]) (.srf j) (.ref A.heap.length) = { A with heap := A.heap ++ [.ref A.heap.length], stack := A.stack.set j (.ref A.heap.length) } := by
    simp [bindP, addH, hb]
  rw [e]
  have old : ∀ (i : Nat) (c : Cl), A.heap[i]? = some c → (A.heap ++ [.ref A.heap.length])[i]? = some c := fun i c e => by
    rw [List.getElem?_append_left (List.getElem?_eq_some_iff.mp e).1]; exact e
  have new : (A.heap ++ [Cl.ref A.heap.length])[A.heap.length]? = some (.ref A.heap.length) := by simp
  refine ⟨⟨fun i c hc => ?_, fun k c hm => ?_, fun i c hc => ?_, (fun p hp => by cases hp), List.Pairwise.nil⟩, rfl⟩
  · have hc : (A.heap ++ [Cl.ref A.heap.length])[i]? = some c := hc
    by_cases hi : i < A.heap.length
    · rw [List.getElem?_append_left hi] at hc
      have := h.cell i c hc
      cases c with
      | ref j => exact ⟨this.1, old _ _ this.2⟩
      | str q =>
        obtain ⟨h1, f, n, a1, a2, a3, a4, a5⟩ := this
        exact ⟨h1, f, n, old _ _ a1, a2, a3, by simp; omega, fun k hk => let ⟨d, hd, nd⟩ := a5 k hk; ⟨d, old _ _ hd, nd⟩⟩
      | con n => trivial
      | srf n => exact this.elim
      | fn n => trivial
    · have : i = A.heap.length := by have := (List.getElem?_eq_some_iff.mp hc).1; simp at this; omega
      subst this
      rw [new] at hc; cases hc
      exact ⟨Nat.le_refl _, new⟩
  · rcases tbSet_mem hm with ⟨rfl, rfl⟩ | ⟨ne, hm⟩
    · exact .inl ⟨_, rfl, new, fun p hp => by cases hp⟩
    · rcases h.tbl k c hm with ⟨i, rfl, hi, _⟩ | ⟨i, rfl, hi⟩
      · exact .inl ⟨i, rfl, old _ _ hi, fun p hp => by cases hp⟩
      · have := hk k i hm
        have nij : i ≠ j := by rintro rfl; exact ne this
        exact .inr ⟨i, rfl, by show (A.stack.set j _)[i]? = _; rw [List.getElem?_set_ne (Ne.symm nij)]; exact hi⟩
  · rcases get_set hc hlt with ⟨rfl, rfl⟩ | ⟨_, hc⟩
    · exact .inr ⟨_, rfl, new, fun hp => by cases hp⟩
    · rcases h.stk i c hc with z | ⟨i', rfl, hi, _⟩
      · exact .inl z
      · exact .inr ⟨i', rfl, old _ _ hi, fun hp => by cases hp⟩
-- a new variable at the end
theorem BW.var {y : Sy} {A : Ar} {tb : Tb} {k : Int} (h : BW y A tb []) : BW y (addH A [.ref A.heap.length]) (tb ++ [(k, .ref A.heap.length)]) [] := by
  have old : ∀ (i : Nat) (c : Cl), A.heap[i]? = some c → (A.heap ++ [.ref A.heap.length])[i]? = some c := fun i c e => by
    rw [List.getElem?_append_left (List.getElem?_eq_some_iff.mp e).1]; exact e
  have new : (A.heap ++ [Cl.ref A.heap.length])[A.heap.length]? = some (.ref A.heap.length) := by simp
  refine ⟨fun i c hc => ?_, fun k c hm => ?_, fun i c hc => ?_, (fun p hp => by cases hp), List.Pairwise.nil⟩
  · have hc : (A.heap ++ [Cl.ref A.heap.length])[i]? = some c := hc
    by_cases hi : i < A.heap.length
    · rw [List.getElem?_append_left hi] at hc
      have := h.cell i c hc
      cases c with
      | ref j => exact ⟨this.1, old _ _ this.2⟩
      | str q =>
        obtain ⟨h1, f, n, a1, a2, a3, a4, a5⟩ := this
        exact ⟨h1, f, n, old _ _ a1, a2, a3, by simp [addH]; omega, fun k hk => let ⟨d, hd, nd⟩ := a5 k hk; ⟨d, old _ _ hd, nd⟩⟩
      | con n => trivial
      | srf n => exact this.elim
      | fn n => trivial
    · have : i = A.heap.length := by have := (List.getElem?_eq_some_iff.mp hc).1; simp at this; omega
      subst this
      rw [new] at hc; cases hc
      exact ⟨Nat.le_refl _, new⟩
  · rcases List.mem_append.mp hm with hm | hm
    · rcases h.tbl k c hm with ⟨i, rfl, hi, _⟩ | z
      · exact .inl ⟨i, rfl, old _ _ hi, fun p hp => by cases hp⟩
      · exact .inr z
    · simp only [List.mem_singleton, Prod.mk.injEq] at hm
      obtain ⟨rfl, rfl⟩ := hm
      exact .inl ⟨_, rfl, new, fun p hp => by cases hp⟩
  · rcases h.stk i c hc with z | ⟨i', rfl, hi, _⟩
    · exact .inl z
    · exact .inr ⟨i', rfl, old _ _ hi, fun hp => by cases hp⟩
end
end Mine

end
section
open PySem PySem.W PyProof.Rows PySem.Calls
set_option Elab.async false
set_option maxRecDepth 100000
set_option linter.all false
namespace Mine
noncomputable section
section
variable {C : Cx} {k : Nat} {M M' : Mm} {S : SA} {A : Ar} {Q : V → Mm → Prop} {Y : SY} {y : Sy}
theorem e_eqS {a b : Str} {Q : Bool → Prop} : cmpV M .Eq (.str a) (.str b) Q = Q (sq a b) := rfl
theorem e_k0 {t : Tm} {Q : V → Prop} : itemV M (tv t) (.int 0) Q = Q (.str (match t with | .v _ => kV | .a _ => kA | .s _ _ => kS)) := by
  cases t <;> exact e_tup (n := 0) rfl (by decide)
theorem e_v1 {i : Nat} {Q : V → Prop} : itemV M (tv (.v i)) (.int 1) Q = Q (.int (i : Nat)) := e_tup (n := 1) rfl (by decide)
theorem e_a1 {i : Nat} {Q : V → Prop} : itemV M (tv (.a i)) (.int 1) Q = Q (.int (i : Nat)) := e_tup (n := 1) rfl (by decide)
theorem e_s1 {f : Nat} {l : List Tm} {Q : V → Prop} : itemV M (tv (.s f l)) (.int 1) Q = Q (.int (f : Nat)) := e_tup (n := 1) rfl (by decide)
theorem e_s2 {f : Nat} {l : List Tm} {Q : V → Prop} : itemV M (tv (.s f l)) (.int 2) Q = Q (.tup (tvL l)) := e_tup (n := 2) rfl (by decide)
theorem e_tab {a : Addr} {tb : Tb} {k : Int} {c : Cl} {Q : V → Prop} (h : M a = some (.idic (vV tb))) (hn : (tb.map (·.1)).Nodup) (hc : (k, c) ∈ tb) : itemV M (.ref a) (.int k) Q = Q (cv c) := by
  apply propext
  show (∃ o, M a = some o ∧ _) ↔ _
  rw [h]
  constructor
  · rintro ⟨o, e, q⟩; cases e
    obtain ⟨Z, hz, q⟩ := q
    rw [vV_at hn hc] at hz; cases hz; exact q
  · intro q; exact ⟨_, rfl, cv c, vV_at hn hc, q⟩
theorem e_setTab {a : Addr} {tb : Tb} {k : Int} {X : V} {Q : Mm → Prop} (h : M a = some (.idic (vV tb))) (hl : tb.length < 1000) : setItemV M X (.ref a) (.int k) Q = Q (upd M a (.idic (kvPut (vV tb) k X))) := by
  apply propext
  show (∃ o, M a = some o ∧ _) ↔ _
  rw [h]
  constructor
  · rintro ⟨o, e, q⟩; cases e; exact q.2
  · intro q; exact ⟨_, rfl, by simpa [vV] using hl, q⟩
theorem e_inT {a : Addr} {tb : Tb} {k : Int} {Q : Bool → Prop} (h : M a = some (.idic (vV tb))) : cmpV M .In (.int k) (.ref a) Q = Q (kvAt (vV tb) k).isSome := by
  apply propext
  show (∃ o, M a = some o ∧ _) ↔ _
  rw [h]
  exact ⟨fun ⟨o, e, q⟩ => by cases e; exact q, fun q => ⟨_, rfl, q⟩⟩
theorem e_ninT {a : Addr} {tb : Tb} {k : Int} {Q : Bool → Prop} (h : M a = some (.idic (vV tb))) : cmpV M .NotIn (.int k) (.ref a) Q = Q (!(kvAt (vV tb) k).isSome) := by
  apply propext
  show (∃ o, M a = some o ∧ _) ↔ _
  rw [h]
  exact ⟨fun ⟨o, e, q⟩ => by cases e; exact q, fun q => ⟨_, rfl, q⟩⟩
-- the state while a term is put
structure PT (M : Mm) (S : SA) (Y : SY) (y : Sy) (ta : Addr) (A0 : Ar) (M' : Mm) (A : Ar) (tb : Tb) (pl : List Nat) : Prop where
  g : G M' S A Y y
  bw : BW y A tb pl
  tav : M' ta = some (.idic (vV tb))
  kk : Keeps (ta :: S.all) M M'
  tr : A.trail = A0.trail
  bb : A.bb = 0 ∧ A.hb = 0
  sl : A.stack.length = A0.stack.length
  nd : (tb.map (·.1)).Nodup
  sk : ∀ k i, (k, Cl.srf i) ∈ tb → k = (i : Int)
  ot : Out S Y ta
  ke : Ke y A0 A
theorem taOut {ta : Addr} (h : Out S Y ta) : ta ∉ S.all := fun hm => h.1 (by simp only [SA.all, SA.five, List.mem_cons, List.not_mem_nil, or_false] at hm ⊢; exact .inr hm)
-- the areas change
theorem PT.area {ta : Addr} {A0 A' : Ar} {tb : Tb} {pl pl' : List Nat} {M'' : Mm} (h : PT M S Y y ta A0 M' A tb pl) (g : G M'' S A' Y y) (bw : BW y A' tb pl') (kk : Keeps S.all M' M'') (tr : A'.trail = A.trail) (bb : A'.bb = A.bb ∧ A'.hb = A.hb) (sl : A'.stack.length = A.stack.length) (ke : Ke y A A') : PT M S Y y ta A0 M'' A' tb pl' :=
  ⟨g, bw, kk _ _ h.tav (taOut h.ot), h.kk.trans (kk.mono fun x hx => .tail _ hx), tr.trans h.tr, by rw [bb.1, bb.2]; exact h.bb, sl.trans h.sl, h.nd, h.sk, h.ot, fun c hc => ke c (h.ke c hc)⟩
-- the table changes
theorem PT.table {ta : Addr} {A0 : Ar} {tb tb' : Tb} {pl pl' : List Nat} (h : PT M S Y y ta A0 M' A tb pl) (bw : BW y A tb' pl') (nd : (tb'.map (·.1)).Nodup) (sk : ∀ k i, (k, Cl.srf i) ∈ tb' → k = (i : Int)) : PT M S Y y ta A0 (upd M' ta (.idic (vV tb'))) A tb' pl' :=
  ⟨h.g.keep (L := [ta]) (Keeps.upd (by simp)) (by simpa using h.ot), bw, upd_same .., h.kk.trans (Keeps.upd (by simp)), h.tr, h.bb, h.sl, nd, sk, h.ot, h.ke⟩
noncomputable def entV (x : Nat × List Tm) : V := .tup [.int (x.1 : Nat), .tup (tvL x.2)]
noncomputable def placesOf (x : Nat × List Tm) : List Nat := (List.range x.2.length).map (x.1 + ·)
noncomputable def flat (r : List (Nat × List Tm)) : List Nat := r.flatMap placesOf
noncomputable def muR (r : List (Nat × List Tm)) : Nat := (r.map fun x => 1 + szL x.2).sum
noncomputable def alR (r : List (Nat × List Tm)) : Nat := (r.map fun x => alL x.2).sum
theorem places_cons {p : Nat} {t : Tm} {l : List Tm} : placesOf (p, t :: l) = p :: placesOf (p + 1, l) := by
  unfold placesOf
  simp only [List.length_cons]
  rw [List.range_succ_eq_map]
  simp [Nat.add_comm, Nat.add_left_comm]
end
end
end Mine

end
section
open PySem PySem.W PyProof.Rows PySem.Calls
set_option Elab.async false
set_option maxRecDepth 100000
set_option linter.all false
namespace Mine
noncomputable section
section
variable {C : Cx} {k : Nat} {M M' M'' : Mm} {S : SA} {A A0 : Ar} {Q : V → Mm → Prop} {Y : SY} {y : Sy} {ta w : Addr} {tb : Tb} {pl : List Nat}
theorem Blk.write {p q : Nat} {c : Cl} (h : Blk y A q) (hp : A.heap[p]? = some (.ref p)) (nf : notFn c) : Blk y { A with heap := A.heap.set p c } q := by
  obtain ⟨f, n, h1, h2, h3, h4, h5⟩ := h
  have hlt := (List.getElem?_eq_some_iff.mp hp).1
  have nq : q ≠ p := by rintro rfl; rw [hp] at h1; cases h1
  refine ⟨f, n, by show (A.heap.set p c)[q]? = _; rw [List.getElem?_set_ne (Ne.symm nq)]; exact h1, h2, h3, by simpa using h4, fun k hk => ?_⟩
  obtain ⟨d, hd, nd⟩ := h5 k hk
  by_cases e : q + 1 + k = p
  · exact ⟨c, by show (A.heap.set p c)[q + 1 + k]? = _; rw [e, List.getElem?_set_self hlt], nf⟩
  · exact ⟨d, by show (A.heap.set p c)[q + 1 + k]? = _; rw [List.getElem?_set_ne (Ne.symm e)]; exact hd, nd⟩
theorem Blk.grow {q : Nat} {l : List Cl} (h : Blk y A q) : Blk y (addH A l) q := by
  obtain ⟨f, n, h1, h2, h3, h4, h5⟩ := h
  have old : ∀ (i : Nat) (c : Cl), A.heap[i]? = some c → (addH A l).heap[i]? = some c := fun i c e => by
    show (A.heap ++ l)[i]? = _
    rw [List.getElem?_append_left (List.getElem?_eq_some_iff.mp e).1]; exact e
  exact ⟨f, n, old _ _ h1, h2, h3, by simp [addH]; omega, fun k hk => let ⟨d, hd, nd⟩ := h5 k hk; ⟨d, old _ _ hd, nd⟩⟩
theorem Ke.write {p : Nat} {c : Cl} (hp : A.heap[p]? = some (.ref p)) (nf : notFn c) : Ke y A { A with heap := A.heap.set p c } := fun d hd => by
  have hlt := (List.getElem?_eq_some_iff.mp hp).1
  cases d with
  | ref j =>
    obtain ⟨e, h1, h2⟩ := hd
    by_cases q : p = j
    · exact ⟨c, by show (A.heap.set p c)[j]? = _; rw [← q, List.getElem?_set_self hlt], nf⟩
    · exact ⟨e, by show (A.heap.set p c)[j]? = _; rw [List.getElem?_set_ne q]; exact h1, h2⟩
  | str q => exact Blk.write hd hp nf
  | con n => trivial
  | _ => exact hd
theorem Ke.grow {l : List Cl} : Ke y A (addH A l) := fun d hd => by
  cases d with
  | ref j =>
    obtain ⟨e, h1, h2⟩ := hd
    exact ⟨e, by show (A.heap ++ l)[j]? = _; rw [List.getElem?_append_left (List.getElem?_eq_some_iff.mp h1).1]; exact h1, h2⟩
  | str q => exact Blk.grow hd
  | con n => trivial
  | _ => exact hd
theorem PT.wait {o : MO} (h : PT M S Y y ta A0 M' A tb pl) (hw : M w = none) (ho : Out S Y w) (ht : w ≠ ta) : PT M S Y y ta A0 (upd M' w o) A tb pl :=
  ⟨h.g.keep (L := [w]) (Keeps.upd (by simp)) (by simpa using ho), h.bw, by rw [upd_ne _ _ (Ne.symm ht)]; exact h.tav, (fun b x e n => by
    rw [upd_ne _ _ (fun q : b = w => by rw [q, hw] at e; cases e)]; exact h.kk b x e n), h.tr, h.bb, h.sl, h.nd, h.sk, h.ot, h.ke⟩
theorem PT.write {p : Nat} {c : Cl} (h : PT M S Y y ta A0 M' A tb (p :: pl)) (hc : match c with
    | .ref j => j < p ∧ A.heap[j]? = some (.ref j)
    | .str q => p < q ∧ Blk y A q
    | .con _ => True
    | _ => False) : PT M S Y y ta A0 (upd M' S.h (.list ((A.heap.set p c).map cv))) { A with heap := A.heap.set p c } tb pl :=
  h.area (h.g.setHeap (by simp)) (h.bw.write hc) kh rfl ⟨rfl, rfl⟩ rfl (Ke.write (h.bw.pend p (.head _)).1 (by cases c <;> first | exact hc.elim | trivial))
theorem kvAt_none {k : Int} (h : kvAt (vV tb) k = none) : k ∉ tb.map (·.1) := by
  induction tb with
  | nil => simp
  | cons x t ih =>
    unfold kvAt vV at h
    simp only [List.map_cons, List.find?_cons] at h
    by_cases e : x.1 = k
    · simp [e] at h
    · simp only [e, decide_false] at h
      intro hm
      rcases List.mem_cons.mp hm with q | q
      · exact e q.symm
      · exact ih h q
theorem nodup_add {k : Int} {c : Cl} (hn : (tb.map (·.1)).Nodup) (h : kvAt (vV tb) k = none) : ((tb ++ [(k, c)]).map (·.1)).Nodup := by
  rw [List.map_append, List.nodup_append]
  refine ⟨hn, by simp, fun a ha b hb => ?_⟩
  simp only [List.map_cons, List.map_nil, List.mem_singleton] at hb
  subst hb
  rintro rfl
  exact kvAt_none h ha
theorem PT.name {p : Nat} {k : Int} (h : PT M S Y y ta A0 M' A tb (p :: pl)) (hk : kvAt (vV tb) k = none) : PT M S Y y ta A0 (upd M' ta (.idic (vV (tb ++ [(k, .ref p)])))) A (tb ++ [(k, .ref p)]) pl := by
  refine h.table (h.bw.name fun i c e => ?_) (nodup_add h.nd hk) fun k' i hm => ?_
  · rcases h.bw.stk i c e with z | ⟨j, h1, h2, h3⟩
    · exact .inl z
    · exact .inr ⟨j, h1, h2, fun q => h3 (.tail _ q)⟩
  · rcases List.mem_append.mp hm with q | q
    · exact h.sk k' i q
    · simp at q
-- the state of the loops
structure PS (M : Mm) (S : SA) (Y : SY) (y : Sy) (ta w : Addr) (A0 : Ar) (made B T : Nat) (dn : List V) (hd : List Nat) (hm ha : Nat) (rest : List (Nat × List Tm)) (M' : Mm) (A : Ar) (tb : Tb) : Prop where
  pt : PT M S Y y ta A0 M' A tb (hd ++ flat rest)
  w : M' w = some (.list (dn ++ rest.map entV))
  tk : ∀ x ∈ rest, tokL y x.2
  hp : A.heap.length + ha + alR rest ≤ B
  ns : ∀ k i, (k, Cl.srf i) ∉ tb
  tl : tb.length + hm + muR rest ≤ T
  dl : dn.length + hm + muR rest ≤ 500
  bk : Blk y A made
noncomputable def WI (M : Mm) (S : SA) (Y : SY) (y : Sy) (ta w : Addr) (A0 : Ar) (made B T : Nat) (dn : List V) (p0 : Nat) (l : List Tm) (i : Nat) (vals : List V) (M' : Mm) : Prop :=
  ∃ rest A tb, vals = [.ref S.st, .ref ta, cv (.str made), .ref w, .int (dn.length : Nat), .int ((p0 + i : Nat) : Int)] ∧ PS M S Y y ta w A0 made B T dn (placesOf (p0 + i, l.drop i)) (szL (l.drop i)) (alL (l.drop i)) rest M' A tb
noncomputable def WO (M : Mm) (S : SA) (Y : SY) (y : Sy) (ta w : Addr) (A0 : Ar) (made B T : Nat) (m : Nat) (vals : List V) (M' : Mm) : Prop :=
  ∃ dn rest A tb, vals = [.ref S.st, .ref ta, cv (.str made), .ref w, .int (dn.length : Nat)] ∧ m + dn.length = 500 ∧ PS M S Y y ta w A0 made B T dn [] 0 0 rest M' A tb
theorem len_mu : ∀ rest : List (Nat × List Tm), rest.length ≤ muR rest
  | [] => Nat.zero_le _
  | x :: r => by have := len_mu r; simp only [muR, List.length_cons, List.map_cons, List.sum_cons] at this ⊢; omega
theorem drop_cons {l : List Tm} {i : Nat} {t : Tm} (h : l[i]? = some t) : l.drop i = t :: l.drop (i + 1) := by
  obtain ⟨hl, e⟩ := List.getElem?_eq_some_iff.mp h
  rw [List.drop_eq_getElem_cons hl, e]
end
end
end Mine

end
section
open PySem PySem.W PyProof.Rows PySem.Calls
set_option Elab.async false
set_option maxRecDepth 100000
set_option linter.all false
namespace Mine
noncomputable section
section
variable {C : Cx} {k : Nat} {M M' M'' : Mm} {S : SA} {A A0 : Ar} {Q : V → Mm → Prop} {Y : SY} {y : Sy} {ta w : Addr} {tb : Tb} {pl : List Nat}
theorem gat5 {a b c d e f : V} {K : List V → Prop} : gatherV [n_self, n_table, n_made, n_waiting, n_at] [(n_self, a), (n_table, b), (n_made, c), (n_waiting, d), (n_at, e), (n_place, f)] K = K [a, b, c, d, e] := rfl
theorem flat_snoc {x : Nat × List Tm} {r : List (Nat × List Tm)} : flat (r ++ [x]) = flat r ++ placesOf x := by simp [flat]
theorem alR_snoc {x : Nat × List Tm} {r : List (Nat × List Tm)} : alR (r ++ [x]) = alR r + alL x.2 := by simp [alR]
theorem muR_snoc {x : Nat × List Tm} {r : List (Nat × List Tm)} : muR (r ++ [x]) = muR r + (1 + szL x.2) := by simp [muR]
theorem kV_A : sq kV kV = true ∧ sq kA kV = false ∧ sq kS kV = false ∧ sq kA kA = true ∧ sq kS kA = false ∧ sq kS n_i = false := by decide +kernel
theorem setHeap' (g : G M S A Y y) {p : Nat} {c : Cl} (hp : p < A.heap.length) {Q : Mm → Prop} : setItemV M (cv c) (.ref S.h) (.int (p : Nat)) Q = Q (upd M S.h (.list ((A.heap.set p c).map cv))) := by
  have := g.m.h
  rw [e_set g.s.heap (by simpa using hp) (by omega), List.map_set]
-- one more place is done
theorem PS.next {made B T p ha hm : Nat} {dn : List V} {hd : List Nat} {rest : List (Nat × List Tm)} {tb' : Tb} {A' : Ar} (h : PS M S Y y ta w A0 made B T dn (p :: hd) (1 + hm) (0 + ha) rest M' A tb)
    (pt : PT M S Y y ta A0 M'' A' tb' (hd ++ flat rest)) (hw : M'' w = M' w) (hA : A'.heap.length = A.heap.length) (ns : ∀ k i, (k, Cl.srf i) ∉ tb') (tl : tb'.length ≤ tb.length + 1) (bk : Blk y A' made) : PS M S Y y ta w A0 made B T dn hd hm ha rest M'' A' tb' :=
  ⟨pt, by rw [hw]; exact h.w, h.tk, by have := h.hp; omega, ns, by have := h.tl; omega, by have := h.dl; omega, bk⟩
theorem c_putB {made B T m : Nat} {dn : List V} {p0 : Nat} {l : List Tm} {rest : List (Nat × List Tm)} {R : Fl → Loc → Mm → Prop} (hB : B ≤ 100) (hT : T ≤ 500) (wn : M w = none) (wt : w ≠ ta) (wo : Out S Y w) (hm : m + dn.length = 500)
    (h : PS M S Y y ta w A0 made B T dn [] 0 0 ((p0, l) :: rest) M' A tb) (hR : ∀ M₃ l', gatherV [n_self, n_table, n_made, n_waiting, n_at] l' (fun vals' => ∃ m', m' < m ∧ WO M S Y y ta w A0 made B T m' vals' M₃) → R .next l' M₃) :
    ExsP C ⟨k + 3, fScope (md 25 3), []⟩ (whB putW) (zipL [n_self, n_table, n_made, n_waiting, n_at] [.ref S.st, .ref ta, cv (.str made), .ref w, .int (dn.length : Nat)]) M' R := by
  have hdl := h.dl
  have htl := h.tl
  have hhp := h.hp
  have htk := h.tk (p0, l) (.head _)
  have m1 : muR ((p0, l) :: rest) = 1 + szL l + muR rest := by simp [muR]
  have a1 : alR ((p0, l) :: rest) = alL l + alR rest := by simp [alR]
  rw [m1] at hdl htl
  rw [a1] at hhp
  refine f_putB (WI M S Y y ta w A0 made B T (dn ++ [entV (p0, l)]) p0 l) ?_
  refine Eq.mpr (e_item h.w (X := entV (p0, l)) (by simp) (by omega)) ?_
  refine Eq.mpr e_pair ?_
  refine Eq.mpr e_aug ?_
  refine ⟨tvL l, rfl, ⟨rest, A, tb, by simp, ?_⟩, ?_, ?_⟩
  · exact ⟨h.pt, by rw [h.w]; simp, fun x hx => h.tk x (.tail _ hx), by simp only [List.drop_zero]; omega, h.ns, by simp only [List.drop_zero]; omega, by simp only [List.drop_zero, List.length_append, List.length_singleton]; omega, h.bk⟩
  · clear h
    rintro i Z v v1 v2 v3 v4 v5 Mx hZ _ ⟨rest, A, tb, e, h⟩
    simp only [List.cons.injEq, and_true] at e
    obtain ⟨rfl, rfl, rfl, rfl, rfl, rfl⟩ := e
    rw [tvL_map, List.getElem?_map] at hZ
    obtain ⟨t, ht, rfl⟩ := Option.map_eq_some_iff.mp hZ
    have hdr := drop_cons ht
    have htt := tokL_get htk t (List.mem_of_getElem? ht)
    obtain ⟨k1, k2, k3, k4, k5, k6⟩ := kV_A
    rw [hdr, places_cons] at h
    have hp : ∀ {A : Ar} {tb : Tb} {M' : Mm} {pl : List Nat}, PT M S Y y ta A0 M' A tb ((p0 + i) :: pl) → p0 + i < A.heap.length := fun x => (List.getElem?_eq_some_iff.mp (x.bw.pend _ (.head _)).1).1
    have nwh : w ≠ S.h := fun e => wo.1 (by simp [SA.five, e])
    have e5 : ((p0 + i : Nat) : Int) + 1 = ((p0 + (i + 1) : Nat) : Int) := by omega
    have hplt := hp h.pt
    have hdl := h.dl
    have htl := h.tl
    have hhp := h.hp
    have hg := h.pt.g
    have hh := hg.m.h
    have up : ∀ {o}, upd Mx S.h o w = Mx w := fun {o} => upd_ne _ _ nwh
    have fin : ∀ {M₂ A' tb' rest'}, PS M S Y y ta w A0 made B T (dn ++ [entV (p0, l)]) (placesOf (p0 + (i + 1), l.drop (i + 1))) (szL (l.drop (i + 1))) (alL (l.drop (i + 1))) rest' M₂ A' tb' →
        srcV (.tup (tvL l)) (tvL l) M₂ ∧ WI M S Y y ta w A0 made B T (dn ++ [entV (p0, l)]) p0 l (i + 1) [.ref S.st, .ref ta, cv (.str made), .ref w, .int ((dn ++ [entV (p0, l)]).length : Nat), .int (((p0 + i : Nat) : Int) + 1)] M₂ := fun z =>
      ⟨rfl, _, _, _, by rw [e5], z⟩
    refine Eq.mpr e_k0 ?_
    refine Eq.mpr e_eqS ?_
    cases t with
    | v j =>
      refine Eq.mpr e_br ⟨fun _ => ?_, fun z => by rw [show sq kV (u [118]) = true from k1] at z; cases z⟩
      refine Eq.mpr e_v1 ?_
      refine Eq.mpr (e_inT h.pt.tav) ?_
      cases e : kvAt (vV tb) (j : Nat) with
      | some X =>
        obtain ⟨c, rfl, hc⟩ := vV_inv e
        refine Eq.mpr e_br ⟨fun _ => ?_, fun z => by cases z⟩
        refine Eq.mpr e_v1 ?_
        refine Eq.mpr (e_tab h.pt.tav h.pt.nd hc) ?_
        refine Eq.mpr hg.s.a_heap ?_
        refine Eq.mpr (setHeap' hg hplt) ?_
        refine Eq.mpr e_aug ?_
        obtain ⟨j', rfl, hj, hlt⟩ : ∃ j', c = .ref j' ∧ A.heap[j']? = some (.ref j') ∧ ∀ p ∈ (p0 + i) :: placesOf (p0 + i + 1, l.drop (i + 1)) ++ flat rest, j' < p := by
          rcases h.pt.bw.tbl _ _ hc with z | ⟨i', rfl, _⟩
          · exact z
          · exact absurd hc (h.ns _ _)
        have pt := PT.write (c := .ref j') h.pt ⟨hlt _ (.head _), hj⟩
        exact fin (h.next pt up (by simp) h.ns (Nat.le_succ _) (h.bk.write (h.pt.bw.pend _ (.head _)).1 trivial))
      | none =>
        refine Eq.mpr e_br ⟨fun z => (by cases z), fun _ => ?_⟩
        refine Eq.mpr e_v1 ?_
        refine Eq.mpr (e_setTab (X := cv (.ref (p0 + i))) h.pt.tav (by omega)) ?_
        refine Eq.mpr e_aug ?_
        rw [vV_add e]
        refine fin (h.next (h.pt.name e) (upd_ne _ _ wt) rfl (fun k' i' hk => ?_) (by simp) h.bk)
        rcases List.mem_append.mp hk with q | q
        · exact h.ns _ _ q
        · simp at q
    | a n =>
      refine Eq.mpr e_br ⟨fun z => (by rw [show sq kA (u [118]) = false from k2] at z; cases z), fun _ => ?_⟩
      refine Eq.mpr e_eqS ?_
      refine Eq.mpr e_br ⟨fun _ => ?_, fun z => by rw [show sq kA (u [97]) = true from k4] at z; cases z⟩
      refine Eq.mpr e_a1 ?_
      refine Eq.mpr hg.s.a_heap ?_
      refine Eq.mpr (setHeap' (c := .con n) hg hplt) ?_
      refine Eq.mpr e_aug ?_
      have pt := PT.write (c := .con n) h.pt trivial
      exact fin (h.next pt up (by simp) h.ns (Nat.le_succ _) (h.bk.write (h.pt.bw.pend _ (.head _)).1 trivial))
    | s f l' =>
      obtain ⟨f0, hf, hf2, htl'⟩ : f ≠ 0 ∧ arOf y f = some l'.length ∧ l'.length ≤ 2 ∧ tokL y l' := htt
      have es : szL (.s f l' :: l.drop (i + 1)) = (2 + szL l') + szL (l.drop (i + 1)) := rfl
      have ea : alL (.s f l' :: l.drop (i + 1)) = (1 + l'.length + alL l') + alL (l.drop (i + 1)) := rfl
      rw [es] at htl hdl
      rw [ea] at hhp
      refine Eq.mpr e_br ⟨fun z => (by rw [show sq kS (u [118]) = false from k3] at z; cases z), fun _ => ?_⟩
      refine Eq.mpr e_eqS ?_
      refine Eq.mpr e_br ⟨fun z => (by rw [show sq kS (u [97]) = false from k5] at z; cases z), fun _ => ?_⟩
      refine Eq.mpr e_eqS ?_
      refine Eq.mpr e_br ⟨fun z => (by rw [k6] at z; cases z), fun _ => ?_⟩
      refine Eq.mpr (hg.s.meth (x := n_new_block) (f := 321) (by decide +kernel) rfl) ?_
      refine Eq.mpr e_s1 ?_
      refine c_new_block hg hf f0 (by omega) fun M1 g1 k1 => ?_
      obtain ⟨bw1, bk1⟩ := h.pt.bw.block hf hf2
      have pt1 := h.pt.area g1 bw1 k1 rfl ⟨rfl, rfl⟩ rfl Ke.grow
      rw [List.cons_append, List.cons_append] at pt1
      refine Eq.mpr g1.s.a_heap ?_
      refine Eq.mpr (setHeap' (c := .str A.heap.length) g1 (hp pt1)) ?_
      have pt2 := PT.write (c := .str A.heap.length) pt1 ⟨hplt, bk1⟩
      have w1 : upd M1 S.h (.list (((addH A (blk A.heap.length f l'.length)).heap.set (p0 + i) (.str A.heap.length)).map cv)) w = some (.list ((dn ++ [entV (p0, l)]) ++ rest.map entV)) := by
        rw [upd_ne _ _ nwh, k1 _ _ h.w (fun z => wo.1 (by simp only [SA.all, SA.five, List.mem_cons, List.not_mem_nil, or_false] at z ⊢; exact .inr z))]
      have pend1 := (pt1.bw.pend _ (.head _)).1
      clear bw1
      revert pt2 w1
      generalize upd M1 S.h (.list (((addH A (blk A.heap.length f l'.length)).heap.set (p0 + i) (.str A.heap.length)).map cv)) = M2
      intro pt2 w1
      refine Eq.mpr (e_rapp w1) ?_
      refine Eq.mpr (pt2.g.s.meth (x := n_base) (f := 307) (by decide +kernel) rfl) ?_
      refine c_base ?_
      refine Eq.mpr e_s2 ?_
      refine Eq.mpr (e_append w1 (by have := len_mu rest; simp only [List.length_append, List.length_map, List.length_singleton] at hdl ⊢; omega)) ?_
      refine Eq.mpr e_aug ?_
      have hlen : ({ addH A (blk A.heap.length f l'.length) with heap := (addH A (blk A.heap.length f l'.length)).heap.set (p0 + i) (.str A.heap.length) } : Ar).heap.length = A.heap.length + 1 + l'.length := by
        simp [addH, blk, vars_len]; omega
      refine fin (rest' := rest ++ [(A.heap.length + 1, l')]) (A' := { addH A (blk A.heap.length f l'.length) with heap := (addH A (blk A.heap.length f l'.length)).heap.set (p0 + i) (.str A.heap.length) }) ⟨?_, ?_, fun x hx => ?_, ?_, h.ns, ?_, ?_, ?_⟩
      · rw [flat_snoc, ← List.append_assoc (placesOf _) (flat rest)]
        exact pt2.wait wn wo wt
      · rw [upd_same]; simp [entV]
      · rcases List.mem_append.mp hx with q | q
        · exact h.tk x q
        · rw [List.mem_singleton.mp q]; exact htl'
      · rw [hlen, alR_snoc]; show _ + 1 + _ + _ + (_ + alL l') ≤ B; omega
      · rw [muR_snoc]; show _ + _ + (_ + (1 + szL l')) ≤ T; omega
      · rw [muR_snoc]; show _ + _ + (_ + (1 + szL l')) ≤ 500; omega
      · exact (h.bk.grow).write pend1 trivial
  · rintro v v1 v2 v3 v4 v5 Mx _ ⟨rest, A, tb, e, h⟩
    simp only [List.cons.injEq, and_true] at e
    obtain ⟨rfl, rfl, rfl, rfl, rfl, rfl⟩ := e
    refine hR _ _ (Eq.mpr gat5 ⟨m - 1, by omega, _, rest, A, tb, rfl, ?_, ?_⟩)
    · simp only [List.length_append, List.length_singleton]; omega
    · have e : l.drop (tvL l).length = [] := by rw [tvL_map]; simp
      rw [e] at h
      exact h
end
end
end Mine

end
section
open PySem PySem.W PyProof.Rows PySem.Calls
set_option Elab.async false
set_option maxRecDepth 100000
set_option linter.all false
namespace Mine
noncomputable section
noncomputable def cnt : Tb → Nat
  | [] => 0
  | x :: r => (if isS x.2 = true then 1 else 0) + cnt r
theorem cnt_le {k : Int} {n : Nat} : ∀ tb : Tb, cnt (tbSet tb k (.ref n)) ≤ cnt tb
  | [] => Nat.le_refl _
  | (x, c) :: tb => by
    have ih := cnt_le (k := k) (n := n) tb
    show (if isS (if x = k then (x, Cl.ref n) else (x, c)).2 = true then 1 else 0) + cnt (tbSet tb k (.ref n)) ≤ (if isS c = true then 1 else 0) + cnt tb
    by_cases e : x = k
    · rw [if_pos e]; show 0 + _ ≤ _; omega
    · rw [if_neg e]; show (if isS c = true then 1 else 0) + _ ≤ _; omega
theorem cnt_lt {k : Int} {n j : Nat} : ∀ {tb : Tb}, (k, .srf j) ∈ tb → cnt (tbSet tb k (.ref n)) + 1 ≤ cnt tb
  | (x, c) :: tb, h => by
    show (if isS (if x = k then (x, Cl.ref n) else (x, c)).2 = true then 1 else 0) + cnt (tbSet tb k (.ref n)) + 1 ≤ (if isS c = true then 1 else 0) + cnt tb
    have le := cnt_le (k := k) (n := n) tb
    rcases List.mem_cons.mp h with e | h
    · cases e
      rw [if_pos rfl]; show 0 + _ + 1 ≤ 1 + _; omega
    · have ih := cnt_lt (n := n) h
      by_cases e : x = k
      · rw [if_pos e]; show 0 + _ + 1 ≤ _; omega
      · rw [if_neg e]; show (if isS c = true then 1 else 0) + _ + 1 ≤ _; omega
section
variable {C : Cx} {k : Nat} {M M' M'' : Mm} {S : SA} {A A0 A' : Ar} {Q : V → Mm → Prop} {Y : SY} {y : Sy} {ta w : Addr} {tb tb' : Tb} {pl pl' : List Nat}
-- areas and table change
theorem PT.both (h : PT M S Y y ta A0 M' A tb pl) (g : G M'' S A' Y y) (kk : Keeps S.all M' M'') (bw : BW y A' tb' pl') (tr : A'.trail = A.trail) (bb : A'.bb = A.bb ∧ A'.hb = A.hb) (sl : A'.stack.length = A.stack.length) (ke : Ke y A A')
    (nd : (tb'.map (·.1)).Nodup) (sk : ∀ k i, (k, Cl.srf i) ∈ tb' → k = (i : Int)) : PT M S Y y ta A0 (upd M'' ta (.idic (vV tb'))) A' tb' pl' :=
  ⟨g.keep (L := [ta]) (Keeps.upd (by simp)) (by simpa using h.ot), bw, upd_same .., (h.kk.trans (kk.mono fun x hx => .tail _ hx)).trans (Keeps.upd (by simp)), tr.trans h.tr, by rw [bb.1, bb.2]; exact h.bb, sl.trans h.sl, nd, sk, h.ot, fun c hc => ke c (h.ke c hc)⟩
noncomputable def WT (M : Mm) (S : SA) (Y : SY) (y : Sy) (ta : Addr) (A0 : Ar) (t : Tm) (N : Nat) (keys : List Int) (i : Nat) (vals : List V) (M' : Mm) : Prop :=
  vals = [.ref S.st, tv t, .ref ta] ∧ ∃ A tb, PT M S Y y ta A0 M' A tb [] ∧ tb.map (·.1) = keys ∧ (∀ k j, (k, Cl.srf j) ∈ tb → k ∈ keys.drop i) ∧ A.heap.length + cnt tb ≤ N
theorem gatW {a b c d e f g : V} {K : List V → Prop} : gatherV [n_self, n_table, n_made, n_waiting, n_at] [(n_self, a), (n_term, b), (n_table, c), (n_kind, d), (n_made, e), (n_waiting, f), (n_at, g)] K = K [a, c, e, f, g] := rfl
theorem not_all (h : Out S Y w) : w ∉ S.all := fun z => h.1 (by simp only [SA.all, SA.five, List.mem_cons, List.not_mem_nil, or_false] at z ⊢; exact .inr z)
theorem keys_get {keys : List Int} {i : Nat} {Z : V} (h : (keys.map fun x => V.int x)[i]? = some Z) : ∃ x, Z = .int x ∧ keys.drop i = x :: keys.drop (i + 1) := by
  rw [List.getElem?_map] at h
  obtain ⟨x, hx, rfl⟩ := Option.map_eq_some_iff.mp h
  obtain ⟨hl, e⟩ := List.getElem?_eq_some_iff.mp hx
  exact ⟨x, rfl, by rw [List.drop_eq_getElem_cons hl, e]⟩
theorem derF_stop' {n : Nat} {c : Cl} (h : look A c = some c) : derF A (n + 1) c = some c := by
  rw [derF_succ]; rw [h]; exact if_pos rfl
theorem PT.none (h : PT M S Y y ta A0 M' A tb pl) (hw : M' w = none) : M w = none ∧ w ≠ ta ∧ Out S Y w := by
  have o := h.g.out hw
  have wt : w ≠ ta := by rintro rfl; rw [h.tav] at hw; cases hw
  refine ⟨?_, wt, o⟩
  cases e : M w with
  | none => rfl
  | some x => rw [h.kk _ _ e (fun z => (List.mem_cons.mp z).elim wt (not_all o))] at hw; cases hw
-- a variable of the table
theorem PT.var (h : PT M S Y y ta A0 M' A tb []) (ns : ∀ k i, (k, Cl.srf i) ∉ tb) {k : Int} {c : Cl} (hc : (k, c) ∈ tb) : CellOk y A c := by
  rcases h.bw.tbl _ _ hc with ⟨j, rfl, hj, _⟩ | ⟨i, rfl, _⟩
  · exact ⟨_, hj, trivial⟩
  · exact absurd hc (ns _ _)
theorem c_putA {t : Tm} {B T : Nat} {R : Fl → Loc → Mm → Prop} (h : PT M S Y y ta A M A tb []) (ht : tok y t) (htr : A.trail = []) (hB : A.heap.length + cnt tb + al t + 1 ≤ B) (hB' : B ≤ 100) (hT : tb.length + sz t ≤ T) (hT' : T ≤ 500)
    (hret : ∀ c l M' A' tb', PT M S Y y ta A M' A' tb' [] → CellOk y A' c → (∀ k i, (k, Cl.srf i) ∉ tb') → A'.heap.length ≤ B → tb'.length ≤ T → R (.ret (cv c)) l M')
    (hnext : ∀ made w M' A' tb' p0 l Z, M w = none → w ≠ ta → Out S Y w → PS M S Y y ta w A made B T [] [] 0 0 [(p0, l)] M' A' tb' → R .next [(n_self, .ref S.st), (n_term, tv t), (n_table, .ref ta), (n_kind, Z), (n_made, cv (.str made)), (n_waiting, .ref w), (n_at, .int 0)] M') :
    ExsP C ⟨k + 3, fScope (md 25 3), []⟩ (List.take 8 (List.drop 0 (fBody (md 25 3)))) (zipL [n_self, n_term, n_table] [.ref S.st, tv t, .ref ta]) M R := by
  refine f_putA (WT M S Y y ta A t (A.heap.length + cnt tb) (tb.map (·.1))) ?_
  refine ⟨_, h.tav, by simp only [vV, List.length_map]; omega, fun b hb => ?_⟩
  have bt : b ≠ ta := by rintro rfl; rw [h.tav] at hb; cases hb
  have bo := h.g.out hb
  have items : (vV tb).map (fun p => V.int p.1) = (tb.map (·.1)).map fun x => V.int x := by simp [vV]
  rw [items]
  refine ⟨_, upd_same .., ⟨rfl, A, tb, h.wait hb bo bt, rfl, fun k j hk => by simp only [List.drop_zero]; exact List.mem_map.mpr ⟨_, hk, rfl⟩, Nat.le_refl _⟩, ?_, ?_⟩
  · have hlen : tb.length ≤ 500 := by omega
    revert hB
    generalize hk : tb.map (·.1) = keys
    generalize A.heap.length + cnt tb = N
    intro hB
    clear items h hT
    rintro i Z v v1 v2 Mx hZ hs ⟨e, A1, tb1, p, hkeys, hsr, hN⟩
    simp only [List.cons.injEq, and_true] at e
    obtain ⟨rfl, rfl, rfl⟩ := e
    obtain ⟨key, rfl, hdr⟩ := keys_get hZ
    have hmem : key ∈ tb1.map (·.1) := by rw [hkeys]; exact List.mem_of_mem_drop (i := i) (by rw [hdr]; exact .head _)
    obtain ⟨⟨key, c⟩, hc, rfl⟩ := List.mem_map.mp hmem
    have hl1 : tb1.length ≤ 500 := by have := congrArg List.length (hkeys.trans hk.symm); simp only [List.length_map] at this; omega
    refine Eq.mpr (e_tab p.tav p.nd hc) ?_
    refine Eq.mpr e_item0 ?_
    refine Eq.mpr e_eqI ?_
    refine Eq.mpr e_br ⟨fun z => ?_, fun z => ?_⟩
    · obtain ⟨j, rfl⟩ : ∃ j, c = .srf j := by cases c <;> simp [Cl.tag] at z; exact ⟨_, rfl⟩
      have kj := p.sk _ _ hc
      subst kj
      obtain ⟨j', hj'⟩ | hj : (∃ j', Cl.srf j = .ref j') ∨ A1.stack[j]? = some (.srf j) := by
        rcases p.bw.tbl _ _ hc with ⟨j', e, _⟩ | ⟨i', e, hi'⟩
        · exact .inl ⟨j', e⟩
        · cases e; exact .inr hi'
      · cases hj'
      refine Eq.mpr (p.g.s.meth (x := n_globalise) (f := 258) (by decide +kernel) rfl) ?_
      refine Eq.mpr (e_tab p.tav p.nd hc) ?_
      have hcl := cnt_lt (n := A1.heap.length) hc
      refine c_globalise' (j := j) p.g (by rw [p.tr, htr]; simp) (by omega) (derF_stop' (n := 199) (show look A1 (.srf j) = _ from hj)) fun M1 g1 k1 => ?_
      obtain ⟨bw1, tr1⟩ := p.bw.glob p.bb.1 p.sk hj
      refine Eq.mpr (e_setTab (X := cv (.ref A1.heap.length)) (k1 _ _ p.tav (taOut p.ot)) (by omega)) ?_
      rw [vV_put hc]
      obtain ⟨b1, b2, _⟩ := @bindP_len (addH A1 [.ref A1.heap.length]) (.srf j) (.ref A1.heap.length)
      refine ⟨?_, rfl, _, tbSet tb1 (j : Int) (.ref A1.heap.length), p.both g1 k1 bw1 tr1 ⟨rfl, rfl⟩ b2 (fun d hd => ?_) (by rw [tbSet_keys]; exact p.nd) (fun k' i' hm => ?_), by rw [tbSet_keys]; exact hkeys, fun k' i' hm => ?_, ?_⟩
      · show upd M1 ta _ b = _
        rw [upd_ne _ _ bt]
        exact k1 _ _ hs (not_all bo)
      · have := Ke.grow (l := [.ref A1.heap.length]) d hd
        cases d with
        | str q => exact ⟨this.ex⟩
        | _ => exact this
      · rcases tbSet_mem hm with ⟨_, e⟩ | ⟨_, hm⟩
        · cases e
        · exact p.sk _ _ hm
      · rcases tbSet_mem hm with ⟨_, e⟩ | ⟨ne, hm⟩
        · cases e
        · have := hsr _ _ hm
          rw [hdr] at this
          exact (List.mem_cons.mp this).resolve_left ne
      · rw [b1]; simp only [addH, List.length_append, List.length_singleton]; omega
    · refine ⟨hs, rfl, A1, tb1, p, hkeys, fun k' i' hm => ?_, hN⟩
      have := hsr _ _ hm
      rw [hdr] at this
      rcases List.mem_cons.mp this with e | e
      · subst e
        have := vV_at p.nd hm
        rw [vV_at p.nd hc, Option.some.injEq] at this
        have := cv_inj this
        subst this
        simp [Cl.tag] at z
      · exact e
  · rintro v v1 v2 Mx hs ⟨e, A1, tb1, p, hkeys, hsr, hN⟩
    simp only [List.cons.injEq, and_true] at e
    obtain ⟨rfl, rfl, rfl⟩ := e
    have ns : ∀ k i, (k, Cl.srf i) ∉ tb1 := fun k i hm => by
      have := hsr _ _ hm
      rw [List.drop_of_length_le (by simp)] at this
      cases this
    have hl1 : tb1.length = tb.length := by have := congrArg List.length hkeys; simpa using this
    clear hsr hs
    obtain ⟨k1, k2, k3, k4, k5, k6⟩ := kV_A
    have ha1 : A1.heap.length ≤ A.heap.length + cnt tb := by omega
    refine Eq.mpr e_k0 ?_
    refine Eq.mpr e_eqS ?_
    cases t with
    | v j =>
      refine Eq.mpr e_br ⟨fun _ => ?_, fun z => by rw [show sq kV (u [118]) = true from k1] at z; cases z⟩
      have hsz : tb.length + 1 ≤ T := hT
      refine Eq.mpr e_v1 ?_
      refine Eq.mpr (e_ninT p.tav) ?_
      cases e : kvAt (vV tb1) (j : Nat) with
      | none =>
        refine Eq.mpr e_br ⟨fun _ => ?_, fun z => by cases z⟩
        refine Eq.mpr (p.g.s.meth (x := n_new_var) (f := 209) (by decide +kernel) rfl) ?_
        refine c_new_var p.g (by omega) fun M1 g1 kk1 => ?_
        refine Eq.mpr e_v1 ?_
        refine Eq.mpr (e_setTab (X := cv (.ref A1.heap.length)) (kk1 _ _ p.tav (taOut p.ot)) (by omega)) ?_
        rw [vV_add e]
        refine Eq.mpr e_v1 ?_
        have ns' : ∀ k i, (k, Cl.srf i) ∉ tb1 ++ [((j : Int), Cl.ref A1.heap.length)] := fun k i hm => by
          rcases List.mem_append.mp hm with q | q
          · exact ns _ _ q
          · simp at q
        have p2 := p.both (tb' := tb1 ++ [((j : Int), .ref A1.heap.length)]) g1 kk1 (p.bw.var (k := (j : Int))) rfl ⟨rfl, rfl⟩ rfl Ke.grow (nodup_add p.nd e) fun k' i' hm => absurd hm (ns' _ _)
        refine Eq.mpr (e_tab (c := .ref A1.heap.length) p2.tav p2.nd (List.mem_append_right _ (.head _))) ?_
        refine hret _ _ _ _ _ p2 ⟨.ref A1.heap.length, by simp [addH], trivial⟩ ns' ?_ ?_
        · simp only [addH, List.length_append, List.length_singleton]; omega
        · simp only [List.length_append, List.length_singleton]; omega
      | some X =>
        obtain ⟨c, rfl, hc⟩ := vV_inv e
        refine Eq.mpr e_br ⟨fun z => (by cases z), fun _ => ?_⟩
        refine Eq.mpr e_v1 ?_
        refine Eq.mpr (e_tab p.tav p.nd hc) ?_
        exact hret _ _ _ _ _ p (p.var ns hc) ns (by omega) (by omega)
    | a n =>
      refine Eq.mpr e_br ⟨fun z => (by rw [show sq kA (u [118]) = false from k2] at z; cases z), fun _ => ?_⟩
      refine Eq.mpr e_eqS ?_
      refine Eq.mpr e_br ⟨fun _ => ?_, fun z => by rw [show sq kA (u [97]) = true from k4] at z; cases z⟩
      refine Eq.mpr e_a1 ?_
      exact hret (.con n) _ _ _ _ p trivial ns (by omega) (by omega)
    | s f l =>
      obtain ⟨f0, hf, hf2, htl⟩ : f ≠ 0 ∧ arOf y f = some l.length ∧ l.length ≤ 2 ∧ tokL y l := ht
      have es : sz (.s f l) = 2 + szL l := rfl
      have ea : al (.s f l) = 1 + l.length + alL l := rfl
      rw [es] at hT
      rw [ea] at hB
      refine Eq.mpr e_br ⟨fun z => (by rw [show sq kS (u [118]) = false from k3] at z; cases z), fun _ => ?_⟩
      refine Eq.mpr e_eqS ?_
      refine Eq.mpr e_br ⟨fun z => (by rw [show sq kS (u [97]) = false from k5] at z; cases z), fun _ => ?_⟩
      refine Eq.mpr e_eqS ?_
      refine Eq.mpr e_br ⟨fun z => (by rw [k6] at z; cases z), fun _ => ?_⟩
      refine Eq.mpr (p.g.s.meth (x := n_new_block) (f := 321) (by decide +kernel) rfl) ?_
      refine Eq.mpr e_s1 ?_
      refine c_new_block p.g hf f0 (by omega) fun M1 g1 kk1 => ?_
      obtain ⟨bw1, bk1⟩ := p.bw.block hf hf2
      have p1 := p.area g1 bw1 kk1 rfl ⟨rfl, rfl⟩ rfl Ke.grow
      refine Eq.mpr (g1.s.meth (x := n_base) (f := 307) (by decide +kernel) rfl) ?_
      refine c_base ?_
      refine Eq.mpr e_s2 ?_
      intro w hw
      obtain ⟨w1, w2, w3⟩ := p1.none hw
      have hlen : (addH A1 (blk A1.heap.length f l.length)).heap.length = A1.heap.length + 1 + l.length := by simp [addH, blk, vars_len]; omega
      refine hnext A1.heap.length w _ _ _ (A1.heap.length + 1) l _ w1 w2 w3 ⟨?_, by rw [upd_same]; rfl, (fun x hx => by rw [List.mem_singleton.mp hx]; exact htl), ?_, ns, ?_, ?_, bk1⟩
      · have e : ([] : List Nat) ++ flat [(A1.heap.length + 1, l)] = [] ++ (List.range l.length).map (A1.heap.length + 1 + ·) := by simp [flat, placesOf]
        rw [e]
        exact p1.wait w1 w3 w2
      · rw [hlen]; show _ + 0 + (alL l + 0) ≤ B; omega
      · show _ + 0 + (1 + szL l + 0) ≤ T; omega
      · show 0 + 0 + (1 + szL l + 0) ≤ 500; omega
theorem c_put_term {t : Tm} {B T : Nat} (h : PT M S Y y ta A M A tb []) (ht : tok y t) (htr : A.trail = []) (hB : A.heap.length + cnt tb + al t + 1 ≤ B) (hB' : B ≤ 100) (hT : tb.length + sz t ≤ T) (hT' : T ≤ 500)
    (hQ : ∀ c M' A' tb', PT M S Y y ta A M' A' tb' [] → CellOk y A' c → (∀ k i, (k, Cl.srf i) ∉ tb') → A'.heap.length ≤ B → tb'.length ≤ T → Q (cv c) M') : CallP C (k + 4) (.ref 364) [.ref S.st, tv t, .ref ta] M Q := by
  refine callP_fn (st := md 25 3) (qual := (u [83, 116, 111, 114, 101, 46, 112, 117, 116, 95, 116, 101, 114, 109])) (pm := pm1) (pmt := 408) (dfl := .none) (ns := [n_self, n_term, n_table]) (by kernel_rfl) (by kernel_rfl) (by kernel_rfl) (bnd3 rfl (by kernel_rfl)) ?_
  rw [put_split]
  refine exs_app (c_putA h ht htr hB hB' hT hT' (fun c l M' A' tb' a1 a2 a3 a4 a5 => hQ c M' A' tb' a1 a2 a3 a4 a5) fun made w M' A' tb' p0 l Z w1 w2 w3 hp => ?_)
  refine xs_cons (ex_while (ns := [n_self, n_table, n_made, n_waiting, n_at]) (WO M S Y y ta w A made B T) putW_eq (Eq.mpr gatW ⟨500, [], _, _, _, rfl, rfl, hp⟩) ?_)
  rintro m vals Mx _ ⟨dn, rest, A1, tb1, rfl, hm, hp⟩
  refine f_putT ?_
  have hdl := hp.dl
  have := len_mu rest
  refine Eq.mpr (e_len hp.w (by simp; omega)) ?_
  refine Eq.mpr e_ltI ?_
  refine ⟨fun z => ?_, fun z => ?_⟩
  · cases rest with
    | nil => simp at z
    | cons x rest => exact c_putB hB' hT' w1 w2 w3 hm hp fun M₃ l' z => z
  · cases rest with
    | cons x rest => simp at z; omega
    | nil =>
      refine f_putC ?_
      exact hQ _ _ _ _ hp.pt hp.bk hp.ns (by have := hp.hp; simp only [alR, List.map_nil, List.sum_nil] at this; omega) (by have := hp.tl; simp only [muR, List.map_nil, List.sum_nil] at this; omega)
end
end
end Mine

end
section
open PySem PySem.W PyProof.Rows PySem.Calls
set_option Elab.async false
set_option maxRecDepth 100000
set_option linter.all false
namespace Mine
noncomputable section
-- the comprehension's parts
noncomputable def cScope : Expr → Scope
  | .ListComp _ _ s _ => s
  | _ => fScope (ms 47)
noncomputable def cPos : Expr → Pos
  | .ListComp _ _ _ p => p
  | _ => ⟨0, 0, 0, 0⟩
noncomputable def sT : Scope := cScope theComp
noncomputable def pp (l c e f : Nat) : Pos := ⟨l, c, e, f⟩
noncomputable def itT : Expr := .Call (.Name n_range (pp 466 95 466 100)) [.BinOp (.Name n_kind (pp 466 101 466 105)) .Sub (.Constant (.int 3) 0 (pp 466 108 466 109)) (pp 466 101 466 109)] [] (pp 466 95 466 110)
noncomputable def elT : Expr := .Call (.Name n__law_tree (pp 466 51 466 60)) [.Name n_hand (pp 466 61 466 65), .Name n_names (pp 466 67 466 72), .BinOp (.Name n_deep (pp 466 74 466 78)) .Add (.Constant (.int 1) 0 (pp 466 81 466 82)) (pp 466 74 466 82)] [] (pp 466 51 466 83)
theorem theComp_eq : theComp = .ListComp elT [⟨.Name n_lap (pp 466 88 466 91), itT, [], 0⟩] sT (cPos theComp) := by kernel_rfl
noncomputable def env0 (L a : Addr) (cd : Value) (cs : List (Str × Addr)) (nm : Str) : Env := envX nm (fScope (ms 47)) L a cd cs
-- what is asked of the scope
theorem sT_ok : (decide (sT.kind = .function) && sT.names.all (fun x => decide (x.2 ≠ .cell)) && sT.names.all (fun x => !decide (x.2 = .local) || decide (sT.names.lookup x.1 = some .local)) && decide (sT.names.lookup n_lap = some .local)) = true := by kernel_rfl
theorem sT_names : sT.names = [(u [46, 48], .local), (n_lap, .local), (n__law_tree, .globalImplicit), (n_deep, .free), (n_hand, .free), (n_names, .free)] := by kernel_rfl
theorem closure_T {cs : List (Str × Addr)} {nm : Str} {L a : Addr} {cd : Value} {cD cH cN : Addr} (hD : cs.lookup n_deep = some cD) (hH : cs.lookup n_hand = some cH) (hN : cs.lookup n_names = some cN) :
    closureFor sT (env0 L a cd cs nm) = pure [(n_names, cN), (n_hand, cH), (n_deep, cD)] := by
  have e : ∀ {x : Str} {c : Addr}, cs.lookup x = some c → cellOf (env0 L a cd cs nm) x = pure c := fun {x c} h => by
    unfold cellOf
    show (match cs.lookup x with | some a => pure a | none => _) = _
    rw [h]
  unfold closureFor
  rw [sT_names]
  simp only [List.forIn_cons, List.forIn_nil, e hD, e hH, e hN]
  rfl
-- a cell that stays, with its value
structure CelIs (B : Base) (h : Heap) (ca : Addr) (X : V) : Prop where
  ex : ∃ v o, B ca o ∧ o.data = .cell (some v) ∧ Den h X v
noncomputable def cenv (L a : Addr) (cd : Value) (cs : List (Str × Addr)) (nm : Str) (cD cH cN Cc : Addr) : Env := compEnvC sT [(n_names, cN), (n_hand, cH), (n_deep, cD)] Cc (env0 L a cd cs nm)
theorem cenv_kinds : (fun (L a : Addr) (cd : Value) (cs : List (Str × Addr)) (nm : Str) (cD cH cN Cc : Addr) => [n__law_tree, n_deep, n_hand, n_names, n_lap].map (cenv L a cd cs nm cD cH cN Cc).kindOf) = fun _ _ _ _ _ _ _ _ _ => [some .globalImplicit, some .cell, some .cell, some .cell, some .local] := by kernel_rfl
theorem cenv_cells : (fun (L a : Addr) (cd : Value) (cs : List (Str × Addr)) (nm : Str) (cD cH cN Cc : Addr) => [n_deep, n_hand, n_names].map fun x => (cenv L a cd cs nm cD cH cN Cc).cells.lookup x) = fun _ _ _ _ _ cD cH cN _ => [some cD, some cH, some cN] := by kernel_rfl
theorem cenv_fn : (fun (L a : Addr) (cd : Value) (cs : List (Str × Addr)) (nm : Str) (cD cH cN Cc : Addr) => (cenv L a cd cs nm cD cH cN Cc).scope.kind) = fun _ _ _ _ _ _ _ _ _ => .function := by kernel_rfl
section
variable {C : Cx} {k : Nat} {A : Around} {B : Base} {M : Mm} {s : Shared} {L a : Addr} {cd : Value} {cs : List (Str × Addr)} {nm : Str} {cD cH cN Cc : Addr} {H N : V} {d : Int} {Q : V → Mm → Prop}
theorem cenv_name {x : Str} {X : V} {ca : Addr} {p : Pos} {Q : Value → Shared → Prop} (R : Rel C B M s) (hk : (cenv L a cd cs nm cD cH cN Cc).kindOf x = some .cell) (hc : (cenv L a cd cs nm cD cH cN Cc).cells.lookup x = some ca) (hd : (x == ("__debug__" : Str)) = false)
    (hx : CelIs B s.heap ca X) (h : ∀ v, Den s.heap X v → Q v s) : wpAny (model P0 C.w) A (eval (.Name x p) (cenv L a cd cs nm cD cH cN Cc)) Q noE s := by
  obtain ⟨v, o, h1, h2, h3⟩ := hx.ex
  exact wpAny_Name (wpAny_loadName_cell (congrFun (congrFun (congrFun (congrFun (congrFun (congrFun (congrFun (congrFun (congrFun cenv_fn L) a) cd) cs) nm) cD) cH) cN) Cc) hk hc ⟨o, R.base _ _ h1, h2⟩ (h v h3)) hd
theorem ev_elt (ha : Aok k A) (R : Rel C B M s) (hD : CelIs B s.heap cD (.int d)) (hH : CelIs B s.heap cH H) (hN : CelIs B s.heap cN N) (h : CallP C k (.ref 535) [H, N, .int (d + 1)] M Q) :
    wpAny (model P0 C.w) A (eval elT (cenv L a cd cs nm cD cH cN Cc)) (fun v s' => ∃ X M', Rel C (Rest M s.heap) M' s' ∧ KeepT s.heap s'.heap ∧ Den s'.heap X v ∧ Q X M') noE s := by
  have kd := congrFun (congrFun (congrFun (congrFun (congrFun (congrFun (congrFun (congrFun (congrFun cenv_kinds L) a) cd) cs) nm) cD) cH) cN) Cc
  have kc := congrFun (congrFun (congrFun (congrFun (congrFun (congrFun (congrFun (congrFun (congrFun cenv_cells L) a) cd) cs) nm) cD) cH) cN) Cc
  have kf := congrFun (congrFun (congrFun (congrFun (congrFun (congrFun (congrFun (congrFun (congrFun cenv_fn L) a) cd) cs) nm) cD) cH) cN) Cc
  simp only [List.map_cons, List.map_nil, List.cons.injEq, and_true] at kd kc
  obtain ⟨k1, k2, k3, k4, k5⟩ := kd
  obtain ⟨c1, c2, c3⟩ := kc
  have gv0 : gv gRows n__law_tree = some (.ref 535, 0, false) := by kernel_rfl
  obtain ⟨_, _, g3, _⟩ := gv_ok gv0
  refine Call_Name rfl (Name_function_global kf k1 (loadGlobal_global (env := cenv L a cd cs nm cD cH cN Cc) (C.g.keeps R.keep0) (mg_of C.kin C.g (g3 rfl _)) ?_) (by decide +kernel))
  refine callWith_of (P := fun h => (KT C.w.params).In h) (by rfl) (gv_calm gv0 fun i e => by cases e) ?_
  refine evalArgs_plain (wpAny_items_cons (cenv_name R k3 c2 (by decide +kernel) hH fun v1 d1 => ?_) rfl)
  refine wpAny_items_cons (cenv_name R k4 c3 (by decide +kernel) hN fun v2 d2 => ?_) rfl
  refine wpAny_items_cons (wpAny_BinOp (cenv_name R k2 c1 (by decide +kernel) hD fun v3 d3 => ?_)) rfl
  obtain ⟨t, rfl⟩ := den_int d3
  refine wpAny_Constant_int (P.add_int (wpAny_items_nil ⟨R.kin, ?_⟩))
  exact h.op A (Rest M s.heap) _ _ ha ((R.rest).toks _) (.cons d1 (.cons d2 (.cons ⟨_, rfl⟩ .nil)))
end
end
end Mine

end
section
open PySem PySem.W PyProof.Rows PySem.Calls
set_option Elab.async false
set_option maxRecDepth 100000
set_option linter.all false
namespace Mine
noncomputable section
section
variable {C : Cx} {k : Nat} {A : Around} {B : Base} {M : Mm} {s : Shared}
-- a place that is neither one's own nor told is changed
theorem Rel.other (R : Rel C B M s) {d : Addr} (hM : M d = none) (hB : ∀ q, ¬ B d q) {h' : Heap} (hs : Heap.ExtBut d s.heap h') (kk : KeepT s.heap h') (t : Nat) : Rel C B M { s with heap := h', toks := t } :=
  ⟨R.low, fun b o e => hs b o (fun q => hB o (q ▸ e)) (R.base b o e), fun a x e => (R.own a x e).keep kk fun o ho => hs a o (fun q => by rw [q, hM] at e; cases e) ho, R.apart, R.os, R.gens, R.one⟩
-- such a place becomes one's own
theorem Rel.take (R : Rel C B M s) {d : Addr} {x : MO} (hB : ∀ q, ¬ B d q) (h1 : d ≠ 1) (ho : Own C.w s.heap d x) : Rel C B (Mine.upd M d x) s := by
  refine ⟨R.low, R.base, fun a y e => ?_, fun a y e => ?_, R.os, R.gens, ?_⟩
  · by_cases q : a = d
    · subst q; rw [upd_same] at e; cases e; exact ho
    · rw [upd_ne _ _ q] at e; exact R.own a y e
  · by_cases q : a = d
    · subst q; exact hB
    · rw [upd_ne _ _ q] at e; exact R.apart a y e
  · rw [upd_ne _ _ (Ne.symm h1)]; exact R.one
theorem keepT_ns {h h' : Heap} {L : Addr} {m : Str → Option Value} (hn : h.Ns L m) (hs : Heap.ExtBut L h h') : KeepT h h' := fun a vs x => by
  obtain ⟨o, es, ep, ho, hd, _⟩ := hn
  obtain ⟨o', ho', hc', n, hd'⟩ := x
  have ne : a ≠ L := by rintro rfl; rw [ho] at ho'; cases ho'; rw [hd] at hd'; cases hd'
  exact ⟨o', hs a o' ne ho', hc', n, hd'⟩
-- what a call leaves as it was
theorem Rel.left {B' : Base} {s' : Shared} {M' : Mm} (R' : Rel C (Rest M s.heap) M' s') {d : Addr} {o : Obj} (ho : s.heap.get? d = some o) (hM : M d = none) : s'.heap.get? d = some o ∧ M' d = none := by
  refine ⟨R'.base _ _ ⟨ho, hM⟩, ?_⟩
  cases e : M' d with
  | none => rfl
  | some x => exact absurd ⟨ho, hM⟩ (R'.apart d x e o)
-- the state at the head of the comprehension's loop
structure CI (C : Cx) (B0 : Base) (h0 : Heap) (W : Nat → List V → Mm → Prop) (N : Nat) (D Cc I : Addr) (i : Nat) (Xs : List V) (vs : List Value) (M : Mm) (s : Shared) : Prop where
  le : i ≤ N
  w : W i Xs M
  rel : Rel C B0 M s
  kk : KeepT h0 s.heap
  d : s.heap.get? D = some (listOf vs.toArray i)
  den : DenL s.heap Xs vs
  len : vs.length = i
  ns : ∃ m, s.heap.Ns Cc m
  it : ∃ o, s.heap.get? I = some o ∧ o = { cls := .type "range_iterator", data := .fields #[rawInt ((0 : Int) + i * 1), rawInt ((N : Int) - i), rawInt 1] }
  md : M D = none
  mc : M Cc = none
  mi : M I = none
theorem ns_there {h : Heap} {L : Addr} {m : Str → Option Value} (hn : h.Ns L m) : ∃ o, h.get? L = some o ∧ ∀ h' : Heap, h'.get? L = some o → h'.Ns L m := by
  obtain ⟨o, es, ep, ho, r⟩ := hn
  exact ⟨o, ho, fun h' e => ⟨o, es, ep, e, r⟩⟩
variable {W : Nat → List V → Mm → Prop} {N i : Nat} {D Cc I : Addr} {Xs : List V} {vs : List Value} {B0 : Base} {h0 : Heap}
structure Apart (B0 : Base) (D Cc I : Addr) : Prop where
  bd : ∀ q, ¬ B0 D q
  bc : ∀ q, ¬ B0 Cc q
  bi : ∀ q, ¬ B0 I q
  dc : D ≠ Cc
  di : D ≠ I
  ci : Cc ≠ I
-- one turn
theorem comp_turn {L a : Addr} {cd : Value} {cs : List (Str × Addr)} {nm : Str} {cD cH cN : Addr} {H NM : V} {d : Int} (P : Apart B0 D Cc I) (hN : N < 1000) (ha : Aok k A) (c : CI C B0 h0 W N D Cc I i Xs vs M s) (hi : i < N)
    (hD : CelIs B0 h0 cD (.int d)) (hH : CelIs B0 h0 cH H) (hNM : CelIs B0 h0 cN NM)
    (turn : ∀ i Xs M', i < N → W i Xs M' → CallP C k (.ref 535) [H, NM, .int (d + 1)] M' fun X M'' => W (i + 1) (Xs ++ [X]) M'') :
    wpAny (model P0 C.w) A (pyNext (.ref I)) (fun r s₁ => ∃ v, r = some v ∧ wpAny (model P0 C.w) A (assign (.Name n_lap (pp 466 88 466 91)) (cenv L a cd cs nm cD cH cN Cc) v) (fun _ s₂ => wpAny (model P0 C.w) A (eval elT (cenv L a cd cs nm cD cH cN Cc)) (fun x s₃ =>
      wpAny (model P0 C.w) A (call (.builtin "list.append") [.ref D, x]) (fun _ s₄ => ∃ Xs' vs' M', CI C B0 h0 W N D Cc I (i + 1) Xs' vs' M' s₄) noE s₃) noE s₂) noE s₁) noE s := by
  have kd := congrFun (congrFun (congrFun (congrFun (congrFun (congrFun (congrFun (congrFun (congrFun cenv_kinds L) a) cd) cs) nm) cD) cH) cN) Cc
  have kf := congrFun (congrFun (congrFun (congrFun (congrFun (congrFun (congrFun (congrFun (congrFun cenv_fn L) a) cd) cs) nm) cD) cH) cN) Cc
  simp only [List.map_cons, List.map_nil, List.cons.injEq, and_true] at kd
  obtain ⟨_, _, _, _, k5⟩ := kd
  obtain ⟨o, ho, hj⟩ := c.it
  obtain ⟨m, hns⟩ := c.ns
  have hx : (rngL 0 1 N)[i]? = some (.int ((0 : Int) + i * 1)) := by simp [rngL, hi]
  have dd := drw_rng (C := C) (k := k) (it := I) (a := 0) (c := 1) (n := N)
  refine dd.next A s i _ o ha ho hj trivial hx _ _ fun h1 o1 t1 v1 ho1 hj1 hs1 dv1 => ⟨v1, rfl, ?_⟩
  have kk1 := keepT_it ho (dd.cls _ _ hj) hs1.extBut
  have R1 := c.rel.other c.mi P.bi hs1.extBut kk1 t1
  have ns1 := hns.sameBut hs1 P.ci
  have d1 := (hs1.2 D P.di).trans c.d
  refine wpAny_assign_Name (wpAny_storeName_local k5 ns1 (fun h2 hn2 hs2 => ?_) (by rw [kf]; rfl))
  have kk2 := keepT_ns ns1 hs2.extBut
  have R2 := R1.other c.mc P.bc hs2.extBut kk2 (t1 + 1)
  have ns2 := hn2
  have d2 := (hs2.2 D P.dc).trans d1
  have i2 := (hs2.2 I (Ne.symm P.ci)).trans ho1
  have kk02 := (c.kk.trans kk1).trans kk2
  have cel : ∀ {ca X}, CelIs B0 h0 ca X → CelIs B0 h2 ca X := fun {ca X} z => by
    obtain ⟨v, o, z1, z2, z3⟩ := z.ex
    exact ⟨v, o, z1, z2, z3.keep kk02 X⟩
  refine up (ev_elt (s := { s with heap := h2, toks := t1 + 1 }) ha R2 (cel hD) (cel hH) (cel hNM) (turn i Xs M hi c.w)) fun y s3 z => ?_
  obtain ⟨X, M3, R3, kk3, dy, hW⟩ := z
  obtain ⟨on, hon, hons⟩ := ns_there ns2
  obtain ⟨d3, md3⟩ := R3.left (B' := B0) d2 c.md
  obtain ⟨i3, mi3⟩ := R3.left (B' := B0) i2 c.mi
  obtain ⟨c3, mc3⟩ := R3.left (B' := B0) hon c.mc
  have R3' := R2.back R3
  have len := c.len
  have d3' : s3.heap.get? D = some { cls := .type "list", data := .seq vs.toArray i } := d3
  refine append_at d3' (fun h4 hs4 hg4 => ?_) (by simp only [List.size_toArray]; exact Nat.le_trans (show vs.length ≤ 1000 by omega) (by decide))
  have kk4 := keepT_it d3 (by simp) hs4.extBut
  refine ⟨Xs ++ [X], vs ++ [y], M3, ⟨hi, hW, R3'.other md3 P.bd hs4.extBut kk4 s3.toks, ((kk02.trans kk3).trans kk4), ?_, ?_, by simp [len], ⟨_, (hons _ c3).sameBut hs4 (Ne.symm P.dc)⟩, ⟨o1, (hs4.2 I (Ne.symm P.di)).trans i3, hj1⟩, md3, mc3, mi3⟩⟩
  · rw [hg4]; simp [PySem.W.listOf]
  · exact ((c.den.keep ((kk1.trans kk2).trans kk3)).append (.cons dy .nil)).keep kk4
theorem evs_of {F : Fi} {LS : Inv} {n : Nat} {es : List Expr} {loc : Loc} {M : Mm} {R : List V → Mm → Prop} {P : Prop} (e : P = vc C F LS n (.evs es loc M R)) (h : P) : EvsP C F es loc M R := vc_sound n (.evs es loc M R) (e ▸ h)
-- range(kind - 3)
theorem ev_range {L a : Addr} {cd : Value} {cs : List (Str × Addr)} {nm : Str} {cl : Loc} {K : Int} {Q : Value → Shared → Prop} (S : St C ⟨k, fScope (ms 47), cl⟩ A B L cs [(n_kind, .int K)] M s)
    (hQ : ∀ s₁ t u v z, St C ⟨k, fScope (ms 47), cl⟩ A B L cs [(n_kind, .int K)] M s₁ → KeepT s.heap s₁.heap → IsRange s₁.heap z 0 (K - 3) 1 t u v → Q (.ref z) s₁) : wpAny (model P0 C.w) A (eval itT (envX nm (fScope (ms 47)) L a cd cs)) Q noE s := by
  have gv0 : gv gRows n_range = some (.ty "range", 0, true) := by kernel_rfl
  obtain ⟨_, g2, _, g4⟩ := gv_ok gv0
  obtain ⟨g4, g5⟩ := g4 rfl
  refine Call_Name rfl (Name_function_global S.knd (by kernel_rfl) (loadGlobal_builtin (env := envX nm (fScope (ms 47)) L a cd cs) S.g (mg_none_of C.kin C.g (g4 _)) (C.b.keeps S.rel.keep0) ((C.builtins _ g2).trans g5) ?_) (by decide +kernel))
  refine callWith_of (P := fun h => True) (by rfl) (fun h _ => ⟨.machine, .inr (.inl rfl), Looks.of_pure rfl⟩) ?_
  have hev : EvsP C ⟨k, fScope (ms 47), cl⟩ [.BinOp (.Name n_kind (pp 466 101 466 105)) .Sub (.Constant (.int 3) 0 (pp 466 108 466 109)) (pp 466 101 466 109)] [(n_kind, .int K)] M fun Xs M' => Xs = [.int (K - 3)] ∧ M' = M :=
    evs_of (LS := fun _ => ([], fun _ _ _ => False)) (n := 20) (P := [V.int (K - 3)] = [V.int (K - 3)] ∧ M = M) (by kernel_rfl) ⟨rfl, rfl⟩
  refine evalArgs_plain (hev.run (pos := pp 466 95 466 110) S fun vs s₁ Xs M' S₁ k₁ d₁ z => ?_)
  obtain ⟨rfl, rfl⟩ := z
  obtain ⟨v, rfl, dv⟩ := den1 d₁
  obtain ⟨t, rfl⟩ := den_int dv
  refine ⟨trivial, ?_⟩
  show wpAny (model P0 C.w) A (call (.type "range") [.int (K - 3) t]) Q noE s₁
  exact call_range_1 (hQ _ _ _ _ _ (S₁.grow (h' := s₁.heap.push _) push_keep _) (k₁.trans (.of push_keep)) (IsRange.new ..))
-- the comprehension of _law_tree
theorem ev_theComp {H NM : V} {d K : Int} {N : Nat} {Q : V → Mm → Prop} (W : Nat → List V → Mm → Prop) (hK : K - 3 = (N : Int)) (hN : N < 1000) (h0 : W 0 [] M)
    (turn : ∀ i Xs M', i < N → W i Xs M' → CallP C k (.ref 535) [H, NM, .int (d + 1)] M' fun X M'' => W (i + 1) (Xs ++ [X]) M'')
    (fin : ∀ Xs M', W N Xs M' → ∀ b, M' b = none → Q (.ref b) (Mine.upd M' b (.list Xs))) :
    EvP C ⟨k, fScope (ms 47), [(n_hand, H), (n_names, NM), (n_deep, .int d)]⟩ theComp [(n_kind, .int K)] M Q := fun A B s L nm a cd cs S => by
  rw [theComp_eq, eval_ListComp]
  obtain ⟨cH, vH, oH, lH, bH, eH, dH⟩ := S.cel n_hand H (by rfl)
  obtain ⟨cN, vN, oN, lN, bN, eN, dN⟩ := S.cel n_names NM (by rfl)
  obtain ⟨cD, vD, oD, lD, bD, eD, dD⟩ := S.cel n_deep (.int d) (by rfl)
  have ok := sT_ok
  simp only [Bool.and_eq_true, decide_eq_true_eq, List.all_eq_true, Bool.or_eq_true, Bool.not_eq_true', decide_eq_false_iff_not] at ok
  obtain ⟨⟨⟨ok1, ok2⟩, ok3⟩, ok4⟩ := ok
  refine wpAny_comprehension_free (use := none) rfl (fun _ => rfl) (closure_T lD lH lN) ok1 (fun x hx hl => (ok3 x hx).resolve_left fun z => z hl) ?_
  refine ev_range S fun s₁ t u v z S₁ k₁ hr => ?_
  refine wpAny_pyIter_range hr (by rw [hK]; exact small1 (by omega) (by omega)) ?_
  rw [hK, size1, Int.toNat_natCast]
  refine wpAny_newObj_type (wpAny_newFunctionEnv ok2 (by intro y hy; simp at hy) (fun h4 hns4 hsb4 => ?_) ok1)
  dsimp only at hns4 hsb4 ⊢
  have kI : ∀ (o : Obj) b q, s₁.heap.get? b = some q → (s₁.heap.push o).get? b = some q := fun o => push_keep
  generalize hI : s₁.heap.push { cls := .type "range_iterator", data := .fields #[rawInt 0, rawInt (N : Int), rawInt 1] } = HI at hns4 hsb4 ⊢
  have sI : HI.objs.size = s₁.heap.objs.size + 1 := by rw [← hI, Heap.size_push]
  generalize hD : HI.push { cls := .type "list", dict := none, data := .seq ([] : List Value).toArray } = HD at hns4 hsb4 ⊢
  have sD : HD.objs.size = HI.objs.size + 1 := by rw [← hD, Heap.size_push]
  have nlt : ∀ {a b : Nat}, a < b → b ≤ a → False := fun h h' => Nat.lt_irrefl _ (Nat.lt_of_lt_of_le h h')
  have lI : s₁.heap.objs.size ≤ HI.objs.size := by rw [sI]; exact Nat.le_succ _
  have lD : HI.objs.size ≤ HD.objs.size := by rw [sD]; exact Nat.le_succ _
  have nDC : HI.objs.size ≠ HD.objs.size := Nat.ne_of_lt (by rw [sD]; exact Nat.lt_succ_self _)
  have nDI : HI.objs.size ≠ s₁.heap.objs.size := Nat.ne_of_gt (by rw [sI]; exact Nat.lt_succ_self _)
  have nCI : HD.objs.size ≠ s₁.heap.objs.size := Nat.ne_of_gt (Nat.lt_of_lt_of_le (by rw [sI]; exact Nat.lt_succ_self _) lD)
  have P : Apart (Rest M s₁.heap) HI.objs.size HD.objs.size s₁.heap.objs.size :=
    ⟨fun q e => nlt (Heap.lt_size e.1) lI, fun q e => nlt (Heap.lt_size e.1) (Nat.le_trans lI lD), fun q e => Nat.lt_irrefl _ (Heap.lt_size e.1), nDC, nDI, nCI⟩
  have old : ∀ b o, s₁.heap.get? b = some o → h4.get? b = some o := fun b o e => by
    exact hsb4.extBut b o (Nat.ne_of_lt (Nat.lt_of_lt_of_le (Heap.lt_size e) (Nat.le_trans lI lD))) (Heap.get?_push_of_some _ (hD ▸ Heap.get?_push_of_some _ (hI ▸ Heap.get?_push_of_some _ e)))
  have no : ∀ b, s₁.heap.objs.size ≤ b → M b = none := fun b hb => by
    cases e : M b with
    | none => rfl
    | some x =>
      obtain ⟨o, ho, _⟩ := (S₁.rel.own b x e).there
      exact (nlt (Heap.lt_size ho) hb).elim
  have d4 : h4.get? HI.objs.size = some (PySem.W.listOf ([] : List Value).toArray 0) := hsb4.extBut _ _ nDC (Heap.get?_push_of_some _ (hD ▸ Heap.get?_push_size _ rfl))
  have i4 : h4.get? s₁.heap.objs.size = some { cls := .type "range_iterator", data := .fields #[rawInt 0, rawInt (N : Int), rawInt 1] } := hsb4.extBut _ _ (Ne.symm nCI) (Heap.get?_push_of_some _ (hD ▸ Heap.get?_push_of_some _ (hI ▸ Heap.get?_push_size _ rfl)))
  have cel : ∀ {ca X v o}, B ca o → o.data = .cell (some v) → Den s.heap X v → CelIs (Rest M s₁.heap) s₁.heap ca X := fun {ca X v o} z1 z2 z3 => ⟨v, o, S₁.rel.base_rest z1, z2, z3.keep k₁ X⟩
  have loop : ∀ s₃ : Shared, s₃ = { s₁ with heap := h4, toks := s₁.toks + ([] : List (Str × Value)).length } →
      codeAny (model P0 C.w) A (.compLoop (.ListComp elT [⟨.Name n_lap (pp 466 88 466 91), itT, [], 0⟩] sT (cPos theComp)) 0 (.ref s₁.heap.objs.size) (.ref HI.objs.size) (cenv L a cd cs nm cD cH cN HD.objs.size))
        (compPost (model P0 C.w) A noE none (Pv C ⟨k, fScope (ms 47), [(n_hand, H), (n_names, NM), (n_deep, .int d)]⟩ A B L cs [(n_kind, .int K)] s Q) (.ref HI.objs.size) HD.objs.size) s₃ := by
    rintro s₃ rfl
    refine codeAny_compLoop_list (fun n s' => ∃ i Xs vs M', n + i = N + 1 ∧ CI C (Rest M s₁.heap) s₁.heap W N HI.objs.size HD.objs.size s₁.heap.objs.size i Xs vs M' s') (fun n s' z => ?_) (N + 1)
      ⟨0, [], [], M, rfl, Nat.zero_le _, h0, S₁.rel.rest.grow old _, .of old, d4, .nil, rfl, ⟨_, hns4⟩, ⟨_, i4, by simp⟩, no _ lI, no _ (Nat.le_trans lI lD), no _ (Nat.le_refl _)⟩
    obtain ⟨i, Xs, vs, M', hn, c⟩ := z
    by_cases hi : i < N
    · refine up (comp_turn (L := L) (a := a) (cd := cd) (cs := cs) (nm := nm) P hN S.aok c hi (cel bD eD dD) (cel bH eH dH) (cel bN eN dN) turn) fun r s₅ z => ?_
      obtain ⟨v, rfl, h5⟩ := z
      exact up h5 fun _ s₆ h6 => up h6 fun x s₇ h7 => up h7 fun _ s₈ z => by
        obtain ⟨Xs', vs', M'', c'⟩ := z
        exact ⟨N - i, dec_ hn c.le, i + 1, Xs', vs', M'', dec_' c.le, c'⟩
    · have hiN : i = N := by have := c.le; omega
      subst hiN
      obtain ⟨o, ho, hj⟩ := c.it
      obtain ⟨m, hns⟩ := c.ns
      have hx : (rngL 0 1 i)[i]? = none := by simp [rngL]
      have dd := drw_rng (C := C) (k := k) (it := s₁.heap.objs.size) (a := 0) (c := 1) (n := i)
      refine dd.last A s' i o S.aok ho hj trivial hx _ _ fun h5 t5 e5 => ?_
      have kk5 := keepT_it ho (dd.cls _ _ hj) e5
      have R5 := c.rel.other c.mi P.bi e5 kk5 t5
      obtain ⟨on, hon, hons⟩ := ns_there hns
      have ns5 : h5.Ns HD.objs.size m := hons _ (e5 _ _ P.ci hon)
      refine ⟨m, ns5, fun h6 hs6 => ?_⟩
      have kk6 := keepT_ns ns5 hs6.extBut
      have R6 := R5.other c.mc P.bc hs6.extBut kk6 t5
      have d6 := hs6.extBut _ _ P.dc (e5 _ _ P.di c.d)
      have one : HI.objs.size ≠ 1 := by
        obtain ⟨o, _, _, ho, _⟩ := C.g.keeps S₁.rel.keep0
        exact Nat.ne_of_gt (Nat.lt_of_lt_of_le (Nat.lt_trans (by decide) (show 3 < s₁.heap.objs.size from Heap.lt_size ho)) lI)
      have kall := (c.kk.trans kk5).trans kk6
      have R7 := R6.take (x := .list Xs) P.bd one ⟨vs, i, d6, c.den.keep (kk5.trans kk6)⟩
      exact ⟨.ref HI.objs.size, _, S₁.back R7 kall, k₁.trans kall, rfl, fin Xs M' c.w _ c.md⟩
  exact codeAny_compStart_list (loop _ rfl) (wpAny_pyIter_rangeiter i4 (loop _ rfl))
end
end
end Mine

end
section
open PySem PySem.W PyProof.Rows PySem.Calls
set_option Elab.async false
set_option maxRecDepth 100000
set_option linter.all false
namespace Mine
noncomputable section
theorem tree_kinds : (decide ((fScope (ms 47)).kind = .function) && !(fScope (ms 47)).isCoroutine && !(fScope (ms 47)).isGenerator) = true := by kernel_rfl
theorem tree_cells : (fun n : Nat => [n_hand, n_names, n_deep].map fun x => (cellsFrom n (fScope (ms 47)).names []).lookup x) = fun n => [some n, some (n + 1), some (n + 1 + 1)] := by kernel_rfl
theorem tree_bindC : (fun (a b c : Value) => [n_hand, n_names, n_deep].map fun x => bindC (fun y => (fScope (ms 47)).names.lookup y) (zipB [n_hand, n_names, n_deep] [a, b, c]) (fun _ => none) x) = fun a b c => [some a, some b, some c] := by kernel_rfl
theorem tree_take : List.take 50 (List.drop 0 (fBody (ms 47))) = fBody (ms 47) := by kernel_rfl
section
variable {C : Cx} {k : Nat} {M : Mm} {Q : V → Mm → Prop}
theorem Rel.weaken {B B' : Base} {s : Shared} (R : Rel C B' M s) (h : ∀ b o, B b o → B' b o) (low : ∀ b o, C.h0.get? b = some o → B b o) : Rel C B M s :=
  ⟨low, fun b o e => R.base b o (h b o e), R.own, fun a x e o q => R.apart a x e o (h _ _ q), R.os, R.gens, R.one⟩
theorem callP_tree {H N D : V} (h : ExsP C ⟨k, fScope (ms 47), [(n_hand, H), (n_names, N), (n_deep, D)]⟩ (List.take 50 (List.drop 0 (fBody (ms 47)))) (zipL [] []) M (endQ Q)) : CallP C (k + 1) (.ref 535) [H, N, D] M Q := fun A B s vs ha R d => by
  rw [tree_take] at h
  obtain ⟨vH, vN, vD, rfl, dH, dN, dD⟩ := den3 d
  have hl : (KT C.w.params).lookup 535 = some (fnE (ms 47) (u [95, 108, 97, 119, 95, 116, 114, 101, 101]) 535 pm5 908 .none).2 := by kernel_rfl
  have hm : kCodes.contains (534, u [95, 108, 97, 119, 95, 116, 114, 101, 101]) = true := by kernel_rfl
  have hb := bnd3 (fd := fdE (ms 47) (u [95, 108, 97, 119, 95, 116, 114, 101, 101]) 535 pm5 908 .none) (ns := [n_hand, n_names, n_deep]) (n := 3) rfl (by kernel_rfl) [vH, vN, vD] rfl
  have tk := tree_kinds
  simp only [Bool.and_eq_true, Bool.not_eq_true', decide_eq_true_eq] at tk
  obtain ⟨⟨t1, t2⟩, t3⟩ := tk
  have tc := congrFun tree_cells (s.heap.objs.size + 1)
  have tb := congrFun (congrFun (congrFun tree_bindC vH) vN) vD
  simp only [List.map_cons, List.map_nil, List.cons.injEq, and_true] at tc tb
  obtain ⟨c1, c2, c3⟩ := tc
  obtain ⟨b1, b2, b3⟩ := tb
  have hcode : s.heap.CodeRec (fdE (ms 47) (u [95, 108, 97, 119, 95, 116, 114, 101, 101]) 535 pm5 908 .none).code (u [95, 108, 97, 119, 95, 116, 114, 101, 101]) := (C.codes _ (List.contains_iff_mem.mp hm)).keeps R.keep0
  refine codeAny_call_cells (fd := fdE (ms 47) (u [95, 108, 97, 119, 95, 116, 114, 101, 101]) 535 pm5 908 .none) ha.room (R.kin _ _ hl) rfl (C.nolimit.keeps R.keep0) hcode rfl hb rfl (fun x hx => ?_) (fun s₁ X => ?_) t2 t3 t1
  · have hx : x ∈ [(n_hand, vH), (n_names, vN), (n_deep, vD)] := hx
    simp only [List.mem_cons, List.not_mem_nil, or_false] at hx
    rcases hx with rfl | rfl | rfl
    · exact .inr ⟨by kernel_rfl, by show Option.isSome _ = true; rw [show (fdE (ms 47) (u [95, 108, 97, 119, 95, 116, 114, 101, 101]) 535 pm5 908 .none).scope = fScope (ms 47) from rfl, c1]; rfl⟩
    · exact .inr ⟨by kernel_rfl, by show Option.isSome _ = true; rw [show (fdE (ms 47) (u [95, 108, 97, 119, 95, 116, 114, 101, 101]) 535 pm5 908 .none).scope = fScope (ms 47) from rfl, c2]; rfl⟩
    · exact .inr ⟨by kernel_rfl, by show Option.isSome _ = true; rw [show (fdE (ms 47) (u [95, 108, 97, 119, 95, 116, 114, 101, 101]) 535 pm5 908 .none).scope = fScope (ms 47) from rfl, c3]; rfl⟩
  · obtain ⟨h₁, tk, rfl, keep⟩ := X.done
    let cells := cellsFrom (s.heap.objs.size + 1) (fScope (ms 47)).names []
    have fr := R.fresh
    have cellAt : ∀ {x : Str} {ca : Addr} {v : Value}, cells.lookup x = some ca → bindC (fun y => (fScope (ms 47)).names.lookup y) (zipB [n_hand, n_names, n_deep] [vH, vN, vD]) (fun _ => none) x = some v → ∃ o, h₁.get? ca = some o ∧ o.data = .cell (some v) := fun {x ca v} e1 e2 => by
      obtain ⟨o, ho, hd⟩ := X.cell x ca e1
      exact ⟨o, ho, by rw [hd]; exact congrArg Data.cell e2⟩
    have above : ∀ {x : Str} {ca : Addr}, cells.lookup x = some ca → s.heap.objs.size < ca := fun e => X.above _ _ (mem_of_lookup e)
    have R1 : Rel C B M { s with heap := h₁, toks := tk } := R.grow keep tk
    have newM : ∀ a, s.heap.objs.size ≤ a → M a = none := fun a hle => by
      cases e : M a with
      | none => rfl
      | some x =>
        obtain ⟨o, ho, _⟩ := (R.own a x e).there
        exact absurd (Heap.lt_size ho) (Nat.not_lt.mpr hle)
    let B' : Base := fun b o => B b o ∨ (s.heap.objs.size < b ∧ h₁.get? b = some o)
    have R' : Rel C B' M { s with heap := h₁, toks := tk } := ⟨fun b o e => .inl (R1.low b o e), fun b o e => e.elim (R1.base b o) fun z => z.2, R1.own, fun a x e o q => q.elim (R1.apart a x e o) (fun z => by rw [newM a (Nat.le_of_lt z.1)] at e; cases e), R1.os, R1.gens, R1.one⟩
    have kk : KeepT s.heap h₁ := .of keep
    have cel : ∀ {x : Str} {X : V} {ca : Addr} {v : Value}, Den s.heap X v → cells.lookup x = some ca → bindC (fun y => (fScope (ms 47)).names.lookup y) (zipB [n_hand, n_names, n_deep] [vH, vN, vD]) (fun _ => none) x = some v →
        ∃ ca v o, cells.lookup x = some ca ∧ B' ca o ∧ o.data = .cell (some v) ∧ Den h₁ X v := fun {x X ca v} dv e1 e2 => by
      obtain ⟨o, ho, hd⟩ := cellAt e1 e2
      exact ⟨ca, v, o, e1, .inr ⟨above e1, ho⟩, hd, dv.keep kk X⟩
    have S : St C ⟨k, fScope (ms 47), [(n_hand, H), (n_names, N), (n_deep, D)]⟩ (A.deeper (envX (u [95, 108, 97, 119, 95, 116, 114, 101, 101]) (fScope (ms 47)) s.heap.objs.size 535 (.ref 534) cells)) B' s.heap.objs.size cells (zipL [] []) M { s with heap := h₁, toks := tk } := by
      refine ⟨ha.deeper _, R', ⟨⟨_, X.toInCall.ns, fun x X e => by cases e⟩, fr.1, fun o q => q.elim (fr.2 o) fun z => Nat.lt_irrefl _ z.1⟩, fun x X e => ?_, t1⟩
      rw [lk_cons, lk_cons, lk_cons] at e
      by_cases q1 : x = n_hand
      · rw [if_pos q1] at e; cases e; rw [q1]; exact cel dH c1 b1
      rw [if_neg q1] at e
      by_cases q2 : x = n_names
      · rw [if_pos q2] at e; cases e; rw [q2]; exact cel dN c2 b2
      rw [if_neg q2] at e
      by_cases q3 : x = n_deep
      · rw [if_pos q3] at e; cases e; rw [q3]; exact cel dD c3 b3
      rw [if_neg q3] at e; cases e
    refine h.run S fun f s' G l' M' S' k' df q => ?_
    have Rf : Rel C B M' s' := S'.rel.weaken (fun b o e => .inl e) R.low
    have kall := kk.trans k'
    cases G with
    | next => cases df; exact ⟨_, .none, M', rfl, Rf, kall, rfl, q⟩
    | ret X => obtain ⟨v, rfl, dv⟩ := df; exact ⟨v, X, M', rfl, Rf, kall, dv, q⟩
    | brk => exact q.elim
    | cont => exact q.elim
end
end
end Mine

end
section
open PySem PySem.W PyProof.Rows PySem.Calls
set_option Elab.async false
set_option maxRecDepth 100000
set_option linter.all false
namespace Mine
noncomputable section
-- the hand: the script kept, and how far
structure Hd (M : Mm) (hd kp : Addr) (ks : List Int) (n : Nat) : Prop where
  hd : M hd = some (.list [.ref kp, .int (n : Nat)])
  kp : M kp = some (.list (ks.map .int))
section
variable {C : Cx} {k : Nat} {M M' : Mm} {Q : V → Mm → Prop} {hd kp : Addr} {ks : List Int} {n : Nat}
theorem Hd.ne (h : Hd M hd kp ks n) : hd ≠ kp := fun e => by
  have h1 := h.hd
  rw [e, h.kp] at h1
  cases ks with
  | nil => cases h1
  | cons x r => simp at h1
theorem Hd.step (h : Hd M hd kp ks n) (m : Nat) : Hd (upd M hd (.list [.ref kp, .int (m : Nat)])) hd kp ks m := ⟨upd_same .., by rw [upd_ne _ _ h.ne.symm]; exact h.kp⟩
theorem Hd.keep (h : Hd M hd kp ks n) {L : List Addr} (kk : Keeps L M M') (h1 : hd ∉ L) (h2 : kp ∉ L) : Hd M' hd kp ks n := ⟨kk _ _ h.hd h1, kk _ _ h.kp h2⟩
theorem e_mod {a b : Int} {Q : V → Prop} (h : b ≠ 0) : binV .Mod (.int a) (.int b) Q = Q (.int (a.fmod b)) := propext ⟨fun z => z.2, fun z => ⟨h, z⟩⟩
theorem e_mul {a b : Int} {Q : V → Prop} (h1 : a.natAbs < 100000) (h2 : b.natAbs < 100000) : binV .Mult (.int a) (.int b) Q = Q (.int (a * b)) := propext ⟨fun z => z.2.2, fun z => ⟨h1, h2, z⟩⟩
theorem fmod_nat (a : Int) (w : Nat) (hw : 0 < w) : ∃ r : Nat, a.fmod (w : Int) = (r : Int) ∧ r < w := by
  have h1 := Int.fmod_nonneg_of_pos a (b := (w : Int)) (by omega)
  have h2 := Int.fmod_lt_of_pos a (b := (w : Int)) (by omega)
  exact ⟨(a.fmod w).toNat, by omega, by omega⟩
theorem c_law_step {w : Nat} (h : Hd M hd kp ks n) (hn : n < 1000) (hl : ks.length ≤ 50) (hw : 0 < w) (hQ : ∀ M' (r : Nat), Hd M' hd kp ks (n + 1) → r < w → Keeps [hd] M M' → Q (.int (r : Nat)) M') : CallP C (k + 1) (.ref 530) [.ref hd, .int (w : Nat)] M Q := by
  refine f_law_step ?_
  refine Eq.mpr (e_item (n := 1) h.hd (X := .int (n : Nat)) rfl (by decide)) ?_
  refine Eq.mpr e_aug ?_
  refine Eq.mpr (e_set (n := 1) h.hd (by simp) (by decide)) ?_
  have h1 : Hd (upd M hd (.list ([.ref kp, .int (n : Nat)].set 1 (.int ((n : Int) + 1))))) hd kp ks (n + 1) := h.step (n + 1)
  have kk : Keeps [hd] M (upd M hd (.list ([.ref kp, .int (n : Nat)].set 1 (.int ((n : Int) + 1))))) := Keeps.upd (by simp)
  have fin := hQ (upd M hd (.list ([.ref kp, .int (n : Nat)].set 1 (.int ((n : Int) + 1)))))
  revert h1 kk fin
  generalize upd M hd (.list ([V.ref kp, V.int (n : Nat)].set 1 (V.int ((n : Int) + 1)))) = M1
  intro h1 kk fin
  have i1 : ∀ {Q : V → Prop}, itemV M1 (.ref hd) (.int 1) Q = Q (.int ((n + 1 : Nat) : Int)) := e_item (n := 1) h1.hd rfl (by decide)
  have i0 : ∀ {Q : V → Prop}, itemV M1 (.ref hd) (.int 0) Q = Q (.ref kp) := e_item (n := 0) h1.hd rfl (by decide)
  have md : ∀ (a : Int), binV .Mod (.int a) (.int (w : Nat)) fun Z => Q Z M1 := fun a => by
    obtain ⟨r, hr, hlt⟩ := fmod_nat a w hw
    refine Eq.mpr (e_mod (by omega)) ?_
    rw [hr]
    exact fin r h1 hlt kk
  refine Eq.mpr i1 ?_
  refine Eq.mpr i0 ?_
  refine Eq.mpr (e_len h1.kp (by simp; omega)) ?_
  refine Eq.mpr e_leI ?_
  simp only [List.length_map]
  refine Eq.mpr e_br ⟨fun z => ?_, fun z => ?_⟩
  · have hlt : n < ks.length := by have := of_decide_eq_true z; omega
    refine Eq.mpr i0 ?_
    refine Eq.mpr i1 ?_
    refine Eq.mpr (e_sub' (c := (n : Nat)) (by omega)) ?_
    refine Eq.mpr (e_item h1.kp (X := .int ks[n]) (by simp [hlt]) (by omega)) ?_
    exact md _
  · refine Eq.mpr i0 ?_
    refine Eq.mpr (e_len h1.kp (by simp; omega)) ?_
    refine Eq.mpr e_gtI ?_
    refine Eq.mpr e_br ⟨fun _ => ?_, fun _ => fin 0 h1 hw kk⟩
    refine Eq.mpr i1 ?_
    refine Eq.mpr (e_mul (by omega) (by decide)) ?_
    refine Eq.mpr (e_mod (by decide)) ?_
    exact md _
noncomputable def WSt (M : Mm) (a : Addr) (l : List Int) (i : Nat) (vals : List V) (M' : Mm) : Prop := vals = [.ref a] ∧ M' a = some (.list ((l.take i).map fun x => V.int (x.fmod 360))) ∧ Keeps [] M M'
theorem c_law_start (hQ : ∀ M' hd kp ks, Hd M' hd kp ks 0 → ks.length ≤ 50 → Keeps [] M M' → M hd = none → M kp = none → Q (.ref hd) M') : CallP C (k + 1) (.ref 523) [.ref C.sc] M Q := by
  refine f_law_start (fun i vals M' => ∃ a, M a = none ∧ WSt M a (C.sl.take 50) i vals M') ?_
  intro a ha
  refine ⟨by decide, .inr ⟨rfl, fun b hb => ?_⟩⟩
  have ba : b ≠ a := by rintro rfl; rw [upd_same] at hb; cases hb
  refine ⟨_, upd_same .., ⟨a, ha, rfl, by rw [upd_ne _ _ ba.symm, upd_same]; rfl, (Keeps.new ha).trans (Keeps.new hb)⟩, ?_, ?_⟩
  · rintro i Y v Mx hY hs' ⟨a', ha', e, hl', kk⟩
    simp only [List.cons.injEq, and_true] at e
    subst e
    have hba : b ≠ a' := by
      rintro rfl
      have h1 : Mx b = some (.list ((C.sl.map V.int).take 50)) := hs'
      rw [hl'] at h1
      have := congrArg (fun o => match o with | some (MO.list z) => z.length | _ => 0) h1
      have h2 := (List.getElem?_eq_some_iff.mp hY).1
      simp at this h2
      omega
    refine Eq.mpr (e_rapp hl') ?_
    have hY' : ∃ x, (C.sl.take 50)[i]? = some x ∧ Y = .int x := by
      have hY : ((C.sl.map V.int).take 50)[i]? = some Y := hY
      rw [← List.map_take, List.getElem?_map] at hY
      obtain ⟨x, h1, h2⟩ := Option.map_eq_some_iff.mp hY
      exact ⟨x, h1, h2.symm⟩
    obtain ⟨x, hx, rfl⟩ := hY'
    refine Eq.mpr (e_mod (by decide)) ?_
    refine Eq.mpr (e_append hl' (by simp; omega)) ?_
    refine ⟨?_, a', ha', rfl, ?_, fun c z e n => ?_⟩
    · show upd Mx a' _ b = _
      rw [upd_ne _ _ hba]; exact hs'
    · rw [upd_same]
      have := List.take_add_one (l := C.sl.take 50) (i := i)
      rw [this, hx]; simp
    · rw [upd_ne _ _ (by rintro rfl; rw [ha'] at e; cases e)]; exact kk c z e n
  · rintro v Mx _ ⟨a', ha', e, hl', kk⟩
    simp only [List.cons.injEq, and_true] at e
    subst e
    intro h hh
    have h1 : h ≠ a' := by rintro rfl; rw [hl'] at hh; cases hh
    refine hQ _ h a' ((C.sl.take 50).map fun x => x.fmod 360) ⟨upd_same .., ?_⟩ (by simp; omega) (kk.trans (Keeps.new hh)) ?_ ha'
    · rw [upd_ne _ _ h1.symm, hl']
      rw [List.take_of_length_le (by simp), List.map_map]
      rfl
    · cases e : M h with
      | none => rfl
      | some z => rw [kk _ _ e (by simp)] at hh; cases hh
-- a copy of a list
theorem e_copy {a : Addr} {l : List V} {Q : V → Mm → Prop} (h : M a = some (.list l)) (hl : l.length < 1000000) : callV C k (.ty "list") [.ref a] M Q = ∀ b, M b = none → Q (.ref b) (upd M b (.list l)) := by
  have e1 : ("list" == "list") = true := by decide
  show tyV ("list" == "list") ("list" == "tuple") "list" [.ref a] M Q = _
  rw [e1]
  exact propext ⟨fun z => by obtain ⟨o, e, q⟩ := z; rw [h] at e; cases e; exact q.2, fun q => ⟨_, h, hl, q⟩⟩
-- the areas as told
variable {S : SA} {A : Ar} {Y : SY} {y : Sy}
theorem c_law_areas (g : G M S A Y y) (hQ : ∀ M' a b c, G M' S A Y y → M a = none → M b = none → M c = none → M' a = some (.list (A.heap.map cv)) → M' b = some (.list (A.stack.map cv)) → M' c = some (.list (A.trail.map fun x => .int (te x))) → Keeps [] M M' → Q (.tup [.ref a, .ref b, .ref c, .int (A.hb : Nat), .int (A.bb : Nat)]) M') :
    CallP C (k + 1) (.ref 542) [.ref S.st] M Q := by
  have h1 := g.m.h; have h2 := g.m.t; have h3 := g.m.r
  refine f_law_areas ?_
  refine Eq.mpr g.s.a_heap ?_
  refine Eq.mpr (e_copy g.s.heap (by simp; omega)) fun a ha => ?_
  have k1 : Keeps [] M (upd M a (.list (A.heap.map cv))) := Keeps.new ha
  have g1 := g.keep0 k1
  refine Eq.mpr g1.s.a_stack ?_
  refine Eq.mpr (e_copy g1.s.stack (by simp; omega)) fun b hb => ?_
  have k2 := k1.trans (Keeps.new (x := .list (A.stack.map cv)) hb)
  have g2 := g.keep0 k2
  refine Eq.mpr g2.s.a_trail ?_
  refine Eq.mpr (e_copy g2.s.trail (by simp; omega)) fun c hc => ?_
  have k3 := k2.trans (Keeps.new (x := .list (A.trail.map fun x => .int (te x))) hc)
  have g3 := g.keep0 k3
  refine Eq.mpr g3.s.a_hb ?_
  refine Eq.mpr g3.s.a_bb ?_
  have ba : b ≠ a := by rintro rfl; rw [upd_same] at hb; cases hb
  have cb : c ≠ b := by rintro rfl; rw [upd_same] at hc; cases hc
  have ca : c ≠ a := by rintro rfl; rw [upd_ne _ _ ba.symm, upd_same] at hc; cases hc
  refine hQ _ a b c g3 ha (none_of (kk := k1) hb) (none_of (kk := k2) hc) ?_ ?_ (upd_same ..) k3
  · rw [upd_ne _ _ ca.symm, upd_ne _ _ ba.symm, upd_same]
  · rw [upd_ne _ _ cb.symm, upd_same]
end
end
end Mine

end
section
open PySem PySem.W PyProof.Rows PySem.Calls
set_option Elab.async false
set_option maxRecDepth 100000
set_option linter.all false
namespace Mine
noncomputable section
-- the tables, with the dot at the first place
structure SyG (y : Sy) : Prop where
  i : SyI y
  dot : ∃ a n, y.fs[0]? = some (a, n) ∧ y.texts[a]? = some (u [46])
theorem SyG.next {y y' : Sy} {n : Nat} (h : SyG y) (e : SyE y y' n) (i : SyI y') : SyG y' := ⟨i, let ⟨a, n, h1, h2⟩ := h.dot; ⟨a, n, e.fs _ _ h1, e.tx _ _ h2⟩⟩
noncomputable def nN : Nat → Nat
  | 0 => 1
  | m + 1 => 1 + 2 * nN m
noncomputable def aN : Nat → Nat
  | 0 => 0
  | m + 1 => 3 + 2 * aN m
noncomputable def sN : Nat → Nat
  | 0 => 1
  | m + 1 => 2 + 2 * sN m
theorem nN_pos : ∀ m, 1 ≤ nN m
  | 0 => Nat.le_refl _
  | m + 1 => Nat.le_add_right _ _
theorem ar_next {y y' : Sy} {n f k : Nat} (e : SyE y y' n) (h : arOf y f = some k) : arOf y' f = some k := by
  obtain ⟨p, hp, rfl⟩ := Option.map_eq_some_iff.mp h
  exact Option.map_eq_some_iff.mpr ⟨p, e.fs _ _ hp, rfl⟩
mutual
theorem tok_next {y y' : Sy} {n : Nat} (e : SyE y y' n) : ∀ t, tok y t → tok y' t
  | .v _, h => h
  | .a _, h => h
  | .s _ l, h => ⟨h.1, ar_next e h.2.1, h.2.2.1, tokL_next e l h.2.2.2⟩
theorem tokL_next {y y' : Sy} {n : Nat} (e : SyE y y' n) : ∀ l, tokL y l → tokL y' l
  | [], h => h
  | t :: l, h => ⟨tok_next e t h.1, tokL_next e l h.2⟩
end
theorem tvL_snoc (l : List Tm) (t : Tm) : tvL l ++ [tv t] = tvL (l ++ [t]) := by rw [tvL_map, tvL_map]; simp
theorem tokL_snoc {y : Sy} {t : Tm} : ∀ {l : List Tm}, tokL y l → tok y t → tokL y (l ++ [t])
  | [], _, h => ⟨h, trivial⟩
  | x :: l, h, h' => ⟨h.1, tokL_snoc h.2 h'⟩
theorem alL_snoc {t : Tm} : ∀ {l : List Tm}, alL (l ++ [t]) = alL l + al t
  | [] => by show al t + 0 = 0 + al t; omega
  | x :: l => by show al x + alL (l ++ [t]) = al x + alL l + al t; rw [alL_snoc]; omega
theorem szL_snoc {t : Tm} : ∀ {l : List Tm}, szL (l ++ [t]) = szL l + sz t
  | [] => by show sz t + 0 = 0 + sz t; omega
  | x :: l => by show sz x + szL (l ++ [t]) = sz x + szL l + sz t; rw [szL_snoc]; omega
section
variable {C : Cx} {k : Nat} {M M' : Mm} {Q : V → Mm → Prop} {hd kp : Addr} {ks : List Int} {n : Nat} {Y : SY} {y : Sy}
-- the state while a tree is drawn
structure TS (hd kp : Addr) (ks : List Int) (Y : SY) (M : Mm) (y : Sy) (n : Nat) (M' : Mm) (y' : Sy) (n' c : Nat) : Prop where
  h : Hd M' hd kp ks n'
  nn : n' ≤ n + 2 * c
  ya : SyA M' Y y'
  g : SyG y'
  e : SyE y y' c
  kk : Keeps (hd :: Y.four) M M'
-- what is asked at the start
structure T0 (hd kp : Addr) (ks : List Int) (Y : SY) (M : Mm) (y : Sy) (n c : Nat) : Prop where
  h : Hd M hd kp ks n
  nn : n + 2 * c < 900
  kl : ks.length ≤ 50
  ya : SyA M Y y
  g : SyG y
  tl : y.texts.length + c < 800
  fl : y.fs.length + c < 800
  o1 : hd ∉ Y.six
  o2 : kp ∉ Y.six
theorem four_six {a : Addr} (h : a ∉ Y.six) : a ∉ Y.four := fun z => h (by simp only [SY.four, SY.six, List.mem_cons, List.not_mem_nil, or_false] at z ⊢; rcases z with z | z | z | z <;> simp [z])
theorem T0.later {c c' c2 : Nat} {y' : Sy} {n' : Nat} (h : T0 hd kp ks Y M y n c) (t : TS hd kp ks Y M y n M' y' n' c') (hc : c' + c2 ≤ c) : T0 hd kp ks Y M' y' n' c2 :=
  ⟨t.h, by have := h.nn; have := t.nn; omega, h.kl, t.ya, t.g, by have := h.tl; have := t.e.tl; omega, by have := h.fl; have := t.e.fl; omega, h.o1, h.o2⟩
theorem TS.trans {M2 : Mm} {y1 y2 : Sy} {n1 n2 c c' : Nat} (t : TS hd kp ks Y M y n M' y1 n1 c) (s : TS hd kp ks Y M' y1 n1 M2 y2 n2 c') : TS hd kp ks Y M y n M2 y2 n2 (c + c') :=
  ⟨s.h, by have := t.nn; have := s.nn; omega, s.ya, s.g, t.e.trans s.e, t.kk.trans s.kk⟩
theorem TS.mono {y' : Sy} {n' c c' : Nat} (t : TS hd kp ks Y M y n M' y' n' c) (h : c ≤ c') : TS hd kp ks Y M y n M' y' n' c' := ⟨t.h, by have := t.nn; omega, t.ya, t.g, t.e.mono h, t.kk⟩
theorem TS.keep {M2 : Mm} {y' : Sy} {n' c : Nat} (t : TS hd kp ks Y M y n M' y' n' c) (kk : Keeps [] M' M2) : TS hd kp ks Y M y n M2 y' n' c :=
  ⟨t.h.keep kk (by simp) (by simp), t.nn, t.ya.keep' kk (by simp), t.g, t.e, t.kk.trans (kk.mono (by simp))⟩
-- two steps of the hand at most for one node
theorem TS.hand {y' : Sy} {n' c : Nat} (t : TS hd kp ks Y M y n M' y' n' c) {M2 : Mm} (ho : hd ∉ Y.six) (h : Hd M2 hd kp ks (n' + 1)) (hn : n' + 1 ≤ n + 2 * c) (kk : Keeps [hd] M' M2) : TS hd kp ks Y M y n M2 y' (n' + 1) c :=
  ⟨h, hn, t.ya.keep' kk (fun a ha hl => ho (by rw [← List.mem_singleton.mp hl]; exact ha)), t.g, t.e, t.kk.trans (kk.mono fun x hx => by rw [List.mem_singleton.mp hx]; exact .head _)⟩
theorem step_br {b : Bool} {K : V → Mm → Prop} (h : Hd M hd kp ks n) (hn : n < 1000) (hl : ks.length ≤ 50) (hK : ∀ M' (r : Nat), Hd M' hd kp ks (n + 1) → (b = true → r < 6) → (b = false → r < 4) → Keeps [hd] M M' → K (.int (r : Nat)) M') :
    br b (callV C (k + 1) (.ref 530) [.ref hd, .int 6] M K) (callV C (k + 1) (.ref 530) [.ref hd, .int 4] M K) := by
  cases b with
  | true => exact c_law_step (w := 6) h hn hl (by decide) fun M' r a b c => hK M' r a (fun _ => b) (fun z => by cases z) c
  | false => exact c_law_step (w := 4) h hn hl (by decide) fun M' r a b c => hK M' r a (fun z => by cases z) (fun _ => b) c
-- the children of a node
noncomputable def WTr (hd kp : Addr) (ks : List Int) (Y : SY) (M : Mm) (y : Sy) (n m' f c : Nat) (i : Nat) (Xs : List V) (M' : Mm) : Prop :=
  ∃ l y' n', Xs = tvL l ∧ l.length = i ∧ TS hd kp ks Y M y n M' y' n' (1 + i * nN m') ∧ tokL y' l ∧ alL l ≤ i * aN m' ∧ szL l ≤ i * sN m' ∧ arOf y' f = some c
theorem tree_node {m d k : Nat} (hdm : d + m = 3) (T : T0 hd kp ks Y M y n (nN m))
    (rec : ∀ m', m = m' + 1 → ∀ {M : Mm} {Q : V → Mm → Prop} {y : Sy} {n : Nat}, T0 hd kp ks Y M y n (nN m') → (∀ M' y' n' t, TS hd kp ks Y M y n M' y' n' (nN m') → tok y' t → al t ≤ aN m' → sz t ≤ sN m' → Q (tv t) M') → CallP C (k + m + 2) (.ref 535) [.ref hd, .ref Y.sy, .int ((d + 1 : Nat) : Int)] M Q)
    (hQ : ∀ M' y' n' t, TS hd kp ks Y M y n M' y' n' (nN m) → tok y' t → al t ≤ aN m → sz t ≤ sN m → Q (tv t) M') : CallP C (k + m + 3) (.ref 535) [.ref hd, .ref Y.sy, .int (d : Nat)] M Q := by
  have nn := T.nn
  have np := nN_pos m
  have tl := T.tl
  have fl := T.fl
  have s1 : 1 ≤ sN m := by cases m <;> simp [sN]; omega
  refine callP_tree (k := k + m + 2) (f_treeB ?_)
  refine Eq.mpr e_ltI ?_
  refine step_br (n := n) T.h (by omega) T.kl fun M1 r h1 r6 r4 k1 => ?_
  have t0 : TS hd kp ks Y M y n M y n 0 := ⟨T.h, Nat.le_refl _, T.ya, T.g, SyE.refl y, Keeps.refl _ _⟩
  have t1 := (t0.mono (Nat.zero_le 1)).hand T.o1 h1 (by omega) k1
  refine Eq.mpr e_ltI ?_
  refine Eq.mpr e_br ⟨fun z => ?_, fun z => ?_⟩
  · refine c_law_step (w := 5) t1.h (by omega) T.kl (by decide) fun M2 r' h2 hr k2 => ?_
    exact hQ M2 y _ (.v r') ((t1.hand T.o1 h2 (by omega) k2).mono np) hr (Nat.zero_le _) s1
  refine Eq.mpr e_eqI ?_
  refine Eq.mpr e_br ⟨fun z3 => ?_, fun z3 => ?_⟩
  · refine Eq.mpr (t1.ya.meth (x := n_atom) (f := 88) (by decide +kernel) rfl) ?_
    refine c_atom t1.ya t1.g.i (by have := t1.e.tl; omega) fun M2 y2 a2 ya2 i2 _ _ e2 k2 => ?_
    intro b hb
    have h2 := t1.h.keep k2 (four_six T.o1) (four_six T.o2)
    have t2 : TS hd kp ks Y M y n M2 y2 (n + 1) 1 := ⟨h2, by omega, ya2, t1.g.next e2 i2, e2, t1.kk.trans (k2.mono fun x hx => .tail _ hx)⟩
    have t3 := t2.keep (Keeps.new (x := .list [.int 0, .int (a2 : Nat)]) hb)
    refine c_law_step (w := 2) t3.h (by omega) T.kl (by decide) fun M3 r' h3 hr k3 => ?_
    have t4 := (t3.hand T.o1 h3 (by omega) k3).mono np
    have hb3 : M3 b = some (.list [.int 0, .int (a2 : Nat)]) := k3 _ _ (upd_same ..) (fun z => by rw [List.mem_singleton.mp z] at hb; rw [h2.hd] at hb; cases hb)
    have : r' = 0 ∨ r' = 1 := by omega
    rcases this with rfl | rfl
    · refine Eq.mpr (e_item (n := 0) hb3 rfl (by decide)) ?_
      exact hQ M3 y2 _ (.a 0) t4 trivial (Nat.zero_le _) s1
    · refine Eq.mpr (e_item (n := 1) hb3 rfl (by decide)) ?_
      exact hQ M3 y2 _ (.a a2) t4 trivial (Nat.zero_le _) s1
  have hr3 : ¬ (r : Int) < 3 := of_decide_eq_false z
  have hr3' : ¬ (r : Int) = 3 := of_decide_eq_false z3
  obtain ⟨m', rfl⟩ : ∃ m', m = m' + 1 := by
    cases m with
    | zero =>
      have : ¬ ((d : Nat) : Int) < 3 := by omega
      have := r4 (decide_eq_false this)
      omega
    | succ m' => exact ⟨m', rfl⟩
  have hr6 : r < 6 := by
    have : ((d : Nat) : Int) < 3 := by omega
    exact r6 (decide_eq_true this)
  obtain ⟨c, hc, hc2⟩ : ∃ c : Nat, (r : Int) - 3 = (c : Int) ∧ c ≤ 2 := ⟨r - 3, by omega, by omega⟩
  have en : nN (m' + 1) = 1 + 2 * nN m' := rfl
  have ea : aN (m' + 1) = 3 + 2 * aN m' := rfl
  have es : sN (m' + 1) = 2 + 2 * sN m' := rfl
  rw [en] at T nn tl fl
  refine Eq.mpr (t1.ya.meth (x := n_func) (f := 109) (by decide +kernel) rfl) ?_
  refine Eq.mpr (e_sub' (c := (c : Nat)) hc) ?_
  refine c_func t1.ya t1.g.i (by have := t1.e.tl; omega) (by have := t1.e.fl; omega) fun M2 y2 f a2 ya2 i2 ha hf e2 k2 => ?_
  have h2 := t1.h.keep k2 (four_six T.o1) (four_six T.o2)
  have t2 : TS hd kp ks Y M y n M2 y2 (n + 1) 1 := ⟨h2, by omega, ya2, t1.g.next e2 i2, e2, t1.kk.trans (k2.mono fun x hx => .tail _ hx)⟩
  have f0 : f ≠ 0 := by
    rintro rfl
    obtain ⟨a0, n0, d1, d2⟩ := t2.g.dot
    rw [hf] at d1; cases d1
    rw [ha] at d2
    simp only [Option.some.injEq] at d2
    have : sq n_g (u [46]) = false := by decide +kernel
    rw [sq_iff.mpr d2] at this; cases this
  refine ev_theComp (WTr hd kp ks Y M y n m' f c) (d := (d : Nat)) (N := c) hc (by omega) ⟨[], y2, _, rfl, rfl, by simpa using t2, trivial, Nat.zero_le _, Nat.zero_le _, by unfold arOf; rw [hf]; rfl⟩ ?_ ?_
  · rintro i Xs Mx hi ⟨l, y', n', rfl, hl, ts, hk, hal, hsz, har⟩
    have hi2 : i ≤ 1 := by omega
    have hm1 : (1 + i * nN m') + nN m' ≤ 1 + 2 * nN m' := by
      have : i * nN m' ≤ 1 * nN m' := Nat.mul_le_mul_right _ hi2
      omega
    have hd1 : ((d : Nat) : Int) + 1 = ((d + 1 : Nat) : Int) := by omega
    rw [hd1]
    refine rec m' rfl (T.later ts hm1) fun M3 y3 n3 t ts3 tk3 al3 sz3 => ?_
    refine ⟨l ++ [t], y3, n3, tvL_snoc l t, by simp [hl], ?_, tokL_snoc (tokL_next ts3.e l hk) tk3, ?_, ?_, ar_next ts3.e har⟩
    · have := ts.trans ts3
      rwa [show 1 + i * nN m' + nN m' = 1 + (i + 1) * nN m' by rw [Nat.add_mul]; omega] at this
    · rw [alL_snoc, Nat.add_mul]; omega
    · rw [szL_snoc, Nat.add_mul]; omega
  · rintro Xs Mx ⟨l, y', n', rfl, hl, ts, hk, hal, hsz, har⟩ b hb
    have hlen : (tvL l).length = c := by rw [tvL_map]; simpa using hl
    refine ⟨_, upd_same .., by rw [hlen]; omega, ?_⟩
    have ts' := ts.keep (Keeps.new (x := .list (tvL l)) hb)
    have m1 : c * nN m' ≤ 2 * nN m' := Nat.mul_le_mul_right _ hc2
    have m2 : c * aN m' ≤ 2 * aN m' := Nat.mul_le_mul_right _ hc2
    have m3 : c * sN m' ≤ 2 * sN m' := Nat.mul_le_mul_right _ hc2
    refine hQ _ y' n' (.s f l) (ts'.mono (by rw [en]; omega)) ⟨f0, ?_, by omega, hk⟩ ?_ ?_
    · rw [hl]; exact har
    · show 1 + l.length + alL l ≤ _
      rw [ea]; omega
    · show 2 + szL l ≤ _
      rw [es]; omega
theorem c_tree : ∀ (m d k : Nat) {M : Mm} {Q : V → Mm → Prop} {y : Sy} {n : Nat}, d + m = 3 → T0 hd kp ks Y M y n (nN m) → (∀ M' y' n' t, TS hd kp ks Y M y n M' y' n' (nN m) → tok y' t → al t ≤ aN m → sz t ≤ sN m → Q (tv t) M') →
    CallP C (k + m + 3) (.ref 535) [.ref hd, .ref Y.sy, .int (d : Nat)] M Q
  | 0, d, k, _, _, _, _, h, T, hQ => tree_node h T (fun m' e => by cases e) hQ
  | m + 1, d, k, _, _, _, _, h, T, hQ => tree_node h T (fun m' e {M Q y n} T' hQ' => by cases e; exact c_tree m (d + 1) k (by omega) T' hQ') hQ
end
end
end Mine

end
section
open PySem PySem.W PyProof.Rows PySem.Calls
set_option Elab.async false
set_option maxRecDepth 100000
set_option linter.all false
namespace Mine
noncomputable section
-- what lies where, while an object is made
structure Has (M0 M : Mm) (l : List (Addr × MO)) : Prop where
  nd : (l.map (·.1)).Nodup
  at_ : ∀ p ∈ l, M p.1 = some p.2
  no : ∀ p ∈ l, M0 p.1 = none
  kk : Keeps [] M0 M
section
variable {C : Cx} {k : Nat} {M M0 M' : Mm} {Q : V → Mm → Prop} {l : List (Addr × MO)} {d a : Addr} {z : MO}
theorem Has.new (h : Has M0 M ((d, z) :: l)) (ha : M a = none) (x : MO) : Has M0 (upd M a x) ((d, z) :: (a, x) :: l) := by
  have ne : ∀ p ∈ (d, z) :: l, p.1 ≠ a := fun p hp e => by have := h.at_ p hp; rw [e, ha] at this; cases this
  have nd := List.nodup_cons.mp h.nd
  refine ⟨?_, fun p hp => ?_, fun p hp => ?_, h.kk.trans (Keeps.new ha)⟩
  · refine List.nodup_cons.mpr ⟨fun hm => ?_, List.nodup_cons.mpr ⟨fun hm => ?_, nd.2⟩⟩
    · rcases List.mem_cons.mp hm with e | hm
      · exact ne _ (.head _) e
      · exact nd.1 hm
    · obtain ⟨p, hp, e⟩ := List.mem_map.mp hm
      exact ne p (.tail _ hp) e
  · rcases List.mem_cons.mp hp with rfl | hp
    · rw [upd_ne _ _ (ne _ (.head _))]; exact h.at_ _ (.head _)
    · rcases List.mem_cons.mp hp with rfl | hp
      · exact upd_same ..
      · rw [upd_ne _ _ (ne _ (.tail _ hp))]; exact h.at_ _ (.tail _ hp)
  · rcases List.mem_cons.mp hp with rfl | hp
    · exact h.no _ (.head _)
    · rcases List.mem_cons.mp hp with rfl | hp
      · exact none_of (kk := h.kk) ha
      · exact h.no _ (.tail _ hp)
theorem Has.set (h : Has M0 M ((d, z) :: l)) (x : MO) : Has M0 (upd M d x) ((d, x) :: l) := by
  have nd := List.nodup_cons.mp h.nd
  refine ⟨h.nd, fun p hp => ?_, fun p hp => ?_, fun b y e n => ?_⟩
  · rcases List.mem_cons.mp hp with rfl | hp
    · exact upd_same ..
    · rw [upd_ne _ _ (fun e => nd.1 (List.mem_map.mpr ⟨p, hp, e⟩))]; exact h.at_ _ (.tail _ hp)
  · rcases List.mem_cons.mp hp with rfl | hp
    · exact h.no (d, z) (.head _)
    · exact h.no _ (.tail _ hp)
  · rw [upd_ne _ _ (by rintro rfl; rw [h.no (b, z) (.head _)] at e; cases e)]; exact h.kk b y e n
theorem Has.init {x : Addr} {c : Addr} (hx : M x = none) (hd : M d = none) (ne : x ≠ d) : Has M (upd (upd M d (.ns [])) x (.inst c d)) [(d, .ns []), (x, .inst c d)] := by
  refine ⟨by simp; exact Ne.symm ne, fun p hp => ?_, fun p hp => ?_, (Keeps.new hd).trans (Keeps.new (by rw [upd_ne _ _ ne]; exact hx))⟩
  · simp only [List.mem_cons, List.not_mem_nil, or_false] at hp
    rcases hp with rfl | rfl
    · rw [upd_ne _ _ (Ne.symm ne), upd_same]
    · exact upd_same ..
  · simp only [List.mem_cons, List.not_mem_nil, or_false] at hp
    rcases hp with rfl | rfl
    · exact hd
    · exact hx
-- an attribute of the object that is made
theorem Has.attr {x c : Addr} {ls : List (Str × V)} {nm : Str} {X : V} {Q : Mm → Prop} (h : Has M0 M ((d, .ns ls) :: l)) (hx : (x, .inst c d) ∈ l) (ok : attrIn c nm = true) (hl : Nat.ble ls.length 90 = true) (hQ : Has M0 (upd M d (.ns (Mine.st nm X ls))) ((d, .ns (Mine.st nm X ls)) :: l) → Q (upd M d (.ns (Mine.st nm X ls)))) :
    setAttrV M attrIn X (.ref x) nm Q := Eq.mpr (e_setAttr (h.at_ _ (.tail _ hx)) (h.at_ _ (.head _)) ok (Nat.lt_of_le_of_lt (Nat.le_of_ble_eq_true hl) (by decide))) (hQ (h.set _))
theorem allM {α : Type} {p : α → Bool} {Z : α} {l : List α} (h : Z ∈ l) (ha : l.all p = true) : p Z = true := List.all_eq_true.mp ha Z h
noncomputable def isStrV : V → Bool
  | .str _ => true
  | _ => false
noncomputable def isNat (X : V) : Bool := match X with
  | .int n => decide (0 ≤ n)
  | _ => false
noncomputable def isRowL (l : List V) : Bool := match l with
  | [] => false
  | X :: r => match r with
    | [] => false
    | Y :: r => isStrV X && isNat Y && isNil r
noncomputable def isRowV (X : V) : Bool := match X with
  | .tup l => isRowL l
  | _ => false
theorem isRow_of {Z : V} (h : isRowV Z = true) : ∃ t n, Z = .tup [.str t, .int (n : Nat)] := by
  cases Z <;> try (cases h; done)
  rename_i l
  rcases l with _ | ⟨X, _ | ⟨Y, r⟩⟩
  · cases h
  · cases h
  have h1 := band (show (isStrV X && isNat Y && isNil r) = true from h)
  have h2 := band h1.1
  cases r with
  | cons _ _ => cases h1.2
  | nil =>
  cases X <;> try (cases h2.1; done)
  cases Y <;> try (cases h2.2; done)
  rename_i t n
  exact ⟨t, n.toNat, by rw [Int.toNat_of_nonneg (of_decide_eq_true h2.2)]⟩
noncomputable def W26 (M : Mm) (Y : SY) (i : Nat) (vals : List V) (M' : Mm) : Prop := vals = [.ref Y.sy] ∧ ∃ y, SyA M' Y y ∧ SyI y ∧ y.fs = [] ∧ y.texts.length ≤ i ∧ Keeps [] M M'
noncomputable def W28 (M : Mm) (Y : SY) (i : Nat) (vals : List V) (M' : Mm) : Prop := vals = [.ref Y.sy] ∧ ∃ y, SyA M' Y y ∧ SyI y ∧ y.texts.length ≤ 40 + i ∧ y.fs.length ≤ i ∧ (1 ≤ i → ∃ a n, y.fs[0]? = some (a, n) ∧ y.texts[a]? = some (u [46])) ∧ Keeps [] M M'
theorem keeps_four {Y : SY} {M1 M2 : Mm} (hn : ∀ a ∈ Y.six, M a = none) (k1 : Keeps [] M M1) (k2 : Keeps Y.four M1 M2) : Keeps [] M M2 := fun b x e n =>
  k2 b x (k1 b x e n) fun hm => by
    have : b ∈ Y.six := by simp only [SY.four, SY.six, List.mem_cons, List.not_mem_nil, or_false] at hm ⊢; rcases hm with z | z | z | z <;> simp [z]
    rw [hn b this] at e; cases e
theorem c_Sym_new (hQ : ∀ Y M' y, SyA M' Y y → SyG y → y.texts.length ≤ 100 → y.fs.length ≤ 100 → Keeps [] M M' → (∀ a ∈ Y.six, M a = none) → Q (.ref Y.sy) M') : CallP C (k + 4) (.ref 154) [] M Q := by
  refine call_class (fI := 81) (by kernel_rfl) (by kernel_rfl) (by kernel_rfl) fun x d hx hd ne => ?_
  have h0 := Has.init (c := 154) hx hd ne
  revert h0
  generalize upd (upd M d (.ns [])) x (.inst 154 d) = M1
  intro h0
  refine f_Sym_init (fun i vals M' => ∃ Y, Y.sy = x ∧ (∀ a ∈ Y.six, M a = none) ∧ W26 M Y i vals M') (fun i vals M' => ∃ Y, Y.sy = x ∧ (∀ a ∈ Y.six, M a = none) ∧ W28 M Y i vals M') ?_
  intro tx htx
  refine (h0.new htx _).attr (c := 154) (by simp) (by decide +kernel) rfl fun h1 => ?_
  refine ⟨.sdic [], rfl, fun an han => ?_⟩
  refine (h1.new han _).attr (c := 154) (by simp) (by decide +kernel) rfl fun h2 => ?_
  intro fs hfs
  have tf : tx ≠ fs := fun e => by
    subst e
    have := h2.at_ (tx, .list []) (by simp)
    rw [hfs] at this; cases this
  refine (h2.new hfs _).attr (c := 154) (by simp) (by decide +kernel) rfl fun h3 => ?_
  refine ⟨.tdic [], rfl, fun fn hfn => ?_⟩
  refine (h3.new hfn _).attr (c := 154) (by simp) (by decide +kernel) rfl fun h4 => ?_
  clear h0 h1 h2 h3 htx han hfs hfn
  revert h4
  generalize upd _ _ _ = M2
  intro h4
  have ya : SyA M2 ⟨x, d, tx, an, fs, fn⟩ ⟨[], [], [], []⟩ :=
    ⟨h4.at_ (x, .inst 154 d) (by simp), h4.at_ _ (.head _), h4.at_ (tx, .list []) (by simp), h4.at_ (an, .sdic []) (by simp), h4.at_ (fs, .list []) (by simp), h4.at_ (fn, .tdic []) (by simp), tf⟩
  have hn : ∀ a ∈ SY.six ⟨x, d, tx, an, fs, fn⟩, M a = none := fun a ha => by
    simp only [SY.six, List.mem_cons, List.not_mem_nil, or_false] at ha
    rcases ha with rfl | rfl | rfl | rfl | rfl | rfl
    · exact hx
    · exact hd
    · exact h4.no (a, .list []) (by simp)
    · exact h4.no (a, .sdic []) (by simp)
    · exact h4.no (a, .list []) (by simp)
    · exact h4.no (a, .tdic []) (by simp)
  have kk := h4.kk
  clear h4 hx hd ne tf
  refine f_fixed_atoms ?_
  refine ⟨_, rfl, ⟨_, rfl, hn, rfl, _, ya, ⟨fun _ _ h => (by cases h), fun _ _ _ h => (by cases h), Nat.le_refl _, Nat.le_refl _⟩, rfl, Nat.le_refl _, kk⟩, ?_, ?_⟩
  · clear ya hn kk
    rintro i Z v Mx hZ hs ⟨Y, rfl, hn, e, y, ya, yi, yf, yl, kk⟩
    simp only [List.cons.injEq, and_true] at e
    subst e
    have hi : i < 29 := (List.getElem?_eq_some_iff.mp hZ).1
    have hz : isStrV Z = true := allM (List.mem_of_getElem? hZ) rfl
    cases Z with
    | str t =>
      refine Eq.mpr (ya.meth (x := n_atom) (f := 88) (by decide +kernel) rfl) ?_
      refine c_atom ya yi (by omega) fun M3 y3 _ ya3 yi3 _ yf3 e3 k3 => ?_
      exact ⟨rfl, Y, rfl, hn, rfl, y3, ya3, yi3, yf3.trans yf, by have := e3.tl; omega, keeps_four hn kk k3⟩
    | _ => cases hz
  · clear ya hn kk
    rintro v Mx hs ⟨Y, rfl, hn, e, y, ya, yi, yf, yl, kk⟩
    simp only [List.cons.injEq, and_true] at e
    subst e
    have yl : y.texts.length ≤ 29 := yl
    refine f_fixed_functors ?_
    refine ⟨_, rfl, ⟨Y, rfl, hn, rfl, y, ya, yi, by omega, by rw [yf]; exact Nat.le_refl _, fun z => by omega, kk⟩, ?_, ?_⟩
    · clear ya hn kk yf yl yi hs
      rintro i Z v Mx hZ hs ⟨Y', hY, hn, e, y, ya, yi, yl, yf, yd, kk⟩
      simp only [List.cons.injEq, and_true] at e
      subst e
      have hi : i < 32 := (List.getElem?_eq_some_iff.mp hZ).1
      obtain ⟨t, n, rfl⟩ := isRow_of (allM (List.mem_of_getElem? hZ) rfl)
      refine Eq.mpr (ya.meth (x := n_func) (f := 109) (by decide +kernel) rfl) ?_
      refine Eq.mpr (e_tup (n := 0) rfl (by decide)) ?_
      refine Eq.mpr (e_tup (n := 1) rfl (by decide)) ?_
      refine c_func ya yi (by omega) (by omega) fun M3 y3 f a ya3 yi3 ha hf e3 k3 => ?_
      refine ⟨rfl, Y', hY, hn, rfl, y3, ya3, yi3, by have := e3.tl; omega, by have := e3.fl; omega, fun _ => ?_, keeps_four hn kk k3⟩
      rcases Nat.eq_zero_or_pos i with rfl | hp
      · have hlt := (List.getElem?_eq_some_iff.mp hf).1
        have : f = 0 := by have := e3.fl; omega
        subst this
        have e : some (V.tup [.str (u [46]), .int 2]) = some (V.tup [.str t, .int (n : Nat)]) := hZ
        simp only [Option.some.injEq, V.tup.injEq, List.cons.injEq, V.str.injEq] at e
        exact ⟨a, n, hf, by rw [ha, e.1]⟩
      · obtain ⟨a, n, d1, d2⟩ := yd hp
        exact ⟨a, n, e3.fs _ _ d1, e3.tx _ _ d2⟩
    · rintro v Mx hs ⟨Y', hY, hn, e, y, ya, yi, yl, yf, yd, kk⟩
      rw [← hY]
      have yl : y.texts.length ≤ 72 := yl
      have yf : y.fs.length ≤ 32 := yf
      have yd := yd (show 1 ≤ 32 by decide)
      exact ⟨rfl, hQ Y' _ y ya ⟨yi, yd⟩ (by omega) (by omega) kk hn⟩
-- Store(names)
theorem c_Store_new {Y : SY} {y : Sy} (ya : SyA M Y y) (yn : y.fs.length < 900) (hQ : ∀ S M', G M' S ⟨[], [], [], 0, 0⟩ Y y → Keeps [] M M' → (∀ a ∈ S.five, M a = none) → Q (.ref S.st) M') : CallP C (k + 2) (.ref 374) [.ref Y.sy] M Q := by
  refine call_class (fI := 195) (by kernel_rfl) (by kernel_rfl) (by kernel_rfl) fun x d hx hd ne => ?_
  have h0 := Has.init (c := 374) hx hd ne
  revert h0
  generalize upd (upd M d (.ns [])) x (.inst 374 d) = M1
  intro h0
  have ok : okFn (md 24 0) [n_self, n_symbols, n_max_heap] = true := by kernel_rfl
  unfold okFn at ok
  simp only [Bool.and_eq_true, Bool.not_eq_true', decide_eq_true_eq, List.all_eq_true] at ok
  obtain ⟨⟨⟨⟨⟨o1, o2⟩, o3⟩, o4⟩, o5⟩, o6⟩ := ok
  refine callP_gen (a := 195) (c := 194) (o := (fnE (md 24 0) (u [67, 101, 108, 108, 115, 46, 95, 95, 105, 110, 105, 116, 95, 95]) 195 pm1 408 (.ref 188)).2) (fd := fdE (md 24 0) (u [67, 101, 108, 108, 115, 46, 95, 95, 105, 110, 105, 116, 95, 95]) 195 pm1 408 (.ref 188)) (body := fBody (md 24 0)) (loc := zipL [n_self, n_symbols, n_max_heap] [.ref x, .ref Y.sy, .int 100000]) (by kernel_rfl) rfl rfl (List.contains_iff_mem.mp (by kernel_rfl)) rfl (fun L => rfl) (fun x hx => o4 x hx)
    (fun s vs dv K => ⟨zipB [n_self, n_symbols, n_max_heap] (vs ++ [.int 100000 438]), ?_, fun x hx => o5 _ (zipB_mem hx), fun z Z e => zipB_look (xs := [.ref x, .ref Y.sy, .int 100000]) o6 (dv.append (.cons (by simp [Den]) .nil)) e⟩) o1 o2 o3 ?_
  · obtain ⟨a, b, rfl, _, _⟩ := den2 dv
    exact binds_K (K := KT C.w.params) (T := 188) (o := { cls := .type "tuple", data := .seq (Array.mk [.int 100000 438]) 0 }) K rfl (by kernel_rfl) rfl rfl rfl
  · show ExsP C _ (List.take 50 (List.drop 0 (fBody (md 24 0)))) _ _ _
    refine f_CellsI ?_
    refine h0.attr (c := 374) (by simp) (by decide +kernel) rfl fun h1 => ?_
    refine h1.attr (c := 374) (by simp) (by decide +kernel) rfl fun h2 => ?_
    intro h hh
    refine (h2.new hh _).attr (c := 374) (by simp) (by decide +kernel) rfl fun h3 => ?_
    intro t ht
    have th : t ≠ h := fun e => by
      subst e
      have := h3.at_ (t, .list []) (by simp)
      rw [ht] at this; cases this
    refine (h3.new ht _).attr (c := 374) (by simp) (by decide +kernel) rfl fun h4 => ?_
    intro r hr
    have rh : r ≠ h := fun e => by
      subst e
      have := h4.at_ (r, .list []) (by simp)
      rw [hr] at this; cases this
    have rt : r ≠ t := fun e => by
      subst e
      have := h4.at_ (r, .list []) (by simp)
      rw [hr] at this; cases this
    refine (h4.new hr _).attr (c := 374) (by simp) (by decide +kernel) rfl fun h5 => ?_
    refine h5.attr (c := 374) (by simp) (by decide +kernel) rfl fun h6 => ?_
    refine h6.attr (c := 374) (by simp) (by decide +kernel) rfl fun h7 => ?_
    clear h1 h2 h3 h4 h5 h6 hh ht hr h0
    revert h7
    generalize upd _ _ _ = M2
    intro h7
    have no : ∀ a ∈ SA.five ⟨x, d, h, t, r, Y.sy⟩, M a = none := fun a ha => by
      simp only [SA.five, List.mem_cons, List.not_mem_nil, or_false] at ha
      rcases ha with rfl | rfl | rfl | rfl | rfl
      · exact hx
      · exact hd
      · exact h7.no (a, .list []) (by simp)
      · exact h7.no (a, .list []) (by simp)
      · exact h7.no (a, .list []) (by simp)
    refine ⟨rfl, hQ ⟨x, d, h, t, r, Y.sy⟩ M2 ⟨⟨h7.at_ (x, .inst 374 d) (by simp), h7.at_ _ (.head _), h7.at_ (h, .list []) (by simp), h7.at_ (t, .list []) (by simp), h7.at_ (r, .list []) (by simp), Ne.symm th, Ne.symm rh, Ne.symm rt⟩, ya.keep' h7.kk (by simp), rfl, ⟨by decide, by decide, by decide⟩, by omega, fun a ha hs => ?_⟩ h7.kk no⟩
    have ha := no a (by simp only [SA.all, SA.five, List.mem_cons, List.not_mem_nil, or_false] at ha ⊢; exact .inr ha)
    simp only [SY.six, List.mem_cons, List.not_mem_nil, or_false] at hs
    rcases hs with rfl | rfl | rfl | rfl | rfl | rfl <;> simp [ya.inst, ya.ns, ya.tx, ya.an, ya.fs, ya.fn] at ha
end
end
end Mine

end
section
open PySem PySem.W PyProof.Rows PySem.Calls
set_option Elab.async false
set_option maxRecDepth 100000
set_option linter.all false
namespace Mine
noncomputable section
-- what lies apart
structure Apt (hd kp ta : Addr) (S : SA) (Y : SY) : Prop where
  h6 : hd ∉ Y.six
  k6 : kp ∉ Y.six
  h5 : hd ∉ S.five
  k5 : kp ∉ S.five
  ht : hd ≠ ta
  kt : kp ≠ ta
section
variable {C : Cx} {k : Nat} {M M' M2 : Mm} {Q : V → Mm → Prop} {hd kp ta : Addr} {ks : List Int} {n : Nat} {Y : SY} {y y' : Sy} {S : SA} {A A' : Ar} {tb tb' : Tb}
theorem Blk.next {p c : Nat} (h : Blk y A p) (e : SyE y y' c) : Blk y' A p := by
  obtain ⟨f, n, h1, h2, h3, h4, h5⟩ := h
  exact ⟨f, n, h1, ar_next e h2, h3, h4, h5⟩
theorem CellOk.next {c : Cl} {m : Nat} (h : CellOk y A c) (e : SyE y y' m) : CellOk y' A c := by
  cases c with
  | str p => exact Blk.next h e
  | _ => exact h
theorem BW.next {pl : List Nat} {m : Nat} (h : BW y A tb pl) (e : SyE y y' m) : BW y' A tb pl :=
  ⟨fun i c hc => by
    have := h.cell i c hc
    cases c with
    | str p => exact ⟨this.1, this.2.next e⟩
    | _ => exact this, h.tbl, h.stk, h.pend, h.up⟩
-- the state of the law while it builds
structure LW (hd kp ta : Addr) (ks : List Int) (S : SA) (Y : SY) (M : Mm) (A : Ar) (y : Sy) (tb : Tb) (n : Nat) : Prop where
  h : Hd M hd kp ks n
  kl : ks.length ≤ 50
  p : PT M S Y y ta A M A tb []
  tr : A.trail = []
  g : SyG y
  ap : Apt hd kp ta S Y
  sl : A.stack.length = 2
theorem PT.again {A0 : Ar} (h : PT M S Y y ta A0 M' A tb []) : PT M' S Y y ta A M' A tb [] := ⟨h.g, h.bw, h.tav, Keeps.refl _ _, rfl, h.bb, rfl, h.nd, h.sk, h.ot, fun _ h => h⟩
theorem Apt.all (a : Apt hd kp ta S Y) : hd ∉ ta :: S.all ∧ kp ∉ ta :: S.all :=
  ⟨fun z => (List.mem_cons.mp z).elim a.ht (fun q => a.h5 (.tail _ q)), fun z => (List.mem_cons.mp z).elim a.kt (fun q => a.k5 (.tail _ q))⟩
-- a term is put
theorem LW.put (L : LW hd kp ta ks S Y M A y tb n) (p : PT M S Y y ta A M' A' tb' []) : LW hd kp ta ks S Y M' A' y tb' n :=
  ⟨L.h.keep p.kk L.ap.all.1 L.ap.all.2, L.kl, p.again, p.tr.trans L.tr, L.g, L.ap, p.sl.trans L.sl⟩
theorem G.off (g : G M S A Y y) : ∀ a ∈ S.five, a ∉ Y.six := fun a ha hs => by
  rcases List.mem_cons.mp ha with rfl | ha
  · simp only [SY.six, List.mem_cons, List.not_mem_nil, or_false] at hs
    rcases hs with e | e | e | e | e | e <;> have h := g.s.inst <;> rw [e] at h <;> simp [g.ya.inst, g.ya.ns, g.ya.tx, g.ya.an, g.ya.fs, g.ya.fn] at h
  · exact g.dis a ha hs
-- a tree is drawn
theorem LW.tree {c n' : Nat} (L : LW hd kp ta ks S Y M A y tb n) (t : TS hd kp ks Y M y n M' y' n' c) (hc : y.fs.length + c < 1000) : LW hd kp ta ks S Y M' A y' tb n' := by
  have g := L.p.g
  have no : ∀ a ∈ S.five, a ∉ hd :: Y.four := fun a ha hm => by
    rcases List.mem_cons.mp hm with rfl | hm
    · exact L.ap.h5 ha
    · exact four_six (g.off a ha) hm
  have ot := L.p.ot
  have nt : ta ∉ hd :: Y.four := fun hm => by
    rcases List.mem_cons.mp hm with e | hm
    · exact L.ap.ht e.symm
    · exact four_six ot.2 hm
  have g' : G M' S A Y y' := ⟨g.s.keep t.kk no, t.ya, g.sy, g.m, by have := t.e.fl; omega, g.dis⟩
  exact ⟨t.h, L.kl, ⟨g', L.p.bw.next t.e, t.kk _ _ L.p.tav nt, Keeps.refl _ _, rfl, L.p.bb, rfl, L.p.nd, L.p.sk, ot, fun _ h => h⟩, L.tr, t.g, L.ap, L.sl⟩
-- the hand goes on
theorem LW.hand (L : LW hd kp ta ks S Y M A y tb n) (h : Hd M' hd kp ks (n + 1)) (kk : Keeps [hd] M M') : LW hd kp ta ks S Y M' A y tb (n + 1) := by
  have g := L.p.g
  exact ⟨h, L.kl, ⟨g.keep kk (fun a ha => by rw [List.mem_singleton.mp ha]; exact ⟨L.ap.h5, L.ap.h6⟩), L.p.bw, kk _ _ L.p.tav (fun z => L.ap.ht (List.mem_singleton.mp z).symm), Keeps.refl _ _, rfl, L.p.bb, rfl, L.p.nd, L.p.sk, L.p.ot, fun _ h => h⟩, L.tr, L.g, L.ap, L.sl⟩
noncomputable def stk (i : Nat) : List Cl := (List.range i).map Cl.srf
noncomputable def W474 (i : Nat) (vals : List V) (M' : Mm) : Prop :=
  ∃ hd kp ta ks S Y y tb, vals = [.ref hd, .ref Y.sy, .ref S.st, .ref ta] ∧ Apt hd kp ta S Y ∧ Out S Y ta ∧ ks.length ≤ 50 ∧ SyG y ∧ y.texts.length ≤ 100 ∧ y.fs.length ≤ 100 ∧ Hd M' hd kp ks i ∧ G M' S ⟨[], stk i, [], 0, 0⟩ Y y ∧ M' ta = some (.idic (vV tb)) ∧ (∀ p ∈ tb, ∃ j : Nat, j < i ∧ p = ((j : Int), .srf j)) ∧ (tb.map (·.1)).Nodup ∧ tb.length ≤ i
theorem stk_len {i : Nat} : (stk i).length = i := by simp [stk]
theorem stk_at {i j : Nat} (h : j < i) : (stk i)[j]? = some (.srf j) := by simp [stk, h]
theorem stk_succ {i : Nat} : stk (i + 1) = stk i ++ [.srf i] := by simp [stk, List.range_succ]
theorem off {a : Addr} {x : MO} (h : M a = some x) (h' : M a = none) : False := by rw [h] at h'; cases h'
theorem c_stack_put' {c : Cl} {i : Nat} (g : G M S A Y y) (hi : A.stack.length = i) (hl : i < 400) (h : ∀ M', G M' S { A with stack := A.stack ++ [c] } Y y → Keeps S.all M M' → Q .none M') : CallP C (k + 1) (.ref 279) [.ref S.st, .int (i : Nat), cv c] M Q := by
  subst hi; exact c_stack_put g hl h
theorem lawA {R : Fl → Loc → Mm → Prop}
    (hR : ∀ M' hd kp ta ks S Y A y tb, LW hd kp ta ks S Y M' A y tb 2 → A.heap = [] → tb.length ≤ 2 → y.texts.length ≤ 100 → y.fs.length ≤ 100 → R .next [(n_hand, .ref hd), (n_names, .ref Y.sy), (n_store, .ref S.st), (n_table, .ref ta)] M') :
    ExsP C ⟨k + 8, fScope (ms 49), []⟩ (List.take 5 (List.drop 0 (fBody (ms 49)))) (zipL [n_script] [.ref C.sc]) M R := by
  refine f_lawA W474 ?_
  refine c_law_start fun M1 hd kp ks h1 kl k1 hn kn => ?_
  refine c_Sym_new fun Y M2 y ya yg yt yf k2 no6 => ?_
  have h2 := h1.keep k2 (by simp) (by simp)
  refine c_Store_new ya (by omega) fun S M3 g3 k3 no5 => ?_
  have h3 := h2.keep k3 (by simp) (by simp)
  refine ⟨.idic [], rfl, fun ta hta => ?_⟩
  have ot := g3.out hta
  have k4 : Keeps [] M3 (upd M3 ta (.idic [])) := Keeps.new hta
  have ap : Apt hd kp ta S Y := ⟨fun z => off h1.hd (no6 _ z), fun z => off h1.kp (no6 _ z), fun z => off h2.hd (no5 _ z), fun z => off h2.kp (no5 _ z), fun z => off h3.hd (z ▸ hta), fun z => off h3.kp (z ▸ hta)⟩
  refine ⟨by decide, by decide, ⟨hd, kp, ta, ks, S, Y, y, [], rfl, ap, ot, kl, yg, yt, yf, h3.keep k4 (by simp) (by simp), g3.keep0 k4, upd_same .., (fun p hp => by cases hp), List.nodup_nil, Nat.le_refl _⟩, ?_, ?_⟩
  · clear ot ap yg yt yf ya h1 h2 h3 k1 k2 k3 k4 g3 no5 no6 hta kl hn kn
    rintro i v v1 v2 v3 Mx hi ⟨hd, kp, ta, ks, S, Y, y, tb, e, ap, ot, kl, yg, yt, yf, h, g, ht, htb, nd, tl⟩
    simp only [List.cons.injEq, and_true] at e
    obtain ⟨rfl, rfl, rfl, rfl⟩ := e
    have hi : i < 2 := hi
    have e0 : (0 : Int) + (i : Int) * 1 = (i : Int) := by omega
    rw [e0]
    refine Eq.mpr (g.s.meth (x := n_stack_put) (f := 279) (by decide +kernel) rfl) ?_
    refine c_stack_put' (c := .srf i) (A := ⟨[], stk i, [], 0, 0⟩) g stk_len (by omega) fun M1 g1 k1 => ?_
    have g1 : G M1 S ⟨[], stk (i + 1), [], 0, 0⟩ Y y := by rw [stk_succ]; exact g1
    have h1 := h.keep k1 (fun z => ap.h5 (.tail _ z)) (fun z => ap.k5 (.tail _ z))
    have ht1 := k1 _ _ ht (not_all ot)
    refine c_law_step (w := 2) h1 (by omega) kl (by decide) fun M2 r h2 hr k2 => ?_
    have g2 := g1.keep k2 (fun a ha => by rw [List.mem_singleton.mp ha]; exact ⟨ap.h5, ap.h6⟩)
    have ht2 := k2 _ _ ht1 (fun z => ap.ht (List.mem_singleton.mp z).symm)
    have up : ∀ p ∈ tb, ∃ j : Nat, j < i + 1 ∧ p = ((j : Int), .srf j) := fun p hp => let ⟨j, h1, h2⟩ := htb p hp; ⟨j, by omega, h2⟩
    refine Eq.mpr e_eqI ?_
    refine Eq.mpr e_br ⟨fun _ => ?_, fun _ => ⟨hd, kp, ta, ks, S, Y, y, tb, rfl, ap, ot, kl, yg, yt, yf, h2, g2, ht2, up, nd, by omega⟩⟩
    refine Eq.mpr (e_setTab (X := cv (.srf i)) ht2 (by omega)) ?_
    have kn : kvAt (vV tb) (i : Int) = none := by
      cases e : kvAt (vV tb) (i : Int) with
      | none => rfl
      | some X =>
        obtain ⟨c, _, hc⟩ := vV_inv e
        obtain ⟨j, hj, ej⟩ := htb _ hc
        simp only [Prod.mk.injEq] at ej
        omega
    rw [vV_add kn]
    have k3 : Keeps [ta] M2 (upd M2 ta (.idic (vV (tb ++ [((i : Int), .srf i)])))) := Keeps.upd (by simp)
    refine ⟨hd, kp, ta, ks, S, Y, y, tb ++ [((i : Int), .srf i)], rfl, ap, ot, kl, yg, yt, yf, h2.keep k3 (by simpa using ap.ht) (by simpa using ap.kt), g2.keep k3 (by simpa using ot), upd_same .., fun p hp => ?_, nodup_add nd kn, by simp; omega⟩
    rcases List.mem_append.mp hp with q | q
    · exact up p q
    · exact ⟨i, by omega, by simpa using q⟩
  · rintro v v1 v2 v3 Mx ⟨hd, kp, ta, ks, S, Y, y, tb, e, ap, ot, kl, yg, yt, yf, h, g, ht, htb, nd, tl⟩
    simp only [List.cons.injEq, and_true] at e
    obtain ⟨rfl, rfl, rfl, rfl⟩ := e
    have sk : ∀ k i, (k, Cl.srf i) ∈ tb → k = (i : Int) ∧ i < 2 := fun k i hm => by
      obtain ⟨j, hj, e⟩ := htb _ hm
      simp only [Prod.mk.injEq, Cl.srf.injEq] at e
      obtain ⟨rfl, rfl⟩ := e
      exact ⟨rfl, hj⟩
    refine hR _ hd kp ta ks S Y ⟨[], stk 2, [], 0, 0⟩ y tb ⟨h, kl, ⟨g, ⟨(fun i c hc => by simp at hc), fun k c hm => ?_, fun i c hc => ?_, (fun p hp => by cases hp), .nil⟩, ht, Keeps.refl _ _, rfl, ⟨rfl, rfl⟩, rfl, nd, fun k i hm => (sk k i hm).1, ot, fun _ h => h⟩, rfl, yg, ap, stk_len⟩ rfl tl yt yf
    · obtain ⟨j, hj, e⟩ := htb _ hm
      simp only [Prod.mk.injEq] at e
      exact .inr ⟨j, e.2, stk_at hj⟩
    · have hi : i < 2 := by have := (List.getElem?_eq_some_iff.mp hc).1; simpa [stk_len] using this
      have := stk_at hi
      rw [show (stk 2)[i]? = some c from hc] at this
      exact .inl (Option.some.inj this)
end
end
end Mine

end
section
open PySem PySem.W PyProof.Rows PySem.Calls
set_option Elab.async false
set_option maxRecDepth 100000
set_option linter.all false
namespace Mine
noncomputable section
-- forests: what a list of cells unfolds to
set_option genInjectivity false in
inductive Fo where
  | nil
  | v (c : Cl) (r : Fo)
  | k (n : Nat) (r : Fo)
  | f (g : Nat) (a r : Fo)
noncomputable def fv : Fo → List Cl
  | .nil => []
  | .v c r => c :: fv r
  | .k _ r => fv r
  | .f _ a r => fv a ++ fv r
noncomputable def fap : Fo → Fo → Fo
  | .nil, t => t
  | .v c r, t => .v c (fap r t)
  | .k n r, t => .k n (fap r t)
  | .f g a r, t => .f g a (fap r t)
noncomputable def fz : Fo → Nat
  | .nil => 0
  | .v _ r => 1 + fz r
  | .k _ r => 1 + fz r
  | .f _ a r => 1 + fz a + fz r
noncomputable def fsb (v : Cl) (s : Fo) : Fo → Fo
  | .nil => .nil
  | .v c r => if c = v then fap s (fsb v s r) else .v c (fsb v s r)
  | .k n r => .k n (fsb v s r)
  | .f g a r => .f g (fsb v s a) (fsb v s r)
theorem fz_app : ∀ a b, fz (fap a b) = fz a + fz b
  | .nil, b => by simp [fap, fz]
  | .v c r, b => by simp only [fap, fz, fz_app r b]; omega
  | .k n r, b => by simp only [fap, fz, fz_app r b]; omega
  | .f g a r, b => by simp only [fap, fz, fz_app r b]; omega
theorem fv_app : ∀ a b, fv (fap a b) = fv a ++ fv b
  | .nil, b => rfl
  | .v c r, b => by simp only [fap, fv, fv_app r b]; rfl
  | .k n r, b => by simp only [fap, fv, fv_app r b]
  | .f g a r, b => by simp only [fap, fv, fv_app r b, List.append_assoc]
theorem fv_sb {v : Cl} {s : Fo} {x : Cl} : ∀ t, x ∈ fv (fsb v s t) → x ∈ fv s ∨ x ∈ fv t
  | .nil, h => .inr h
  | .v c r, h => by
    unfold fsb at h
    split at h
    · rw [fv_app] at h
      rcases List.mem_append.mp h with h | h
      · exact .inl h
      · exact (fv_sb r h).imp id (.tail _)
    · rcases List.mem_cons.mp h with rfl | h
      · exact .inr (.head _)
      · exact (fv_sb r h).imp id (.tail _)
  | .k n r, h => fv_sb r h
  | .f g a r, h => by
    rcases List.mem_append.mp h with h | h
    · exact (fv_sb a h).imp id (List.mem_append_left _)
    · exact (fv_sb r h).imp id (List.mem_append_right _)
inductive Unf (ar : Nat → Option Nat) (A : Ar) : List Cl → Fo → Prop where
  | nil : Unf ar A [] .nil
  | var {c l t} (h : look A c = some c) (hv : isV c = true) (r : Unf ar A l t) : Unf ar A (c :: l) (.v c t)
  | con {n l t} (r : Unf ar A l t) : Unf ar A (.con n :: l) (.k n t)
  | go {c c' l t} (h : look A c = some c') (ne : c' ≠ c) (r : Unf ar A (c' :: l) t) : Unf ar A (c :: l) t
  | str {p g n l a t} (h : A.heap[p]? = some (.fn g)) (hn : ar g = some n) (h2 : n ≤ 2) (hb : p + 1 + n ≤ A.heap.length) (ra : Unf ar A (vars (p + 1) n) a) (r : Unf ar A l t) : Unf ar A (.str p :: l) (.f g a t)
section
variable {ar : Nat → Option Nat} {A A' : Ar} {l l' : List Cl} {t t' s : Fo} {c d v w : Cl}
theorem Unf.det (h : Unf ar A l t) : ∀ {t'}, Unf ar A l t' → t = t' := by
  induction h with
  | nil => intro t' h; cases h; rfl
  | var h hv _ ih =>
    intro t' h'
    cases h' with
    | var _ _ r => rw [ih r]
    | con r => cases hv
    | go h' ne r => rw [h] at h'; cases h'; exact absurd rfl ne
    | str => cases hv
  | con _ ih =>
    intro t' h'
    cases h' with
    | var _ hv _ => cases hv
    | con r => rw [ih r]
    | go h' ne r => cases h'; exact absurd rfl ne
  | go h ne _ ih =>
    intro t' h'
    cases h' with
    | var h' _ _ => rw [h] at h'; cases h'; exact absurd rfl ne
    | con r => cases h; exact absurd rfl ne
    | go h' _ r => rw [h] at h'; cases h'; exact ih r
    | str => cases h; exact absurd rfl ne
  | str h hn _ _ _ _ iha ih =>
    intro t' h'
    cases h' with
    | var _ hv _ => cases hv
    | go h' ne r => cases h'; exact absurd rfl ne
    | str h' hn' _ _ ra r => rw [h] at h'; cases h'; rw [hn] at hn'; cases hn'; rw [iha ra, ih r]
theorem Unf.app (h : Unf ar A l t) (h' : Unf ar A l' t') : Unf ar A (l ++ l') (fap t t') := by
  induction h with
  | nil => exact h'
  | var h hv _ ih => exact .var h hv ih
  | con _ ih => exact .con ih
  | go h ne _ ih => exact .go h ne ih
  | str h hn h2 hb ra _ _ ih => exact .str h hn h2 hb ra ih
theorem Unf.hd (h : Unf ar A (c :: l) t) : ∃ d, look A c = some d := by
  cases h with
  | var h _ _ => exact ⟨_, h⟩
  | con => exact ⟨_, rfl⟩
  | go h _ _ => exact ⟨_, h⟩
  | str => exact ⟨_, rfl⟩
-- the areas' shape
structure Hp (A : Ar) : Prop where
  r : ∀ i j : Nat, A.heap[i]? = some (.ref j) → j ≤ i
  n : ∀ i j : Nat, A.heap[i]? ≠ some (.srf j)
  s : ∀ i j : Nat, A.stack[i]? = some (.srf j) → j = i
  z : A.heap.length ≤ 60
theorem derF_more : ∀ {n : Nat} {c d : Cl}, derF A n c = some d → ∀ m, n ≤ m → derF A m c = some d
  | 0, c, d, h => by cases h
  | n + 1, c, d, h => fun m hm => by
    obtain ⟨m, rfl⟩ : ∃ k, m = k + 1 := ⟨m - 1, by omega⟩
    rw [derF_succ] at h ⊢
    split at h
    · cases h
    · rename_i e he
      split at h
      · rename_i q; rw [if_pos q]; exact h
      · rename_i q; rw [if_neg q]; exact derF_more h m (by omega)
theorem derF_stop {n : Nat} (h : look A c = some c) : derF A (n + 1) c = some c := by
  rw [derF_succ]; rw [h]; exact if_pos rfl
theorem derF_heap (H : Hp A) : ∀ (j : Nat), j < A.heap.length → ∃ d, derF A (j + 2) (.ref j) = some d := by
  intro j
  induction j using Nat.strongRecOn with
  | _ j ih =>
    intro hj
    have e : look A (.ref j) = some A.heap[j] := List.getElem?_eq_getElem hj
    generalize A.heap[j] = x at e
    show ∃ d, (match look A (.ref j) with | none => none | some d => if d = .ref j then some (.ref j) else derF A (j + 1) d) = some d
    rw [e]
    show ∃ d, (if x = .ref j then some (.ref j) else derF A (j + 1) x) = some d
    by_cases q : x = .ref j
    · rw [if_pos q]; exact ⟨_, rfl⟩
    · rw [if_neg q]
      cases x with
      | ref i =>
        have h1 := H.r j i e
        have h2 : i ≠ j := fun e => q (by rw [e])
        obtain ⟨d, hd⟩ := ih i (by omega) (by omega)
        exact ⟨d, derF_more hd _ (by omega)⟩
      | srf i => exact absurd e (H.n j i)
      | str p => exact ⟨_, derF_stop rfl⟩
      | con n => exact ⟨_, derF_stop rfl⟩
      | fn n => exact ⟨_, derF_stop rfl⟩
theorem dr_stop (h : look A c = some c) : dr A c = some c := derF_stop h
theorem dr_go (H : Hp A) (h : look A c = some c') (ne : c' ≠ c) (hs : ∃ d, look A c' = some d) : dr A c = dr A c' := by
  have e : dr A c = derF A 199 c' := by
    show (match look A c with | none => none | some d => if d = c then some c else derF A 199 d) = _
    rw [h]; exact if_neg ne
  rw [e]
  have fin : ∀ {d n}, derF A n c' = some d → n ≤ 199 → derF A 199 c' = dr A c' := fun h1 h2 => by
    rw [derF_more h1 199 h2]; exact (derF_more h1 200 (by omega)).symm
  obtain ⟨d, hd⟩ := hs
  have z := H.z
  cases c' with
  | ref j =>
    have hj := (List.getElem?_eq_some_iff.mp (show A.heap[j]? = some d from hd)).1
    obtain ⟨d, hd⟩ := derF_heap H j hj
    exact fin hd (by omega)
  | srf j =>
    cases c with
    | ref i => exact absurd h (H.n i j)
    | srf i => exact absurd (congrArg Cl.srf (H.s i j h)) ne
    | _ => cases h
  | str p => exact fin (n := 1) (derF_stop rfl) (by omega)
  | con p => exact fin (n := 1) (derF_stop rfl) (by omega)
  | fn p => exact fin (n := 1) (derF_stop rfl) (by omega)
-- what the first cell of a list comes to
inductive Stp (ar : Nat → Option Nat) (A : Ar) (l : List Cl) : Cl → Fo → Prop where
  | var {d r} (h : look A d = some d) (hv : isV d = true) (u : Unf ar A l r) : Stp ar A l d (.v d r)
  | con {n r} (u : Unf ar A l r) : Stp ar A l (.con n) (.k n r)
  | str {p g n a r} (h : A.heap[p]? = some (.fn g)) (hn : ar g = some n) (h2 : n ≤ 2) (hb : p + 1 + n ≤ A.heap.length) (ra : Unf ar A (vars (p + 1) n) a) (u : Unf ar A l r) : Stp ar A l (.str p) (.f g a r)
theorem Unf.step (H : Hp A) (h : Unf ar A (c :: l) t) : ∃ d, dr A c = some d ∧ Stp ar A l d t := by
  generalize e : c :: l = w at h
  induction h generalizing c l with
  | nil => cases e
  | var h hv r _ => cases e; exact ⟨_, dr_stop h, .var h hv r⟩
  | con r _ => cases e; exact ⟨_, dr_stop rfl, .con r⟩
  | go h ne r ih =>
    cases e
    obtain ⟨d, h1, h2⟩ := ih rfl
    exact ⟨d, by rw [dr_go H h ne r.hd]; exact h1, h2⟩
  | str h hn h2 hb ra r _ _ => cases e; exact ⟨_, dr_stop rfl, .str h hn h2 hb ra r⟩
theorem Stp.unf (h : Stp ar A l d t) : Unf ar A (d :: l) t := by
  cases h with
  | var h hv u => exact .var h hv u
  | con u => exact .con u
  | str h hn h2 hb ra u => exact .str h hn h2 hb ra u
theorem Unf.back (h : Unf ar A (d :: l) t) {n : Nat} (hd : derF A n c = some d) : Unf ar A (c :: l) t := by
  have := derF_der hd
  clear hd
  induction this with
  | stop => exact h
  | go h0 ne _ ih => exact .go h0 ne (ih h)
theorem dr_end {n : Nat} (h : derF A n c = some d) : dr A d = some d := dr_stop (derF_end h)
-- lists alike, place by place
inductive Pw (R : Cl → Cl → Prop) : List Cl → List Cl → Prop where
  | nil : Pw R [] []
  | cons {a b l l'} (h : R a b) (r : Pw R l l') : Pw R (a :: l) (b :: l')
theorem Pw.mono {R R' : Cl → Cl → Prop} (hr : ∀ a b, R a b → R' a b) (h : Pw R l l') : Pw R' l l' := by
  induction h with
  | nil => exact .nil
  | cons h _ ih => exact .cons (hr _ _ h) ih
theorem Pw.of {R : Cl → Cl → Prop} : ∀ {l l' : List Cl}, l.length = l'.length → (∀ (i : Nat) a b, l[i]? = some a → l'[i]? = some b → R a b) → Pw R l l'
  | [], [], _, _ => .nil
  | a :: l, b :: l', hl, h => .cons (h 0 a b rfl rfl) (Pw.of (by simpa using hl) fun i x y hx hy => h (i + 1) x y (by simpa using hx) (by simpa using hy))
noncomputable def Res (A : Ar) (met : List (Nat × Nat)) (l r : Cl) : Prop := dr A l = dr A r ∨ ∃ p q, dr A l = some (.str p) ∧ dr A r = some (.str q) ∧ (p, q) ∈ met
structure Arg (ar : Nat → Option Nat) (A : Ar) (met : List (Nat × Nat)) (x : Nat × Nat) : Prop where
  ex : ∃ g n, A.heap[x.1]? = some (.fn g) ∧ A.heap[x.2]? = some (.fn g) ∧ ar g = some n ∧ x.2 + 1 + n ≤ A.heap.length ∧ Pw (Res A met) (vars (x.1 + 1) n) (vars (x.2 + 1) n)
theorem Unf.res (H : Hp A) {met : List (Nat × Nat)} (hm : ∀ x ∈ met, Arg ar A met x) (h : Unf ar A l t) : ∀ {l'}, Pw (Res A met) l l' → Unf ar A l' t := by
  induction h with
  | nil => intro l' h; cases h; exact .nil
  | var h hv _ ih =>
    intro l' h'
    cases h' with
    | cons hr r =>
      rcases hr with e | ⟨p, q, e, _⟩
      · rw [dr_stop h] at e; exact (Unf.var h hv (ih r)).back e.symm
      · rw [dr_stop h] at e; cases e; cases hv
  | con _ ih =>
    intro l' h'
    cases h' with
    | cons hr r =>
      rcases hr with e | ⟨p, q, e, _⟩
      · rw [dr_stop rfl] at e; exact (Unf.con (ih r)).back e.symm
      · rw [dr_stop rfl] at e; cases e
  | go h ne r0 ih =>
    intro l' h'
    cases h' with
    | cons hr r =>
      have e := dr_go H h ne r0.hd
      refine ih (.cons ?_ r)
      unfold Res at hr ⊢
      rwa [← e]
  | str h hn h2 hb ra _ iha ih =>
    intro l' h'
    cases h' with
    | cons hr r =>
      rcases hr with e | ⟨p', q, e, e', hpq⟩
      · rw [dr_stop rfl] at e; exact (Unf.str h hn h2 hb ra (ih r)).back e.symm
      · rw [dr_stop rfl] at e; cases e
        obtain ⟨g, n, a1, a2, a3, a4, a5⟩ := (hm _ hpq).ex
        rw [h] at a1; cases a1
        rw [hn] at a3; cases a3
        exact (Unf.str a2 hn h2 a4 (iha a5) (ih r)).back e'
end
end
end Mine

end
section
open PySem PySem.W PyProof.Rows PySem.Calls
set_option Elab.async false
set_option maxRecDepth 100000
set_option linter.all false
namespace Mine
noncomputable section
-- a cell that unfolds, to variables of the heap alone
def Okc (ar : Nat → Option Nat) (A : Ar) (c : Cl) : Prop := ∃ t, Unf ar A [c] t ∧ ∀ x ∈ fv t, isS x = false
noncomputable def visF (ar : Nat → Option Nat) (A : Ar) : Nat → List Nat → List Cl → Option (List Nat)
  | 0, _, _ => none
  | _ + 1, _, [] => some []
  | n + 1, met, c :: w => match dr A c with
    | some (.ref i) => (visF ar A n met w).map (i :: ·)
    | some (.str p) => if p ∈ met then visF ar A n met w else match argsF ar A p with
      | some as => visF ar A n (p :: met) (as ++ w)
      | none => none
    | some (.con _) => visF ar A n met w
    | _ => none
theorem visF_nil {ar : Nat → Option Nat} {A : Ar} {n : Nat} {met : List Nat} : visF ar A (n + 1) met [] = some [] := rfl
theorem visF_cons {ar : Nat → Option Nat} {A : Ar} {n : Nat} {met : List Nat} {c : Cl} {w : List Cl} : visF ar A (n + 1) met (c :: w) = match dr A c with
    | some (.ref i) => (visF ar A n met w).map (i :: ·)
    | some (.str p) => if p ∈ met then visF ar A n met w else match argsF ar A p with
      | some as => visF ar A n (p :: met) (as ++ w)
      | none => none
    | some (.con _) => visF ar A n met w
    | _ => none := rfl
noncomputable def add1 (f : List Nat) (i : Nat) : List Nat := if i ∈ f then f else f ++ [i]
noncomputable def addL (f l : List Nat) : List Nat := l.foldl add1 f
noncomputable def nums (t : Fo) : List Nat := (fv t).map Cl.num
theorem addL_app {f a b : List Nat} : addL f (a ++ b) = addL (addL f a) b := List.foldl_append
theorem add1_mem {f : List Nat} {i x : Nat} : x ∈ add1 f i ↔ x ∈ f ∨ x = i := by
  unfold add1
  split
  · exact ⟨.inl, fun h => h.elim id fun e => by rw [e]; assumption⟩
  · simp
theorem addL_mem {x : Nat} : ∀ {l f : List Nat}, x ∈ addL f l ↔ x ∈ f ∨ x ∈ l
  | [], f => by simp [addL]
  | i :: l, f => by
    show x ∈ addL (add1 f i) l ↔ _
    rw [addL_mem, add1_mem, List.mem_cons, or_assoc]
theorem addL_skip : ∀ {l f : List Nat}, (∀ x ∈ l, x ∈ f) → addL f l = f
  | [], f, _ => rfl
  | i :: l, f, h => by
    show addL (add1 f i) l = f
    have : add1 f i = f := if_pos (h i (.head _))
    rw [this]; exact addL_skip fun x hx => h x (.tail _ hx)
section
variable {ar : Nat → Option Nat} {A A' : Ar} {l l' : List Cl} {t t' s : Fo} {c d v w : Cl}
theorem vis_var : ∀ {n : Nat} {met : List Nat} {w : List Cl} {vs found : List Nat}, visF ar A n met w = some vs → varF ar A n found met w = some (addL found vs)
  | n + 1, met, [], vs, found, h => by cases h; rfl
  | n + 1, met, c :: w, vs, found, h => by
    simp only [visF_nil, visF_cons] at h
    simp only [varF_nil, varF_cons]
    split at h
    · rename_i i hd
      try simp only [hd]
      obtain ⟨vs', h1, rfl⟩ := Option.map_eq_some_iff.mp h
      rw [vis_var h1, vis_var h1]
      show (if i ∈ found then _ else _) = some (addL (add1 found i) vs')
      unfold add1
      split <;> rfl
    · rename_i p hd
      try simp only [hd]
      split at h
      · rename_i q; rw [if_pos q]; exact vis_var h
      · rename_i q; rw [if_neg q]
        split at h
        · rename_i ha; try simp only [ha]
          exact vis_var h
        · cases h
    · rename_i hd; try simp only [hd]
      exact vis_var h
    · cases h
theorem vis_gr : ∀ {n : Nat} {met : List Nat} {w : List Cl} {vs : List Nat}, visF ar A n met w = some vs → grF ar A n met w = some (decide (vs = []))
  | n + 1, met, [], vs, h => by cases h; rfl
  | n + 1, met, c :: w, vs, h => by
    simp only [visF_nil, visF_cons] at h
    simp only [grF_nil, grF_cons]
    split at h
    · rename_i i hd
      try simp only [hd]
      obtain ⟨vs', h1, rfl⟩ := Option.map_eq_some_iff.mp h
      rfl
    · rename_i p hd
      try simp only [hd]
      split at h
      · rename_i q; rw [if_pos q]; exact vis_gr h
      · rename_i q; rw [if_neg q]
        split at h
        · rename_i ha; try simp only [ha]
          exact vis_gr h
        · cases h
    · rename_i hd; try simp only [hd]
      exact vis_gr h
    · cases h
theorem vis_occ {v : Nat} : ∀ {n : Nat} {met : List Nat} {w : List Cl} {vs : List Nat}, visF ar A n met w = some vs → occF ar A (.ref v) n met w = some (decide (v ∈ vs))
  | n + 1, met, [], vs, h => by cases h; rfl
  | n + 1, met, c :: w, vs, h => by
    simp only [visF_nil, visF_cons] at h
    simp only [occF_nil, occF_cons]
    split at h
    · rename_i i hd
      try simp only [hd]
      obtain ⟨vs', h1, rfl⟩ := Option.map_eq_some_iff.mp h
      rw [vis_occ h1]
      by_cases q : i = v
      · simp [q]
      · have : v ≠ i := fun e => q e.symm
        simp [q, this]
    · rename_i p hd
      try simp only [hd]
      simp only [reduceCtorEq, if_false]
      split at h
      · rename_i q; rw [if_pos q]; exact vis_occ h
      · rename_i q; rw [if_neg q]
        split at h
        · rename_i ha; try simp only [ha]
          exact vis_occ h
        · cases h
    · rename_i hd; try simp only [hd]
      try simp only [reduceCtorEq, if_false]
      exact vis_occ h
    · cases h
theorem Unf.vars (h : Unf ar A l t) : ∀ x ∈ fv t, isV x = true ∧ look A x = some x := by
  induction h with
  | nil => intro x h; cases h
  | var h hv _ ih => intro x hx; rcases List.mem_cons.mp hx with rfl | hx; exact ⟨hv, h⟩; exact ih x hx
  | con _ ih => exact ih
  | go _ _ _ ih => exact ih
  | str _ _ _ _ _ _ iha ih => intro x hx; rcases List.mem_append.mp hx with hx | hx; exact iha x hx; exact ih x hx
theorem Unf.mem (h : Unf ar A l t) : ∀ c ∈ l, ∃ t', Unf ar A [c] t' ∧ ∀ x ∈ fv t', x ∈ fv t := by
  induction h with
  | nil => intro c h; cases h
  | @var c l t h hv _ ih =>
    intro x hx
    rcases List.mem_cons.mp hx with rfl | hx
    · exact ⟨.v x .nil, .var h hv .nil, fun z hz => by rw [List.mem_singleton.mp hz]; exact .head _⟩
    · obtain ⟨t', h1, h2⟩ := ih x hx; exact ⟨t', h1, fun z hz => .tail _ (h2 z hz)⟩
  | @con n l t _ ih =>
    intro x hx
    rcases List.mem_cons.mp hx with rfl | hx
    · exact ⟨.k n .nil, .con .nil, fun z hz => by cases hz⟩
    · exact ih x hx
  | @go c c' l t h ne _ ih =>
    intro x hx
    rcases List.mem_cons.mp hx with rfl | hx
    · obtain ⟨t', h1, h2⟩ := ih c' (.head _); exact ⟨t', .go h ne h1, h2⟩
    · exact ih x (.tail _ hx)
  | @str p g n l a t h hn h2 hb ra _ iha ih =>
    intro x hx
    rcases List.mem_cons.mp hx with rfl | hx
    · exact ⟨.f g a .nil, .str h hn h2 hb ra .nil, fun z hz => by
        have : z ∈ fv a ++ [] := hz
        rw [List.append_nil] at this
        exact List.mem_append_left _ this⟩
    · obtain ⟨t', h1, h2⟩ := ih x hx; exact ⟨t', h1, fun z hz => List.mem_append_right _ (h2 z hz)⟩
theorem dr_place (H : Hp A) {p : Nat} {b : Cl} (h : A.heap[p]? = some b) (hs : ∃ t, Unf ar A [.ref p] t) : dr A (.ref p) = dr A b := by
  by_cases q : b = .ref p
  · rw [q]
  · refine dr_go H h q ?_
    obtain ⟨t, ht⟩ := hs
    cases ht with
    | var h' _ _ => rw [show look A (.ref p) = some b from h] at h'; cases h'; exact absurd rfl q
    | go h' _ r => rw [show look A (.ref p) = some b from h] at h'; cases h'; exact r.hd
theorem vars_get {p n i : Nat} {a : Cl} (h : (vars p n)[i]? = some a) : i < n ∧ a = .ref (p + i) := by
  unfold Mine.vars at h
  rw [List.getElem?_map] at h
  obtain ⟨x, h1, rfl⟩ := Option.map_eq_some_iff.mp h
  obtain ⟨h2, h3⟩ := List.getElem?_eq_some_iff.mp h1
  simp at h2 h3
  exact ⟨h2, by rw [h3]⟩
theorem args_unf (H : Hp A) {p g n : Nat} {a : Fo} (h : A.heap[p]? = some (.fn g)) (hn : ar g = some n) (h2 : n ≤ 2) (hb : p + 1 + n ≤ A.heap.length) (ra : Unf ar A (vars (p + 1) n) a) :
    ∃ as, argsF ar A p = some as ∧ Unf ar A as a ∧ as.length = n ∧ Pw (fun x y => dr A x = dr A y) (vars (p + 1) n) as := by
  have hl : ((A.heap.drop (p + 1)).take n).length = n := by simp; omega
  have hp : Pw (fun x y => dr A x = dr A y) (vars (p + 1) n) ((A.heap.drop (p + 1)).take n) := by
    refine Pw.of (by rw [hl, vars_len]) fun i x y hx hy => ?_
    obtain ⟨hi, rfl⟩ := vars_get hx
    have hy : A.heap[p + 1 + i]? = some y := by simpa [List.getElem?_take, hi] using hy
    exact dr_place H hy (let ⟨t, h, _⟩ := ra.mem _ (List.mem_of_getElem? hx); ⟨t, h⟩)
  refine ⟨(A.heap.drop (p + 1)).take n, ?_, ra.res H (met := []) (fun x hx => by cases hx) (hp.mono fun a b e => .inl e), hl, hp⟩
  rw [argsF_def]
  rw [h]; dsimp only; rw [hn]; exact if_pos ⟨hb, h2⟩
theorem Okc.drs (H : Hp A) (h : Okc ar A c) : ∃ d t, dr A c = some d ∧ Stp ar A [] d t ∧ ∀ x ∈ fv t, isS x = false := by
  obtain ⟨t, h1, h2⟩ := h
  obtain ⟨d, h3, h4⟩ := h1.step H
  exact ⟨d, t, h3, h4, h2⟩
theorem Okc.mem (h : Unf ar A l t) (hs : ∀ x ∈ fv t, isS x = false) : ∀ c ∈ l, Okc ar A c := fun c hc =>
  let ⟨t', h1, h2⟩ := h.mem c hc; ⟨t', h1, fun x hx => hs x (h2 x hx)⟩
theorem vis_tot (H : Hp A) : ∀ n met w, (∀ c ∈ w, Okc ar A c) → w.length + 3 * unm 60 met < n → ∃ vs, visF ar A n met w = some vs
  | 0, _, _, _, h => by omega
  | n + 1, met, [], _, h => ⟨[], rfl⟩
  | n + 1, met, c :: w, ho, h => by
    simp only [List.length_cons] at h
    have ho' : ∀ c ∈ w, Okc ar A c := fun x hx => ho x (.tail _ hx)
    obtain ⟨d, t, hd, hs, hv⟩ := (ho c (.head _)).drs H
    simp only [visF_nil, visF_cons, hd]
    cases hs with
    | var h1 h2 _ =>
      have := hv d (.head _)
      cases d with
      | ref i =>
        obtain ⟨vs, h⟩ := vis_tot H n met w ho' (by omega)
        exact ⟨i :: vs, by simp only [h, Option.map_some]⟩
      | srf i => cases this
      | _ => cases h2
    | con _ => exact vis_tot H n met w ho' (by omega)
    | @str p g m a r hp hn h2 hb ra _ =>
      by_cases q : p ∈ met
      · simp only [q, if_true]; exact vis_tot H n met w ho' (by omega)
      · simp only [q, if_false]
        obtain ⟨as, h1, h3, h4, _⟩ := args_unf H hp hn h2 hb ra
        rw [h1]
        have z := H.z
        have := unm_cons (N := 60) (p := p) (by omega) q
        refine vis_tot H n _ _ (fun c hc => ?_) (by simp; omega)
        rcases List.mem_append.mp hc with hc | hc
        · exact Okc.mem h3 (fun x hx => hv x (List.mem_append_left _ hx)) c hc
        · exact ho' c hc
def Done (ar : Nat → Option Nat) (A : Ar) (found : List Nat) (p : Nat) : Prop := ∀ s, Unf ar A [.str p] s → ∀ x ∈ nums s, x ∈ found
def Big (ar : Nat → Option Nat) (A : Ar) (z p : Nat) : Prop := ∀ s, Unf ar A [.str p] s → z < fz s
theorem Done.mono {f f' : List Nat} {p : Nat} (h : Done ar A f p) (hf : ∀ x ∈ f, x ∈ f') : Done ar A f' p := fun s hs x hx => hf x (h s hs x hx)
theorem Big.mono {z z' p : Nat} (h : Big ar A z p) (hz : z' ≤ z) : Big ar A z' p := fun s hs => Nat.lt_of_le_of_lt hz (h s hs)
theorem vis_spec (H : Hp A) : ∀ m {l t}, fz t ≤ m → Unf ar A l t → ∀ n met w vs found, visF ar A n met (l ++ w) = some vs → (∀ p ∈ met, Done ar A found p ∨ Big ar A (fz t) p) →
    ∃ n' met' v1 v2, vs = v1 ++ v2 ∧ visF ar A n' met' w = some v2 ∧ addL found v1 = addL found (nums t) ∧ ∀ p ∈ met', p ∈ met ∨ Done ar A (addL found (nums t)) p := by
  intro m
  induction m with
  | zero =>
    intro l t hz u n met w vs found h hm
    cases l with
    | nil => cases u; exact ⟨n, met, [], vs, rfl, h, rfl, fun p hp => .inl hp⟩
    | cons c l =>
      obtain ⟨d, _, hs⟩ := u.step H
      cases hs <;> simp [fz] at hz <;> omega
  | succ m ih =>
    intro l t hz u n met w vs found h hm
    cases l with
    | nil => cases u; exact ⟨n, met, [], vs, rfl, h, rfl, fun p hp => .inl hp⟩
    | cons c l =>
    obtain ⟨d, hd, hs⟩ := u.step H
    cases n with
    | zero => cases h
    | succ n =>
    simp only [List.cons_append, visF_nil, visF_cons, hd] at h
    cases hs with
    | @var d r h1 h2 u' =>
      have hz : 1 + fz r ≤ m + 1 := hz
      cases d with
      | ref i =>
        obtain ⟨vs', h3, rfl⟩ := Option.map_eq_some_iff.mp h
        obtain ⟨n', met', v1, v2, rfl, a2, a3, a4⟩ := ih (by omega) u' n met w vs' (add1 found i) h3 fun p hp => (hm p hp).imp (fun z => z.mono fun x hx => add1_mem.mpr (.inl hx)) fun z => z.mono (by show fz r ≤ 1 + fz r; omega)
        exact ⟨n', met', i :: v1, v2, rfl, a2, a3, a4⟩
      | srf i => cases h
      | _ => cases h2
    | @con k r u' =>
      have hz : 1 + fz r ≤ m + 1 := hz
      exact ih (by omega) u' n met w vs found h fun p hp => (hm p hp).imp id fun z => z.mono (by show fz r ≤ 1 + fz r; omega)
    | @str p g k a r hp hn h2 hb ra u' =>
      have hz : 1 + fz a + fz r ≤ m + 1 := hz
      have ho : Unf ar A [.str p] (.f g a .nil) := .str hp hn h2 hb ra .nil
      have hnum : nums (.f g a r) = nums a ++ nums r := List.map_append
      have hself : nums (.f g a .nil) = nums a := by show ((fv a) ++ []).map _ = _; rw [List.append_nil]; rfl
      by_cases q : p ∈ met
      · simp only [q, if_true] at h
        have hdone : ∀ x ∈ nums a, x ∈ found := by
          rcases hm p q with z | z
          · intro x hx; exact z _ ho x (by rw [hself]; exact hx)
          · have := z _ ho; simp only [fz] at this; omega
        have e : addL found (nums (.f g a r)) = addL found (nums r) := by rw [hnum, addL_app, addL_skip hdone]
        rw [e]
        exact ih (by omega) u' n met w vs found h fun x hx => (hm x hx).imp id fun z => z.mono (by simp only [fz]; omega)
      · simp only [q, if_false] at h
        obtain ⟨as, h1, h3, h4, _⟩ := args_unf H hp hn h2 hb ra
        rw [h1] at h
        dsimp only at h
        obtain ⟨n1, met1, v1, v2, rfl, a2, a3, a4⟩ := ih (by omega) h3 n (p :: met) (l ++ w) vs found h fun x hx => by
          rcases List.mem_cons.mp hx with rfl | hx
          · refine .inr fun s hs => ?_
            rw [← ho.det hs]; simp only [fz]; omega
          · exact (hm x hx).imp id fun z => z.mono (by simp only [fz]; omega)
        have hp1 : ∀ x ∈ met1, x ∈ met ∨ Done ar A (addL found (nums a)) x := fun x hx => by
          rcases a4 x hx with z | z
          · rcases List.mem_cons.mp z with rfl | z
            · refine .inr fun s hs y hy => ?_
              rw [← ho.det hs, hself] at hy
              exact addL_mem.mpr (.inr hy)
            · exact .inl z
          · exact .inr z
        obtain ⟨n2, met2, w1, w2, rfl, b2, b3, b4⟩ := ih (by omega) u' n1 met1 w v2 (addL found (nums a)) a2 fun x hx => by
          rcases hp1 x hx with z | z
          · rcases hm x z with z | z
            · exact .inl (z.mono fun y hy => addL_mem.mpr (.inl hy))
            · exact .inr (z.mono (by simp only [fz]; omega))
          · exact .inl z
        refine ⟨n2, met2, v1 ++ w1, w2, by rw [List.append_assoc], b2, ?_, fun x hx => ?_⟩
        · rw [addL_app, a3, b3, hnum, addL_app]
        · rw [hnum, addL_app]
          rcases b4 x hx with z | z
          · rcases hp1 x z with z | z
            · exact .inl z
            · exact .inr (z.mono fun y hy => addL_mem.mpr (.inl hy))
          · exact .inr z
-- the whole visit of one cell
theorem vis_cell (H : Hp A) (u : Unf ar A [c] t) (hs : ∀ x ∈ fv t, isS x = false) : ∃ vs, visF ar A 1000 [] [c] = some vs ∧ addL [] vs = addL [] (nums t) := by
  have := @unm_le 60 []
  obtain ⟨vs, h⟩ := vis_tot (ar := ar) H 1000 [] [c] (fun x hx => by rw [List.mem_singleton.mp hx]; exact ⟨t, u, hs⟩) (by simp; omega)
  obtain ⟨n, met, v1, v2, rfl, h2, h3, _⟩ := vis_spec H _ (Nat.le_refl _) u 1000 [] [] vs [] h (fun p hp => by cases hp)
  refine ⟨v1 ++ v2, h, ?_⟩
  have : v2 = [] := by
    cases n with
    | zero => cases h2
    | succ n => simp only [visF_nil, visF_cons, Option.some.injEq] at h2; exact h2.symm
  rw [this, List.append_nil, h3]
theorem occ_spec (H : Hp A) {v : Nat} (u : Unf ar A [d] t) (hs : ∀ x ∈ fv t, isS x = false) (hd : dr A d = some d) (hv : isV d = false) : occI ar A (.ref v) d = some (decide (.ref v ∈ fv t)) := by
  have ne : d ≠ .ref v := fun e => by rw [e] at hv; cases hv
  unfold occI
  rw [hd]
  simp only [if_neg ne]
  obtain ⟨d', hd', st⟩ := u.step H
  rw [hd] at hd'; cases hd'
  cases st with
  | var _ h _ => rw [h] at hv; cases hv
  | con u' => cases u'; simp [occ2, fv]
  | @str p g k a r hp hn h2 hb ra u' =>
    obtain ⟨vs, h1, h3⟩ := vis_cell H u hs
    show occF ar A (.ref v) 1000 [] [.str p] = _
    rw [vis_occ h1]
    have e1 : v ∈ vs ↔ v ∈ nums (.f g a r) := by
      have := @addL_mem v vs []
      rw [h3, addL_mem] at this
      simpa using this.symm
    have e2 : v ∈ nums (.f g a r) ↔ Cl.ref v ∈ fv (.f g a r) := by
      unfold nums
      rw [List.mem_map]
      constructor
      · rintro ⟨x, hx, rfl⟩
        have h1 := hs x hx
        have h2 := (u.vars x hx).1
        cases x with
        | ref i => exact hx
        | srf i => cases h1
        | _ => cases h2
      · intro h; exact ⟨_, h, rfl⟩
    rw [decide_eq_decide.mpr (e1.trans e2)]
-- pairs that unfold alike
theorem same_spec (H : Hp A) : ∀ m {l l' t}, fz t ≤ m → Unf ar A l t → Unf ar A l' t → ∀ met, ∃ n, cmpF ar A n met (l.zip l') = true ∧ uniF ar n A met (l.zip l') = some (A, true) := by
  intro m
  induction m with
  | zero =>
    intro l l' t hz u u' met
    cases l with
    | nil => exact ⟨1, rfl, rfl⟩
    | cons c l =>
      obtain ⟨d, _, hs⟩ := u.step H
      cases hs <;> simp [fz] at hz <;> omega
  | succ m ih =>
    intro l l' t hz u u' met
    cases l with
    | nil => exact ⟨1, rfl, rfl⟩
    | cons c l =>
    cases l' with
    | nil => exact ⟨1, rfl, rfl⟩
    | cons c' l' =>
    obtain ⟨d, hd, hs⟩ := u.step H
    obtain ⟨d', hd', hs'⟩ := u'.step H
    have skip : ∀ {r}, d = d' → fz r ≤ m → Unf ar A l r → Unf ar A l' r → ∃ n, cmpF ar A n met ((c, c') :: l.zip l') = true ∧ uniF ar n A met ((c, c') :: l.zip l') = some (A, true) := fun e hz u u' => by
      obtain ⟨n, h1, h2⟩ := ih hz u u' met
      refine ⟨n + 1, ?_, ?_⟩
      · simp only [cmpF_nil, cmpF_cons, hd, hd', e, if_true]; exact h1
      · simp only [uniF_nil, uniF_cons, hd, hd', e, if_true]; exact h2
    rw [List.zip_cons_cons]
    cases hs with
    | var _ _ r => cases hs' with
      | var _ _ r' => simp only [fz] at hz; exact skip rfl (by omega) r r'
    | con r => cases hs' with
      | con r' => simp only [fz] at hz; exact skip rfl (by omega) r r'
    | @str p g k a r hp hn h2 hb ra u1 => cases hs' with
      | @str q _ _ _ _ hp' hn' h2' hb' ra' u1' =>
      simp only [fz] at hz
      by_cases e : p = q
      · exact skip (by rw [e]) (by omega) u1 u1'
      · have ne : ¬ (Cl.str p = Cl.str q) := fun z => e (by cases z; rfl)
        by_cases hm : (p, q) ∈ met
        · obtain ⟨n, h1, h2⟩ := ih (by omega) u1 u1' met
          refine ⟨n + 1, ?_, ?_⟩
          · simp only [cmpF_nil, cmpF_cons, hd, hd', if_neg ne, hp, hp', if_true, if_pos hm]; exact h1
          · simp only [uniF_nil, uniF_cons, hd, hd', if_neg ne, isV, hp, hp', if_true, if_pos hm]; exact h2
        · obtain ⟨as, a1, a2, a3, _⟩ := args_unf H hp hn h2 hb ra
          obtain ⟨bs, b1, b2, b3, _⟩ := args_unf H hp' hn' h2' hb' ra'
          obtain ⟨n, z1, z2⟩ := ih (l := as ++ l) (l' := bs ++ l') (t := fap a r) (by rw [fz_app]; omega) (a2.app u1) (b2.app u1') ((p, q) :: met)
          have kk : k = _ := Option.some.inj (hn.symm.trans hn')
          rw [List.zip_append (by rw [a3, b3, kk])] at z1 z2
          refine ⟨n + 1, ?_, ?_⟩
          · simp only [cmpF_nil, cmpF_cons, hd, hd', if_neg ne, hp, hp', if_true, if_neg hm, a1, b1]; exact z1
          · simp only [uniF_nil, uniF_cons, hd, hd', if_neg ne, isV, hp, hp', if_true, if_neg hm, a1, b1]; exact z2
end
end
end Mine

end
section
open PySem PySem.W PyProof.Rows PySem.Calls
set_option Elab.async false
set_option maxRecDepth 100000
set_option linter.all false
namespace Mine
noncomputable section
section
variable {ar : Nat → Option Nat} {A A' A1 : Ar} {l l' : List Cl} {t t' s : Fo} {c d v w x : Cl}
def okV : Cl → Cl → Prop
  | .ref j, .ref i => i ≤ j
  | _, .srf _ => False
  | _, _ => True
-- a binding
structure B1 (ar : Nat → Option Nat) (A : Ar) (v x : Cl) : Prop where
  hv : isV v = true
  hl : look A v = some v
  ne : x ≠ v
  tr : ∃ s, Unf ar A [x] s ∧ v ∉ fv s ∧ ∀ y ∈ fv s, isS y = false
  ok : okV v x
theorem look_ne (h : c ≠ v) : look (bindP A v x) c = look A c := by
  cases v with
  | ref n =>
    cases c with
    | ref m =>
      have : n ≠ m := fun e => h (by rw [e])
      exact List.getElem?_set_ne this
    | _ => rfl
  | srf n =>
    cases c with
    | srf m =>
      have : n ≠ m := fun e => h (by rw [e])
      exact List.getElem?_set_ne this
    | _ => rfl
  | _ => rfl
theorem look_self (hv : isV v = true) (h : look A v = some v) : look (bindP A v x) v = some x := by
  cases v with
  | ref n => exact List.getElem?_set_self (List.getElem?_eq_some_iff.mp (show A.heap[n]? = _ from h)).1
  | srf n => exact List.getElem?_set_self (List.getElem?_eq_some_iff.mp (show A.stack[n]? = _ from h)).1
  | _ => cases hv
theorem fn_bind {p g : Nat} (hl : look A v = some v) (h : A.heap[p]? = some (.fn g)) : (bindP A v x).heap[p]? = some (.fn g) := by
  cases v with
  | ref n =>
    have : n ≠ p := by rintro rfl; rw [show A.heap[n]? = some (.ref n) from hl] at h; cases h
    show (A.heap.set n x)[p]? = _
    rw [List.getElem?_set_ne this]; exact h
  | _ => exact h
theorem B1.keep (b : B1 ar A v x) (h : Unf ar A l t) (hn : v ∉ fv t) : Unf ar (bindP A v x) l t := by
  induction h with
  | nil => exact .nil
  | @var c l t h hv _ ih =>
    have ne : c ≠ v := fun e => hn (by rw [← e]; exact .head _)
    exact .var (by rw [look_ne ne]; exact h) hv (ih fun z => hn (.tail _ z))
  | con _ ih => exact .con (ih hn)
  | @go c c' l t h ne _ ih =>
    have nv : c ≠ v := fun e => by rw [e, b.hl] at h; cases h; exact ne e.symm
    exact .go (by rw [look_ne nv]; exact h) ne (ih hn)
  | str h hn' h2 hb _ _ iha ih => exact .str (fn_bind b.hl h) hn' h2 (by rw [bindP_len.1]; exact hb) (iha fun z => hn (List.mem_append_left _ z)) (ih fun z => hn (List.mem_append_right _ z))
theorem B1.sub (b : B1 ar A v x) (hs : Unf ar (bindP A v x) [x] s) (h : Unf ar A l t) : Unf ar (bindP A v x) l (fsb v s t) := by
  induction h with
  | nil => exact .nil
  | @var c l t h hv _ ih =>
    unfold fsb
    by_cases e : c = v
    · rw [if_pos e, e]
      exact .go (look_self b.hv b.hl) b.ne (hs.app ih)
    · rw [if_neg e]
      exact .var (by rw [look_ne e]; exact h) hv ih
  | con _ ih => exact .con ih
  | @go c c' l t h ne _ ih =>
    have nv : c ≠ v := fun e => by rw [e, b.hl] at h; cases h; exact ne e.symm
    exact .go (by rw [look_ne nv]; exact h) ne ih
  | str h hn' h2 hb _ _ iha ih => exact .str (fn_bind b.hl h) hn' h2 (by rw [bindP_len.1]; exact hb) iha ih
theorem B1.okc (b : B1 ar A v x) (h : Okc ar A c) : Okc ar (bindP A v x) c := by
  obtain ⟨s, h1, h2, h3⟩ := b.tr
  obtain ⟨t, h4, h5⟩ := h
  exact ⟨_, b.sub (b.keep h1 h2) h4, fun y hy => (fv_sb t hy).elim (h3 y) (h5 y)⟩
theorem B1.hp (b : B1 ar A v x) (H : Hp A) : Hp (bindP A v x) := by
  have hl := b.hl
  have ok := b.ok
  have hv := b.hv
  cases v with
  | ref n =>
    have hn := (List.getElem?_eq_some_iff.mp (show A.heap[n]? = _ from hl)).1
    refine ⟨fun i j h => ?_, fun i j h => ?_, H.s, by rw [bindP_len.1]; exact H.z⟩
    · rcases get_set (show (A.heap.set n x)[i]? = _ from h) hn with ⟨rfl, e⟩ | ⟨_, h⟩
      · rw [← e] at ok; exact ok
      · exact H.r i j h
    · rcases get_set (show (A.heap.set n x)[i]? = _ from h) hn with ⟨rfl, e⟩ | ⟨_, h⟩
      · rw [← e] at ok; exact ok
      · exact H.n i j h
  | srf n =>
    have hn := (List.getElem?_eq_some_iff.mp (show A.stack[n]? = _ from hl)).1
    refine ⟨H.r, H.n, fun i j h => ?_, H.z⟩
    rcases get_set (show (A.stack.set n x)[i]? = _ from h) hn with ⟨rfl, e⟩ | ⟨_, h⟩
    · rw [← e] at ok; exact ok.elim
    · exact H.s i j h
  | _ => cases hv
-- later areas: where a cell ends then
def Ext (A A' : Ar) : Prop := ∀ c d, dr A c = some d → ∃ e, dr A' d = some e ∧ dr A' c = some e
theorem Ext.refl : Ext A A := fun c d h => ⟨d, dr_end h, h⟩
theorem Ext.trans (h : Ext A A1) (h' : Ext A1 A') : Ext A A' := fun c d hd => by
  obtain ⟨e, h1, h2⟩ := h c d hd
  obtain ⟨e', h3, h4⟩ := h' c e h2
  obtain ⟨e'', h5, h6⟩ := h' d e h1
  rw [h3] at h5; cases h5
  exact ⟨e', h6, h4⟩
theorem Der.hd {n : Nat} (h : Der A n c d) : ∃ e, look A c = some e := by cases h with
  | stop h => exact ⟨_, h⟩
  | go h _ _ => exact ⟨_, h⟩
theorem B1.ext (b : B1 ar A v x) (H : Hp A) : Ext A (bindP A v x) := fun c d hd => by
  have H' := b.hp H
  have lv : ∀ c e, look A c = some e → ∃ e', look (bindP A v x) c = some e' := fun c e he => by
    by_cases q : c = v
    · rw [q]; exact ⟨_, look_self b.hv b.hl⟩
    · rw [look_ne q]; exact ⟨_, he⟩
  have same : dr (bindP A v x) c = dr (bindP A v x) d := by
    have D := derF_der hd
    clear hd
    generalize 200 = n at D
    induction D with
    | stop _ => rfl
    | @go n c c' d h0 ne r ih =>
      have nv : c ≠ v := fun e => by rw [e, b.hl] at h0; cases h0; exact ne e.symm
      obtain ⟨e, he⟩ := r.hd
      rw [dr_go H' (by rw [look_ne nv]; exact h0) ne (lv _ _ he)]
      exact ih
  have tot : ∃ e, dr (bindP A v x) d = some e := by
    by_cases q : d = v
    · obtain ⟨s, h1, h2, _⟩ := b.tr
      obtain ⟨e, he, _⟩ := (b.keep h1 h2).step H'
      refine ⟨e, ?_⟩
      rw [q, dr_go H' (look_self b.hv b.hl) b.ne (b.keep h1 h2).hd]
      exact he
    · exact ⟨d, dr_stop (by rw [look_ne q]; exact derF_end hd)⟩
  obtain ⟨e, he⟩ := tot
  exact ⟨e, he, by rw [same]; exact he⟩
-- a chain of bindings
inductive Bd (ar : Nat → Option Nat) : Ar → Ar → Prop where
  | nil {X : Ar} : Bd ar X X
  | cons {X X' : Ar} {v x : Cl} (b : B1 ar X v x) (r : Bd ar (bindP X v x) X') : Bd ar X X'
theorem Bd.hp (h : Bd ar A A') : Hp A → Hp A' := by
  induction h with
  | nil => exact id
  | cons b _ ih => exact fun H => ih (b.hp H)
theorem Bd.ext (h : Bd ar A A') : Hp A → Ext A A' := by
  induction h with
  | nil => exact fun _ => Ext.refl
  | cons b _ ih => exact fun H => (b.ext H).trans (ih (b.hp H))
theorem Bd.okc (h : Bd ar A A') : Okc ar A c → Okc ar A' c := by
  induction h with
  | nil => exact id
  | cons b _ ih => exact fun H => ih (b.okc H)
theorem Bd.fn (h : Bd ar A A') {p g : Nat} : A.heap[p]? = some (.fn g) → A'.heap[p]? = some (.fn g) := by
  induction h with
  | nil => exact id
  | cons b _ ih => exact fun H => ih (fn_bind b.hl H)
theorem Bd.len (h : Bd ar A A') : A'.heap.length = A.heap.length ∧ A'.stack.length = A.stack.length := by
  induction h with
  | nil => exact ⟨rfl, rfl⟩
  | @cons A A' v x b _ ih => obtain ⟨a, b, _⟩ := @bindP_len A v x; exact ⟨ih.1.trans a, ih.2.trans b⟩
theorem bind_hb : (bindP A v x).hb = A.hb ∧ (bindP A v x).bb = A.bb := by cases v <;> exact ⟨rfl, rfl⟩
-- undone, the areas are as they were
theorem Bd.undo (h : Bd ar A A') : A.hb = A.heap.length → A.bb = A.stack.length → ∃ ex, A'.trail = A.trail ++ ex ∧ (∀ t ∈ ex, trIn A' t) ∧ undoR A' A.trail ex = A ∧ A'.hb = A.hb ∧ A'.bb = A.bb := by
  induction h with
  | nil => exact fun _ _ => ⟨[], by simp, (fun _ h => by cases h), rfl, rfl, rfl⟩
  | @cons A A' v x b r ih =>
    intro h1 h2
    obtain ⟨l1, l2, _⟩ := @bindP_len A v x
    obtain ⟨k1, k2⟩ := @bind_hb A v x
    obtain ⟨ex, e1, e2, e3, e4, e5⟩ := ih (by rw [k1, l1, h1]) (by rw [k2, l2, h2])
    have n1 := r.len.1.trans l1
    have n2 := r.len.2.trans l2
    have hl := b.hl
    have hv := b.hv
    have fin : ∀ τ : Tr, (bindP A v x).trail = A.trail ++ [τ] → trIn A τ → undo1 { bindP A v x with trail := A.trail } τ = A → ∃ ex, A'.trail = A.trail ++ ex ∧ (∀ t ∈ ex, trIn A' t) ∧ undoR A' A.trail ex = A ∧ A'.hb = A.hb ∧ A'.bb = A.bb := fun τ t1 t2 t3 => by
      refine ⟨τ :: ex, by rw [e1, t1]; simp, fun t ht => ?_, ?_, e4.trans k1, e5.trans k2⟩
      · rcases List.mem_cons.mp ht with rfl | ht
        · cases t with
          | h n => show n < A'.heap.length; rw [n1]; exact t2
          | s n => show n < A'.stack.length; rw [n2]; exact t2
        · exact e2 t ht
      · rw [t1] at e3
        unfold undoR at e3 ⊢
        rw [List.reverse_cons, List.foldl_append]
        have key : ∀ (L : List Tr) (X : Ar) (T : List Tr), L.foldl undo1 { X with trail := T } = { L.foldl undo1 X with trail := T } := fun L => by
          induction L with
          | nil => intro X T; rfl
          | cons a L ihL =>
            intro X T
            show L.foldl undo1 (undo1 { X with trail := T } a) = _
            have : undo1 { X with trail := T } a = { undo1 X a with trail := T } := by cases a <;> rfl
            rw [this, ihL]; rfl
        rw [key ex.reverse A' (A.trail ++ [τ])] at e3
        rw [key ex.reverse A' A.trail]
        have e3' := congrArg (fun X : Ar => { X with trail := A.trail }) e3
        dsimp only at e3'
        show undo1 _ τ = A
        rw [e3']; exact t3
    cases v with
    | ref n =>
      have hn := (List.getElem?_eq_some_iff.mp (show A.heap[n]? = _ from hl))
      refine fin (.h n) ?_ hn.1 ?_
      · show (if n < A.hb then A.trail ++ [.h n] else A.trail) = _
        rw [if_pos (by rw [h1]; exact hn.1)]
      · show ({ A with heap := (A.heap.set n x).set n (.ref n) } : Ar) = A
        rw [List.set_set]
        have : A.heap.set n (.ref n) = A.heap := by
          have := List.set_getElem_self hn.1
          rw [hn.2] at this; exact this
        rw [this]
    | srf n =>
      have hn := (List.getElem?_eq_some_iff.mp (show A.stack[n]? = _ from hl))
      refine fin (.s n) ?_ hn.1 ?_
      · show (if n < A.bb then A.trail ++ [.s n] else A.trail) = _
        rw [if_pos (by rw [h2]; exact hn.1)]
      · show ({ A with stack := (A.stack.set n x).set n (.srf n) } : Ar) = A
        rw [List.set_set]
        have : A.stack.set n (.srf n) = A.stack := by
          have := List.set_getElem_self hn.1
          rw [hn.2] at this; exact this
        rw [this]
    | _ => cases hv
-- both ways round
def sw (w : List (Nat × Nat)) : List (Nat × Nat) := w.map fun x => (x.2, x.1)
def swC (w : List (Cl × Cl)) : List (Cl × Cl) := w.map fun x => (x.2, x.1)
theorem sw_mem {p q : Nat} {met : List (Nat × Nat)} : (p, q) ∈ sw met ↔ (q, p) ∈ met := by
  unfold sw
  rw [List.mem_map]
  constructor
  · rintro ⟨⟨a, b⟩, h, e⟩; cases e; exact h
  · intro h; exact ⟨(q, p), h, rfl⟩
theorem bpp_sym (ne : c ≠ d) : bindPairP A c d = bindPairP A d c := by
  cases c <;> cases d <;> try rfl
  all_goals
    rename_i i j
    have : i ≠ j := fun e => ne (by rw [e])
    simp only [bindPairP]
    by_cases h : i < j
    · rw [if_pos h, if_neg (by omega)]
    · rw [if_neg h, if_pos (by omega)]
theorem swC_zip : ∀ {as bs : List Cl}, swC (as.zip bs) = bs.zip as
  | [], [] => rfl
  | [], _ :: _ => rfl
  | _ :: _, [] => rfl
  | a :: as, b :: bs => by
    show (b, a) :: swC (as.zip bs) = _
    rw [swC_zip]; rfl
theorem uni_sym : ∀ {n : Nat} {A : Ar} {met : List (Nat × Nat)} {wk : List (Cl × Cl)} {res : Ar × Bool}, uniF ar n A met wk = some res → uniF ar n A (sw met) (swC wk) = some res
  | n + 1, A, met, [], res, h => h
  | n + 1, A, met, (l, r) :: wk, res, h => by
    show uniF ar (n + 1) A (sw met) ((r, l) :: swC wk) = some res
    simp only [uniF_nil, uniF_cons] at h ⊢
    split at h
    case h_2 => cases h
    rename_i l' r' hl hr
    simp only [hl, hr]
    by_cases e : l' = r'
    · simp only [e, if_true] at h ⊢; exact uni_sym h
    have e' : ¬ r' = l' := fun z => e z.symm
    rw [if_neg e] at h
    rw [if_neg e']
    split at h
    · rename_i v1 v2
      simp only [v1, v2]
      rw [← bpp_sym e]; exact uni_sym h
    · rename_i v1 v2
      simp only [v1, v2]
      split at h
      · exact h
      · exact uni_sym h
      · cases h
    · rename_i v1 v2
      simp only [v1, v2]
      split at h
      · exact h
      · exact uni_sym h
      · cases h
    · rename_i v1 v2
      simp only [v1, v2]
      split at h
      · rename_i p q
        split at h
        · rename_i f f' hp hq
          simp only [hp, hq]
          by_cases ff : f = f'
          · simp only [ff, if_true] at h ⊢
            by_cases hm : (p, q) ∈ met
            · rw [if_pos hm] at h
              rw [if_pos (sw_mem.mpr hm)]; exact uni_sym h
            · rw [if_neg hm] at h
              rw [if_neg fun z => hm (sw_mem.mp z)]
              split at h
              · rename_i as bs ha hb
                simp only [ha, hb]
                have := uni_sym h
                rw [show swC (as.zip bs ++ wk) = bs.zip as ++ swC wk by unfold swC; rw [List.map_append]; exact congrArg (· ++ _) swC_zip] at this
                exact this
              · cases h
          · have ff' : ¬ f' = f := fun z => ff z.symm
            rw [if_neg ff] at h
            rw [if_neg ff']; exact h
        · cases h
      · rename_i hh
        split
        · rename_i p q
          exact (hh q p rfl rfl).elim
        · exact h
end
end
end Mine

end
section
open PySem PySem.W PyProof.Rows PySem.Calls
set_option Elab.async false
set_option maxRecDepth 100000
set_option linter.all false
namespace Mine
noncomputable section
section
variable {ar : Nat → Option Nat} {A A' A1 : Ar} {l r : Cl} {t t' s : Fo} {c d v w x : Cl} {met : List (Nat × Nat)} {wk : List (Cl × Cl)}
-- how a unification ends
def UC (ar : Nat → Option Nat) (A : Ar) (met : List (Nat × Nat)) (wk : List (Cl × Cl)) : Prop := ∃ n A' b, uniF ar n A met wk = some (A', b) ∧ Bd ar A A' ∧ A'.trail.length ≤ A.trail.length + (wk.length + 3 * unmP 60 met) ∧
  (b = true → ∃ met', (∀ x ∈ met, x ∈ met') ∧ (∀ x ∈ wk, Res A' met' x.1 x.2) ∧ ∀ x ∈ met', x ∈ met ∨ Arg ar A' met' x)
theorem UC.fail (h : uniF ar 1 A met wk = some (A, false)) : UC ar A met wk := ⟨1, A, false, h, .nil, Nat.le_add_right _ _, fun h => by cases h⟩
theorem UC.skip (H : Hp A) (hl : dr A l = some c) (hr : dr A r = some d) (e : c = d) (u : UC ar A met wk) : UC ar A met ((l, r) :: wk) := by
  obtain ⟨n, A', b, h1, h2, hz, h3⟩ := u
  refine ⟨n + 1, A', b, by simp only [uniF_nil, uniF_cons, hl, hr, if_pos e]; exact h1, h2, by simp only [List.length_cons]; omega, fun hb => ?_⟩
  obtain ⟨met', m1, m2, m3⟩ := h3 hb
  refine ⟨met', m1, fun x hx => ?_, m3⟩
  rcases List.mem_cons.mp hx with rfl | hx
  · obtain ⟨z, a1, a2⟩ := h2.ext H _ _ hl
    obtain ⟨z', b1, b2⟩ := h2.ext H _ _ hr
    rw [e, b1] at a1; cases a1
    exact .inl (a2.trans b2.symm)
  · exact m2 x hx
theorem UC.bind (H : Hp A) (hl : dr A l = some c) (hr : dr A r = some d) (b1 : B1 ar A v x) (hd : (v = c ∧ x = d) ∨ (v = d ∧ x = c)) (hu : ∀ n, uniF ar (n + 1) A met ((l, r) :: wk) = uniF ar n (bindP A v x) met wk) (u : UC ar (bindP A v x) met wk) : UC ar A met ((l, r) :: wk) := by
  obtain ⟨n, A', b, h1, h2, hz, h3⟩ := u
  have := (@bindP_len A v x).2.2
  refine ⟨n + 1, A', b, by rw [hu]; exact h1, .cons b1 h2, by simp only [List.length_cons]; omega, fun hb => ?_⟩
  obtain ⟨met', m1, m2, m3⟩ := h3 hb
  refine ⟨met', m1, fun z hz => ?_, m3⟩
  rcases List.mem_cons.mp hz with rfl | hz
  · have E := (Bd.cons b1 h2).ext H
    obtain ⟨z, a1, a2⟩ := E _ _ hl
    obtain ⟨z', a3, a4⟩ := E _ _ hr
    have H1 := b1.hp H
    obtain ⟨s, s1, s2, _⟩ := b1.tr
    obtain ⟨e, he, _⟩ := (b1.keep s1 s2).step H1
    have hv : dr (bindP A v x) v = some e := by rw [dr_go H1 (look_self b1.hv b1.hl) b1.ne (b1.keep s1 s2).hd]; exact he
    obtain ⟨y, y1, y2⟩ := h2.ext H1 _ _ he
    obtain ⟨y', y3, y4⟩ := h2.ext H1 _ _ hv
    rw [y1] at y3; cases y3
    refine .inl ?_
    rcases hd with ⟨rfl, rfl⟩ | ⟨rfl, rfl⟩
    · rw [y4] at a1; rw [y2] at a3; cases a1; cases a3; exact a2.trans a4.symm
    · rw [y2] at a1; rw [y4] at a3; cases a1; cases a3; exact a2.trans a4.symm
  · exact m2 z hz
theorem UC.seen {p q : Nat} {f : Nat} (H : Hp A) (hl : dr A l = some (.str p)) (hr : dr A r = some (.str q)) (hp : A.heap[p]? = some (.fn f)) (hq : A.heap[q]? = some (.fn f)) (ne : p ≠ q) (hm : (p, q) ∈ met) (u : UC ar A met wk) : UC ar A met ((l, r) :: wk) := by
  obtain ⟨n, A', b, h1, h2, hz, h3⟩ := u
  have ne' : ¬ Cl.str p = Cl.str q := fun e => ne (by cases e; rfl)
  refine ⟨n + 1, A', b, by simp only [uniF_nil, uniF_cons, hl, hr, if_neg ne', isV, hp, hq, if_true, if_pos hm]; exact h1, h2, by simp only [List.length_cons]; omega, fun hb => ?_⟩
  obtain ⟨met', m1, m2, m3⟩ := h3 hb
  refine ⟨met', m1, fun z hz => ?_, m3⟩
  rcases List.mem_cons.mp hz with rfl | hz
  · obtain ⟨z, a1, a2⟩ := h2.ext H _ _ hl
    obtain ⟨z', a3, a4⟩ := h2.ext H _ _ hr
    rw [dr_stop rfl] at a1 a3; cases a1; cases a3
    exact .inr ⟨p, q, a2, a4, m1 _ hm⟩
  · exact m2 z hz
theorem Ext.pw (E : Ext A A') {l l' : List Cl} (h : Pw (fun a b => dr A a = dr A b) l l') (ht : ∀ a ∈ l, ∃ d, dr A a = some d) : Pw (fun a b => dr A' a = dr A' b) l l' := by
  induction h with
  | nil => exact .nil
  | @cons a b l l' h _ ih =>
    refine .cons ?_ (ih fun x hx => ht x (.tail _ hx))
    obtain ⟨d, hd⟩ := ht a (.head _)
    obtain ⟨e, e1, e2⟩ := E _ _ hd
    obtain ⟨e', e3, e4⟩ := E _ _ (h ▸ hd)
    rw [e1] at e3; cases e3
    exact e2.trans e4.symm
theorem Pw.zip3 {R : Cl → Cl → Prop} {S T : Cl → Cl → Prop} (hR : ∀ a b c d, S a c → S b d → R c d → T a b) {l1 l3 : List Cl} (h1 : Pw S l1 l3) : ∀ {l2 l4 : List Cl}, Pw S l2 l4 → l3.length = l4.length → (∀ x ∈ l3.zip l4, R x.1 x.2) → Pw T l1 l2 := by
  induction h1 with
  | nil =>
    intro l2 l4 h2 hl h
    cases h2 with
    | nil => exact .nil
    | cons _ _ => cases hl
  | cons a _ ih =>
    intro l2 l4 h2 hl h
    cases h2 with
    | nil => cases hl
    | cons c d => exact .cons (hR _ _ _ _ a c (h _ (.head _))) (ih d (Nat.succ.inj hl) fun x hx => h x (.tail _ hx))
theorem UC.args {p q f n : Nat} {as bs : List Cl} {a a' : Fo} (H : Hp A) (hl : dr A l = some (.str p)) (hr : dr A r = some (.str q)) (hp : A.heap[p]? = some (.fn f)) (hq : A.heap[q]? = some (.fn f)) (hn : ar f = some n) (hb : q + 1 + n ≤ A.heap.length)
    (ne : p ≠ q) (hm : (p, q) ∉ met) (h1 : argsF ar A p = some as) (h2 : argsF ar A q = some bs) (u1 : Unf ar A (vars (p + 1) n) a) (u2 : Unf ar A (vars (q + 1) n) a') (w1 : Pw (fun x y => dr A x = dr A y) (vars (p + 1) n) as) (w2 : Pw (fun x y => dr A x = dr A y) (vars (q + 1) n) bs) (hlen : as.length = bs.length) (hle : (as.zip bs ++ wk).length + 3 * unmP 60 ((p, q) :: met) ≤ wk.length + 1 + 3 * unmP 60 met)
    (u : UC ar A ((p, q) :: met) (as.zip bs ++ wk)) : UC ar A met ((l, r) :: wk) := by
  obtain ⟨m, A', b, h3, h4, hz, h5⟩ := u
  have ne' : ¬ Cl.str p = Cl.str q := fun e => ne (by cases e; rfl)
  refine ⟨m + 1, A', b, by simp only [uniF_nil, uniF_cons, hl, hr, if_neg ne', isV, hp, hq, if_true, if_neg hm, h1, h2]; exact h3, h4, Nat.le_trans hz (Nat.add_le_add_left hle _), fun hb' => ?_⟩
  obtain ⟨met', m1, m2, m3⟩ := h5 hb'
  have E := h4.ext H
  refine ⟨met', fun x hx => m1 x (.tail _ hx), fun z hz => ?_, fun z hz => ?_⟩
  · rcases List.mem_cons.mp hz with rfl | hz
    · obtain ⟨z, a1, a2⟩ := E _ _ hl
      obtain ⟨z', a3, a4⟩ := E _ _ hr
      rw [dr_stop rfl] at a1 a3; cases a1; cases a3
      exact .inr ⟨p, q, a2, a4, m1 _ (.head _)⟩
    · exact m2 z (List.mem_append_right _ hz)
  · rcases m3 z hz with e | e
    · rcases List.mem_cons.mp e with rfl | e
      · refine .inr ⟨f, n, h4.fn hp, h4.fn hq, hn, by rw [h4.len.1]; exact hb, ?_⟩
        have tot : ∀ {p t}, Unf ar A (vars p n) t → ∀ x ∈ vars p n, ∃ d, dr A x = some d := fun u x hx => by
          obtain ⟨t', u', _⟩ := u.mem x hx
          obtain ⟨d, hd, _⟩ := u'.step H
          exact ⟨d, hd⟩
        refine Pw.zip3 (R := Res A' met') (S := fun x y => dr A' x = dr A' y) (fun a b c d h1 h2 h3 => ?_) (E.pw w1 (tot u1)) (E.pw w2 (tot u2)) hlen fun x hx => m2 x (List.mem_append_left _ hx)
        unfold Res at h3 ⊢
        rw [h1, h2]; exact h3
      · exact .inl e
    · exact .inr e
theorem var_ref (h1 : isV c = true) (h2 : isS c = false) : ∃ i, c = .ref i := by
  cases c with
  | ref i => exact ⟨i, rfl⟩
  | srf i => cases h2
  | _ => cases h1
theorem fz_v (h : look A c = some c) (hv : isV c = true) (hs : isS c = false) (ne : v ≠ c) : ∃ s, Unf ar A [c] s ∧ v ∉ fv s ∧ ∀ y ∈ fv s, isS y = false :=
  ⟨.v c .nil, .var h hv .nil, fun e => ne (List.mem_singleton.mp e), fun y hy => by rw [List.mem_singleton.mp hy]; exact hs⟩
theorem uni_main : ∀ μ A met wk, Hp A → (∀ x ∈ wk, Okc ar A x.1 ∧ Okc ar A x.2) → wk.length + 3 * unmP 60 met ≤ μ → UC ar A met wk := by
  intro μ
  induction μ with
  | zero =>
    intro A met wk H ho hm
    cases wk with
    | nil => exact ⟨1, A, true, rfl, .nil, Nat.le_add_right _ _, fun _ => ⟨met, fun x h => h, (fun x hx => by cases hx), fun x h => .inl h⟩⟩
    | cons => simp at hm
  | succ μ ih =>
    intro A met wk H ho hm
    cases wk with
    | nil => exact ⟨1, A, true, rfl, .nil, Nat.le_add_right _ _, fun _ => ⟨met, fun x h => h, (fun x hx => by cases hx), fun x h => .inl h⟩⟩
    | cons lr wk =>
    obtain ⟨l, r⟩ := lr
    simp only [List.length_cons] at hm
    obtain ⟨o1, o2⟩ := ho _ (.head _)
    have ho' : ∀ x ∈ wk, Okc ar A x.1 ∧ Okc ar A x.2 := fun x hx => ho x (.tail _ hx)
    obtain ⟨c, t, hc, sc, vc⟩ := o1.drs H
    obtain ⟨d, t', hd, sd, vd⟩ := o2.drs H
    have ucut := sc.unf
    have udt := sd.unf
    have dd := dr_end hd
    have dc := dr_end hc
    by_cases e : c = d
    · exact UC.skip H hc hd e (ih A met wk H ho' (by omega))
    have bnd : ∀ {v x}, B1 ar A v x → UC ar (bindP A v x) met wk := fun b => ih _ met wk (b.hp H) (fun y hy => ⟨b.okc (ho' y hy).1, b.okc (ho' y hy).2⟩) (by omega)
    have e' : ¬ d = c := fun z => e z.symm
    cases sc with
    | @var c t0 hl hv _ =>
      obtain ⟨i, rfl⟩ := var_ref hv (vc _ (.head _))
      have occ : ∀ {d t'}, Unf ar A [d] t' → (∀ x ∈ fv t', isS x = false) → dr A d = some d → isV d = false → ¬ (Cl.ref i = d) → dr A r = some d → UC ar A met ((l, r) :: wk) := fun {d t'} ud vd dd hvd ne hd => by
        have o := occ_spec (v := i) H ud vd dd hvd
        by_cases hin : Cl.ref i ∈ fv t'
        · refine UC.fail ?_
          simp only [uniF_nil, uniF_cons, hc, hd, if_neg ne, hv, hvd, o, decide_eq_true hin]
        · have b : B1 ar A (.ref i) d := ⟨rfl, hl, fun z => ne z.symm, ⟨t', ud, hin, vd⟩, by cases d <;> first | (cases hvd; done) | exact trivial⟩
          refine UC.bind H hc hd b (.inl ⟨rfl, rfl⟩) (fun n => ?_) (bnd b)
          simp only [uniF_nil, uniF_cons, hc, hd, if_neg ne, hv, hvd, o, decide_eq_false hin]
      cases sd with
      | @var d t1 hl' hv' _ =>
        obtain ⟨j, rfl⟩ := var_ref hv' (vd _ (.head _))
        by_cases ij : i < j
        · have b : B1 ar A (.ref j) (.ref i) := ⟨rfl, hl', e, fz_v hl hv rfl e', Nat.le_of_lt ij⟩
          refine UC.bind H hc hd b (.inr ⟨rfl, rfl⟩) (fun n => ?_) (bnd b)
          simp only [uniF_nil, uniF_cons, hc, hd, if_neg e, isV, bindPairP, if_pos ij]
        · have b : B1 ar A (.ref i) (.ref j) := ⟨rfl, hl, e', fz_v hl' hv' rfl e, Nat.le_of_not_lt ij⟩
          refine UC.bind H hc hd b (.inl ⟨rfl, rfl⟩) (fun n => ?_) (bnd b)
          simp only [uniF_nil, uniF_cons, hc, hd, if_neg e, isV, bindPairP, if_neg ij]
      | con _ => exact occ udt vd dd rfl e hd
      | str _ _ _ _ _ _ => exact occ udt vd dd rfl e hd
    | @con k t0 u0 =>
      cases u0
      cases sd with
      | @var d t1 hl' hv' _ =>
        obtain ⟨j, rfl⟩ := var_ref hv' (vd _ (.head _))
        have b : B1 ar A (.ref j) (.con k) := ⟨rfl, hl', e, ⟨_, ucut, (fun z => by cases z), vc⟩, trivial⟩
        refine UC.bind H hc hd b (.inr ⟨rfl, rfl⟩) (fun n => ?_) (bnd b)
        simp only [uniF_nil, uniF_cons, hc, hd, if_neg e, isV, occI, dc, occ2]
      | con _ => exact UC.fail (by simp only [uniF_nil, uniF_cons, hc, hd, if_neg e, isV])
      | str _ _ _ _ _ _ => exact UC.fail (by simp only [uniF_nil, uniF_cons, hc, hd, if_neg e, isV])
    | @str p g n a t0 hp hn h2 hb ra _ =>
      cases sd with
      | @var d t1 hl' hv' _ =>
        obtain ⟨j, rfl⟩ := var_ref hv' (vd _ (.head _))
        have o := occ_spec (v := j) H ucut vc dc rfl
        by_cases hin : Cl.ref j ∈ fv (.f g a t0)
        · refine UC.fail ?_
          simp only [uniF_nil, uniF_cons, hc, hd, if_neg e, isV, o, decide_eq_true hin]
        · have b : B1 ar A (.ref j) (.str p) := ⟨rfl, hl', e, ⟨_, ucut, hin, vc⟩, trivial⟩
          refine UC.bind H hc hd b (.inr ⟨rfl, rfl⟩) (fun n => ?_) (bnd b)
          simp only [uniF_nil, uniF_cons, hc, hd, if_neg e, isV, o, decide_eq_false hin]
      | con _ => exact UC.fail (by simp only [uniF_nil, uniF_cons, hc, hd, if_neg e, isV])
      | @str q g' n' a' t1 hq hn' h2' hb' ra' _ =>
        have ne : p ≠ q := fun z => e (by rw [z])
        by_cases gg : g = g'
        · subst gg
          rw [hn] at hn'; cases hn'
          by_cases hin : (p, q) ∈ met
          · exact UC.seen H hc hd hp hq ne hin (ih A met wk H ho' (by omega))
          · obtain ⟨as, a1, a2, a3, a4⟩ := args_unf H hp hn h2 hb ra
            obtain ⟨bs, b1, b2, b3, b4⟩ := args_unf H hq hn h2' hb' ra'
            have z := H.z
            have := unmP_cons (N := 60) (p := p) (q := q) (by omega) (by omega) hin
            have hle : (as.zip bs ++ wk).length + 3 * unmP 60 ((p, q) :: met) ≤ wk.length + 3 * unmP 60 met := by simp [a3, b3]; omega
            refine UC.args H hc hd hp hq hn hb' ne hin a1 b1 ra ra' a4 b4 (by rw [a3, b3]) (by omega) (ih A _ _ H (fun x hx => ?_) (by omega))
            rcases List.mem_append.mp hx with hx | hx
            · exact ⟨Okc.mem a2 (fun y hy => vc y (List.mem_append_left _ hy)) _ (List.of_mem_zip hx).1, Okc.mem b2 (fun y hy => vd y (List.mem_append_left _ hy)) _ (List.of_mem_zip hx).2⟩
            · exact ho' x hx
        · exact UC.fail (by simp only [uniF_nil, uniF_cons, hc, hd, if_neg e, isV, hp, hq, if_neg gg])
end
end
end Mine

end
section
open PySem PySem.W PyProof.Rows PySem.Calls
set_option Elab.async false
set_option maxRecDepth 100000
set_option linter.all false
namespace Mine
noncomputable section
section
variable {ar : Nat → Option Nat} {A A' A1 : Ar} {t t' s : Fo} {c d v w x : Cl} {y : Sy}
def cellW (y : Sy) (A : Ar) (i : Nat) : Cl → Prop
  | .ref j => j ≤ i ∧ (A.heap[j]? = some (.ref j) ∨ ∃ n, A.heap[j]? = some (.con n))
  | .str p => i < p ∧ Blk y A p
  | .srf _ => False
  | _ => True
-- the areas as they are built
structure Wf (y : Sy) (A : Ar) : Prop where
  cell : ∀ (i : Nat) c, A.heap[i]? = some c → cellW y A i c
  stk : ∀ i j : Nat, A.stack[i]? = some (.srf j) → j = i
  z : A.heap.length ≤ 60
theorem Wf.hp (W : Wf y A) : Hp A := ⟨fun i j h => (W.cell i _ h).1, fun i j h => W.cell i _ h, W.stk, W.z⟩
theorem okc_list : ∀ {l : List Cl}, (∀ c ∈ l, Okc ar A c) → ∃ t, Unf ar A l t ∧ ∀ x ∈ fv t, isS x = false
  | [], _ => ⟨.nil, .nil, fun x h => by cases h⟩
  | c :: l, h => by
    obtain ⟨t, h1, h2⟩ := h c (.head _)
    obtain ⟨t', h3, h4⟩ := okc_list fun x hx => h x (.tail _ hx)
    refine ⟨fap t t', h1.app h3, fun x hx => ?_⟩
    rw [fv_app] at hx
    exact (List.mem_append.mp hx).elim (h2 x) (h4 x)
theorem okc_str {p : Nat} (b : Blk y A p) (h : ∀ (i : Nat) d, p < i → A.heap[i]? = some d → notFn d → Okc (arOf y) A (.ref i)) : Okc (arOf y) A (.str p) := by
  obtain ⟨f, n, h1, h2, h3, h4, h5⟩ := b
  obtain ⟨t, h6, h7⟩ := okc_list (ar := arOf y) (A := A) (l := vars (p + 1) n) fun c hc => by
    obtain ⟨i, hi⟩ := List.getElem?_of_mem hc
    obtain ⟨hin, rfl⟩ := vars_get hi
    obtain ⟨d, hd, nd⟩ := h5 i hin
    exact h _ d (by omega) hd nd
  exact ⟨.f f t .nil, .str h1 h2 h3 (by omega) h6 .nil, fun x hx => h7 x (by have : x ∈ fv t ++ [] := hx; rwa [List.append_nil] at this)⟩
theorem Wf.okc (W : Wf y A) : ∀ k (i : Nat) d, A.heap.length ≤ i + k → A.heap[i]? = some d → notFn d → Okc (arOf y) A (.ref i)
  | 0, i, d, h, hd, _ => by have := (List.getElem?_eq_some_iff.mp hd).1; omega
  | k + 1, i, d, h, hd, nd => by
    have hw := W.cell i d hd
    cases d with
    | ref j =>
      obtain ⟨h1, h2⟩ := hw
      by_cases e : j = i
      · subst e; exact ⟨.v (.ref j) .nil, .var hd rfl .nil, fun x hx => by rw [List.mem_singleton.mp hx]; rfl⟩
      · have ne : Cl.ref j ≠ .ref i := fun z => e (by cases z; rfl)
        rcases h2 with h2 | ⟨n, h2⟩
        · exact ⟨.v (.ref j) .nil, .go hd ne (.var h2 rfl .nil), fun x hx => by rw [List.mem_singleton.mp hx]; rfl⟩
        · exact ⟨.k n .nil, .go hd ne (.go (c' := .con n) h2 (fun z => by cases z) (.con .nil)), fun x hx => by cases hx⟩
    | str p =>
      obtain ⟨h1, h2⟩ := hw
      obtain ⟨t, h3, h4⟩ := okc_str h2 fun i' d' hi hd' nd' => W.okc k i' d' (by omega) hd' nd'
      exact ⟨t, .go hd (fun z => by cases z) h3, h4⟩
    | con n => exact ⟨.k n .nil, .go (c' := .con n) hd (fun z => by cases z) (.con .nil), fun x hx => by cases hx⟩
    | srf n => exact hw.elim
    | fn n => exact nd.elim
theorem CellOk.okc (W : Wf y A) (h : CellOk y A c) : Okc (arOf y) A c := by
  cases c with
  | ref j => obtain ⟨d, h1, h2⟩ := h; exact W.okc _ j d (Nat.le_add_left _ _) h1 h2
  | str p => exact okc_str h fun i d _ hd nd => W.okc _ i d (Nat.le_add_left _ _) hd nd
  | con n => exact ⟨.k n .nil, .con .nil, fun x hx => by cases hx⟩
  | _ => exact h.elim
-- what is told of two terms that unfold alike
structure Alike (ar : Nat → Option Nat) (A : Ar) (one other : Cl) : Prop where
  ex : ∃ m m' res d1 d2, cmpF ar A m [] [(one, other)] = true ∧ uniF ar m' A [] [(other, one)] = some (A, true) ∧ (dr A one = some d1 ∧ d1.tag ≠ 1 ∧ varF ar A 1000 [] [] [d1] = some res ∧ grF ar A 1000 [] [one] = some (decide (res = []))) ∧
    (dr A other = some d2 ∧ d2.tag ≠ 1 ∧ varF ar A 1000 [] [] [d2] = some res ∧ grF ar A 1000 [] [other] = some (decide (res = [])))
theorem told_of (H : Hp A) (u : Unf ar A [c] t) (hs : ∀ x ∈ fv t, isS x = false) : ∃ d, dr A c = some d ∧ d.tag ≠ 1 ∧ varF ar A 1000 [] [] [d] = some (addL [] (nums t)) ∧ grF ar A 1000 [] [c] = some (decide (addL [] (nums t) = [])) := by
  obtain ⟨d, hd, st⟩ := u.step H
  obtain ⟨vs, h1, h2⟩ := vis_cell H st.unf hs
  obtain ⟨ws, h3, h4⟩ := vis_cell H u hs
  refine ⟨d, hd, ?_, by rw [vis_var h1, h2], ?_⟩
  · cases st with
    | var h hv _ =>
      obtain ⟨i, rfl⟩ := var_ref hv (hs _ (.head _))
      simp [Cl.tag]
    | con _ => simp [Cl.tag]
    | str _ _ _ _ _ _ => simp [Cl.tag]
  · rw [vis_gr h3, ← h4]
    congr 1
    refine decide_eq_decide.mpr ⟨fun e => by rw [e]; rfl, fun e => ?_⟩
    cases ws with
    | nil => rfl
    | cons x ws =>
      have := (@addL_mem x (x :: ws) []).mpr (.inr (.head _))
      rw [e] at this; cases this
theorem alike_of (H : Hp A) (u : Unf ar A [c] t) (u' : Unf ar A [d] t) (hs : ∀ x ∈ fv t, isS x = false) : Alike ar A c d := by
  obtain ⟨n, h1, _⟩ := same_spec H _ (Nat.le_refl _) u u' []
  obtain ⟨m, _, h4⟩ := same_spec H _ (Nat.le_refl _) u' u []
  obtain ⟨d1, a⟩ := told_of H u hs
  obtain ⟨d2, b⟩ := told_of H u' hs
  exact ⟨n, m, _, d1, d2, h1, h4, a, b⟩
-- the law of the unification
theorem plain {one other : Cl} (W : Wf y A) (hb : A.hb = A.heap.length) (bb : A.bb = A.stack.length) (h1 : CellOk y A one) (h2 : CellOk y A other ∨ (other = .srf 1 ∧ A.stack[1]? = some (.srf 1))) :
    ∃ n A' b ex, uniF (arOf y) n A [] [(one, other)] = some (A', b) ∧ uniF (arOf y) n A [] [(other, one)] = some (A', b) ∧ A'.trail = A.trail ++ ex ∧ (∀ t ∈ ex, trIn A' t) ∧ undoR A' A.trail ex = A ∧
      A'.heap.length = A.heap.length ∧ A'.trail.length ≤ A.trail.length + 12000 ∧ (b = true → Alike (arOf y) A' one other) := by
  have H := W.hp
  obtain ⟨t, u, hs⟩ := h1.okc W
  have fin : ∀ {n A' b}, uniF (arOf y) n A [] [(one, other)] = some (A', b) → Bd (arOf y) A A' → A'.trail.length ≤ A.trail.length + 12000 → (b = true → Alike (arOf y) A' one other) → ∃ n A' b ex, uniF (arOf y) n A [] [(one, other)] = some (A', b) ∧ uniF (arOf y) n A [] [(other, one)] = some (A', b) ∧ A'.trail = A.trail ++ ex ∧ (∀ t ∈ ex, trIn A' t) ∧ undoR A' A.trail ex = A ∧
      A'.heap.length = A.heap.length ∧ A'.trail.length ≤ A.trail.length + 12000 ∧ (b = true → Alike (arOf y) A' one other) := fun {n A' b} e B tr al => by
    obtain ⟨ex, e1, e2, e3, _⟩ := B.undo hb bb
    exact ⟨n, A', b, ex, e, uni_sym e, e1, e2, e3, B.len.1, tr, al⟩
  rcases h2 with h2 | ⟨rfl, h2⟩
  · obtain ⟨n, A', b, e1, e2, e3, e4⟩ := uni_main (ar := arOf y) _ A [] [(one, other)] H (fun x hx => by rw [List.mem_singleton.mp hx]; exact ⟨h1.okc W, h2.okc W⟩) (Nat.le_refl _)
    have := @unmP_le 60 []
    refine fin e1 e2 (by simp only [List.length_cons, List.length_nil] at e3; omega) fun hb' => ?_
    obtain ⟨met, _, m2, m3⟩ := e4 hb'
    obtain ⟨t', u', hs'⟩ := e2.okc (h1.okc W)
    refine alike_of (e2.hp H) u' (u'.res (e2.hp H) (met := met) (fun x hx => (m3 x hx).elim (fun z => by cases z) id) (.cons (m2 _ (.head _)) .nil)) hs'
  · obtain ⟨c, hc, st⟩ := u.step H
    have hl : look A (.srf 1) = some (.srf 1) := h2
    have sc : isS c = false := by
      cases st with
      | var _ _ _ => exact hs _ (.head _)
      | con _ => rfl
      | str _ _ _ _ _ _ => rfl
    have ne : ¬ c = .srf 1 := fun e => by rw [e] at sc; cases sc
    have ne' : ¬ Cl.srf 1 = c := fun e => ne e.symm
    have nin : Cl.srf 1 ∉ fv t := fun h => by have := hs _ h; cases this
    have b : B1 (arOf y) A (.srf 1) c := ⟨rfl, hl, ne, ⟨t, st.unf, nin, hs⟩, by cases c <;> first | (cases sc; done) | exact trivial⟩
    have dc := dr_end hc
    have e : uniF (arOf y) 2 A [] [(one, .srf 1)] = some (bindP A (.srf 1) c, true) := by
      simp only [uniF_nil, uniF_cons, hc, dr_stop hl, if_neg ne]
      cases c with
      | ref i => rfl
      | srf i => cases sc
      | fn i => cases st with | var _ h _ => cases h
      | con k => simp only [isV, occI, dc, if_neg ne, occ2]
      | str p => simp only [isV, occI, dc, if_neg ne, occ2]
    have := (@bindP_len A (.srf 1) c).2.2
    exact fin e (.cons b .nil) (by omega) fun _ => alike_of (b.hp H) (b.keep u nin) (.go (look_self rfl hl) ne (b.keep st.unf nin)) hs
end
end
end Mine

end
section
open PySem PySem.W PyProof.Rows PySem.Calls
set_option Elab.async false
set_option maxRecDepth 100000
set_option linter.all false
namespace Mine
noncomputable section
theorem cnt_len : ∀ tb : Tb, cnt tb ≤ tb.length
  | [] => Nat.le_refl _
  | x :: r => by
    have := cnt_len r
    show (if isS x.2 = true then 1 else 0) + cnt r ≤ r.length + 1
    split <;> omega
theorem cnt_zero : ∀ {tb : Tb}, (∀ k i, (k, Cl.srf i) ∉ tb) → cnt tb = 0
  | [], _ => rfl
  | (k, c) :: r, h => by
    have ih := cnt_zero (tb := r) fun k i hm => h k i (.tail _ hm)
    show (if isS c = true then 1 else 0) + cnt r = 0
    rw [ih]
    cases c with
    | srf i => exact absurd (.head _) (h k i)
    | _ => rfl
section
variable {C : Cx} {k : Nat} {M M' M2 : Mm} {Q : V → Mm → Prop} {hd kp ta : Addr} {ks : List Int} {n : Nat} {Y : SY} {y y' : Sy} {S : SA} {A A' : Ar} {tb tb' : Tb} {one other : Cl}
theorem LW.t0 {c : Nat} (L : LW hd kp ta ks S Y M A y tb n) (hn : n + 2 * c < 900) (h1 : y.texts.length + c < 800) (h2 : y.fs.length + c < 800) : T0 hd kp ks Y M y n c := ⟨L.h, hn, L.kl, L.p.g.ya, L.g, h1, h2, L.ap.h6, L.ap.k6⟩
noncomputable def locB (hd ta : Addr) (Y : SY) (S : SA) (one other : Cl) : Loc := [(n_hand, .ref hd), (n_names, .ref Y.sy), (n_store, .ref S.st), (n_table, .ref ta), (n_one, cv one), (n_other, cv other)]
-- one tree is drawn and put
theorem tree_put {B T : Nat} (L : LW hd kp ta ks S Y M A y tb n) (hn : n ≤ 100) (yt : y.texts.length ≤ 200) (yf : y.fs.length ≤ 200) (hB : A.heap.length + cnt tb + 22 ≤ B) (hB' : B ≤ 60) (hT : tb.length + 22 ≤ T) (hT' : T ≤ 100)
    (hQ : ∀ M' A' y' tb' n' c, LW hd kp ta ks S Y M' A' y' tb' n' → n' ≤ n + 30 → SyE y y' 15 → (∀ k i, (k, Cl.srf i) ∉ tb') → A'.heap.length ≤ B → tb'.length ≤ T → CellOk y' A' c → (∀ d, CellOk y A d → CellOk y' A' d) → Q (cv c) M') :
    CallP C (k + 8) (.ref 535) [.ref hd, .ref Y.sy, .int 0] M fun X M' => CallP C (k + 8) (.ref 364) [.ref S.st, X, .ref ta] M' Q := by
  refine c_tree (hd := hd) (kp := kp) (ks := ks) (n := n) 3 0 (k + 2) rfl (L.t0 (c := 15) (by omega) (by omega) (by omega)) fun M1 y1 n1 t ts tk al1 sz1 => ?_
  have al1 : al t ≤ 21 := al1
  have sz1 : sz t ≤ 22 := sz1
  have L1 := L.tree ts (by show y.fs.length + 15 < 1000; omega)
  refine c_put_term (B := B) (T := T) L1.p tk L1.tr (by omega) (by omega) (by omega) (by omega) fun c M2 A2 tb2 p ok ns hb tl => ?_
  exact hQ M2 A2 y1 tb2 n1 c (L1.put p) ts.nn ts.e ns hb tl ok fun d hd => p.ke d (hd.next ts.e)
theorem lawB {R : Fl → Loc → Mm → Prop} (L : LW hd kp ta ks S Y M A y tb 2) (hA : A.heap = []) (tl : tb.length ≤ 2) (yt : y.texts.length ≤ 100) (yf : y.fs.length ≤ 100)
    (hR : ∀ M' A' y' tb' n one other, LW hd kp ta ks S Y M' A' y' tb' n → n ≤ 100 → (∀ k i, (k, Cl.srf i) ∉ tb') → A'.heap.length ≤ 60 → CellOk y' A' one → CellOk y' A' other → R .next (locB hd ta Y S one other) M') :
    ExsP C ⟨k + 8, fScope (ms 49), []⟩ (List.take 2 (List.drop 5 (fBody (ms 49)))) (zipL [n_hand, n_names, n_store, n_table] [.ref hd, .ref Y.sy, .ref S.st, .ref ta]) M R := by
  refine f_lawB ?_
  have cl := cnt_len tb
  refine Eq.mpr (L.p.g.s.meth (x := n_put_term) (f := 364) (by decide +kernel) rfl) ?_
  refine tree_put (B := 24) (T := 24) L (by omega) (by omega) (by omega) (by rw [hA]; show 0 + cnt tb + 22 ≤ 24; omega) (by decide) (by omega) (by decide) fun M1 A1 y1 tb1 n1 c1 L1 hn1 e1 ns1 hb1 tl1 ok1 _ => ?_
  refine Eq.mpr (L1.p.g.s.meth (x := n_put_term) (f := 364) (by decide +kernel) rfl) ?_
  have e1t := e1.tl
  have e1f := e1.fl
  refine tree_put (B := 46) (T := 46) L1 (by omega) (by omega) (by omega) (by rw [cnt_zero ns1]; omega) (by decide) (by omega) (by decide) fun M2 A2 y2 tb2 n2 c2 L2 hn2 e2 ns2 hb2 tl2 ok2 ke2 => ?_
  exact hR M2 A2 y2 tb2 n2 c1 c2 L2 (by omega) ns2 (by omega) (ke2 _ ok1) ok2
-- the state behind the building
structure LF (hd kp : Addr) (ks : List Int) (S : SA) (Y : SY) (M : Mm) (A : Ar) (y : Sy) (n : Nat) (one : Cl) : Prop where
  h : Hd M hd kp ks n
  kl : ks.length ≤ 50
  nn : n < 200
  g : G M S A Y y
  w : Wf y A
  tr : A.trail = []
  bb : A.bb = 0 ∧ A.hb = 0
  sl : A.stack.length = 2
  h5 : hd ∉ S.five
  h6 : hd ∉ Y.six
  k5 : kp ∉ S.five
  one : CellOk y A one
theorem wf_of (h : BW y A tb []) (hz : A.heap.length ≤ 60) : Wf y A := by
  refine ⟨fun i c hc => ?_, fun i j hj => ?_, hz⟩
  · have := h.cell i c hc
    cases c with
    | ref j => exact ⟨this.1, .inl this.2⟩
    | str p => exact this
    | srf j => exact this
    | con n => trivial
    | fn n => trivial
  · rcases h.stk i _ hj with e | ⟨j', e, _⟩
    · cases e; rfl
    · cases e
theorem Wf.bind {j m : Nat} (W : Wf y A) (hj : A.heap[j]? = some (.ref j)) : Wf y { A with heap := A.heap.set j (.con m) } := by
  have hlt := (List.getElem?_eq_some_iff.mp hj).1
  refine ⟨fun i c hc => ?_, W.stk, by simpa using W.z⟩
  have hc : (A.heap.set j (.con m))[i]? = some c := hc
  rcases get_set hc hlt with ⟨rfl, rfl⟩ | ⟨ne, hc⟩
  · trivial
  · have := W.cell i c hc
    cases c with
    | ref j' =>
      refine ⟨this.1, ?_⟩
      show (A.heap.set j (.con m))[j']? = _ ∨ ∃ n, (A.heap.set j (.con m))[j']? = _
      by_cases e : j = j'
      · subst e; exact .inr ⟨m, List.getElem?_set_self hlt⟩
      · rw [List.getElem?_set_ne e]; exact this.2
    | str p => exact ⟨this.1, Blk.write this.2 hj trivial⟩
    | srf j => exact this
    | con n => trivial
    | fn n => trivial
theorem lawC {R : Fl → Loc → Mm → Prop} (L : LW hd kp ta ks S Y M A y tb n) (hn : n ≤ 100) (ns : ∀ k i, (k, Cl.srf i) ∉ tb) (hz : A.heap.length ≤ 60) (o1 : CellOk y A one) (o2 : CellOk y A other)
    (hR : ∀ M' A', LF hd kp ks S Y M' A' y (n + 1) one → CellOk y A' other → R .next (locB hd ta Y S one other) M') :
    ExsP C ⟨k + 8, fScope (ms 49), []⟩ (List.take 1 (List.drop 7 (fBody (ms 49)))) (zipL [n_hand, n_names, n_store, n_table, n_one, n_other] [.ref hd, .ref Y.sy, .ref S.st, .ref ta, cv one, cv other]) M R := by
  refine f_lawC ?_
  refine c_law_step (w := 2) L.h (by omega) L.kl (by decide) fun M1 r h1 hr k1 => ?_
  have L1 := L.hand h1 k1
  have g1 := L1.p.g
  have fin : R .next (locB hd ta Y S one other) M1 := hR M1 A ⟨L1.h, L.kl, by omega, g1, wf_of L1.p.bw hz, L.tr, L1.p.bb, L.sl, L.ap.h5, L.ap.h6, L.ap.k5, o1⟩ o2
  refine Eq.mpr e_eqI ?_
  refine Eq.mpr e_br ⟨fun _ => ?_, fun _ => fin⟩
  refine Eq.mpr (e_inT (k := 4) L1.p.tav) ?_
  refine Eq.mpr e_br ⟨fun z => ?_, fun _ => fin⟩
  obtain ⟨X, hX⟩ := Option.isSome_iff_exists.mp z
  obtain ⟨c, rfl, hc⟩ := vV_inv hX
  refine Eq.mpr (g1.s.meth (x := n_bind) (f := 244) (by decide +kernel) rfl) ?_
  refine Eq.mpr (e_tab L1.p.tav L1.p.nd hc) ?_
  obtain ⟨j, rfl, hj⟩ : ∃ j, c = .ref j ∧ A.heap[j]? = some (.ref j) := by
    rcases L1.p.bw.tbl _ _ hc with ⟨j, e, hj, _⟩ | ⟨i, rfl, _⟩
    · exact ⟨j, e, hj⟩
    · exact absurd hc (ns _ _)
  have hv : varAt A (.ref j) := (List.getElem?_eq_some_iff.mp hj).1
  refine c_bind (v := .con 0) g1.s g1.m hv fun M2 hS k2 => ?_
  have e : bindP A (.ref j) (.con 0) = { A with heap := A.heap.set j (.con 0) } := by
    simp [bindP, L1.p.bb.2]
  rw [e] at hS
  have ke := Ke.write (y := y) (c := .con 0) hj trivial
  have g2 : G M2 S { A with heap := A.heap.set j (.con 0) } Y y := g1.step hS k2 ⟨by have := g1.m.h; simpa using this, g1.m.t, g1.m.r⟩
  exact hR M2 _ ⟨L1.h.keep k2 (fun z => L.ap.h5 (.tail _ z)) (fun z => L.ap.k5 (.tail _ z)), L.kl, by omega, g2, (wf_of L1.p.bw hz).bind hj, L.tr, L1.p.bb, L.sl, L.ap.h5, L.ap.h6, L.ap.k5, ke _ o1⟩ (ke _ o2)
theorem lawD {R : Fl → Loc → Mm → Prop} (F : LF hd kp ks S Y M A y n one) (o2 : CellOk y A other)
    (hR : ∀ M' other', LF hd kp ks S Y M' A y (n + 1) one → (CellOk y A other' ∨ (other' = .srf 1 ∧ A.stack[1]? = some (.srf 1))) → R .next (locB hd ta Y S one other') M') (hn : n < 150) :
    ExsP C ⟨k + 8, fScope (ms 49), []⟩ (List.take 1 (List.drop 8 (fBody (ms 49)))) (zipL [n_hand, n_names, n_store, n_table, n_one, n_other] [.ref hd, .ref Y.sy, .ref S.st, .ref ta, cv one, cv other]) M R := by
  refine f_lawD ?_
  refine c_law_step (w := 3) F.h (by omega) F.kl (by decide) fun M1 r h1 hr k1 => ?_
  have F1 : LF hd kp ks S Y M1 A y (n + 1) one := ⟨h1, F.kl, by omega, F.g.keep k1 (fun a ha => by rw [List.mem_singleton.mp ha]; exact ⟨F.h5, F.h6⟩), F.w, F.tr, F.bb, F.sl, F.h5, F.h6, F.k5, F.one⟩
  refine Eq.mpr e_eqI ?_
  refine Eq.mpr e_br ⟨fun _ => ?_, fun _ => hR M1 other F1 (.inl o2)⟩
  refine Eq.mpr (F1.g.s.meth (x := n_is_unbound) (f := 237) (by decide +kernel) rfl) ?_
  obtain ⟨c, hc⟩ : ∃ c, A.stack[1]? = some c := ⟨_, List.getElem?_eq_getElem (by rw [F.sl]; decide)⟩
  refine c_is_unbound (j := 1) F1.g hc ?_
  refine Eq.mpr e_truth ?_
  refine Eq.mpr e_br ⟨fun z => ?_, fun _ => hR M1 other F1 (.inl o2)⟩
  exact hR M1 (.srf 1) F1 (.inr ⟨rfl, by rw [hc, of_decide_eq_true z]⟩)
end
end
end Mine

end
section
open PySem PySem.W PyProof.Rows PySem.Calls
set_option Elab.async false
set_option maxRecDepth 100000
set_option linter.all false
namespace Mine
noncomputable section
noncomputable def cD (c : Cl) : PyData := .tuple [.int c.tag, .int c.num]
noncomputable def tD (t : Tr) : PyData := .int (te t)
theorem datL_of {α : Type} {M : Mm} {f : α → V} {g : α → PyData} {m : Nat} (hf : ∀ x n, m ≤ n → datV M n (f x) = some (g x)) : ∀ (l : List α) (n : Nat), l.length + m + 1 ≤ n → datL M n (l.map f) = some (l.map g)
  | [], n + 1, _ => rfl
  | x :: l, n + 1, h => by
    simp only [List.length_cons] at h
    show dat2 (datV M n (f x)) (datL M n (l.map f)) = _
    rw [hf x n (by omega), datL_of hf l n (by omega)]
    rfl
theorem dat_cv {M : Mm} (c : Cl) (n : Nat) (h : 4 ≤ n) : datV M n (cv c) = some (cD c) := by
  obtain ⟨n, rfl⟩ : ∃ k, n = k + 4 := ⟨n - 4, by omega⟩
  rfl
theorem dat_te {M : Mm} (t : Tr) (n : Nat) (h : 1 ≤ n) : datV M n (.int (te t)) = some (tD t) := by
  obtain ⟨n, rfl⟩ : ∃ k, n = k + 1 := ⟨n - 1, by omega⟩
  rfl
theorem dat_ref {M : Mm} {a : Addr} {l : List V} {d : List PyData} {n : Nat} (h : M a = some (.list l)) (hd : datL M n l = some d) : datV M (n + 1) (.ref a) = some (.list d) := by
  show datR M a (datL M n) = _
  rw [datR_of h, hd]; rfl
theorem dat_cells {M : Mm} {a : Addr} {l : List Cl} (h : M a = some (.list (l.map cv))) (n : Nat) (hn : l.length + 6 ≤ n) : datV M n (.ref a) = some (.list (l.map cD)) := by
  obtain ⟨n, rfl⟩ : ∃ k, n = k + 1 := ⟨n - 1, by omega⟩
  exact dat_ref h (datL_of dat_cv l n (by omega))
theorem dat_trail {M : Mm} {a : Addr} {l : List Tr} (h : M a = some (.list (l.map fun x => .int (te x)))) (n : Nat) (hn : l.length + 6 ≤ n) : datV M n (.ref a) = some (.list (l.map tD)) := by
  obtain ⟨n, rfl⟩ : ∃ k, n = k + 1 := ⟨n - 1, by omega⟩
  exact dat_ref h (datL_of (f := fun x => V.int (te x)) dat_te l n (by omega))
theorem lay_map {α : Type} {g : α → PyData} (h : ∀ x, (g x).canLay0 = true) : ∀ l : List α, PyData.canLayAll0 (l.map g) = true
  | [] => rfl
  | x :: l => by
    show ((g x).canLay0 && PyData.canLayAll0 (l.map g)) = true
    rw [h, lay_map h l]; rfl
theorem depth_map {α : Type} {g : α → PyData} {m : Nat} (h : ∀ x, (g x).depth ≤ m) : ∀ l : List α, PyData.depthAll (l.map g) ≤ m
  | [] => Nat.zero_le _
  | x :: l => by
    show max (g x).depth (PyData.depthAll (l.map g)) ≤ m
    exact Nat.max_le.mpr ⟨h x, depth_map h l⟩
theorem shaped_list {α : Type} {g : α → PyData} {m : Nat} (h1 : ∀ x, (g x).canLay0 = true) (h2 : ∀ x, (g x).depth ≤ m) (l : List α) : (PyData.list (l.map g)).canLay0 = true ∧ (PyData.list (l.map g)).depth ≤ m + 1 := by
  refine ⟨?_, ?_⟩
  · rw [PyData.canLay0]; exact lay_map h1 l
  · rw [PyData.depth]; exact Nat.succ_le_succ (depth_map h2 l)
theorem cD_ok (c : Cl) : (cD c).canLay0 = true ∧ (cD c).depth ≤ 1 := ⟨rfl, by show PyData.depth (.tuple _) ≤ 1; simp [PyData.depth, PyData.depthAll]⟩
theorem tD_ok (t : Tr) : (tD t).canLay0 = true ∧ (tD t).depth ≤ 1 := ⟨rfl, Nat.zero_le _⟩
-- two values that read alike are equal
theorem eq_alike {M : Mm} {X Y : V} {d : PyData} {n : Nat} {Q : Bool → Prop} (hd : datV M n X = some d) (he : datV M n Y = some d) (h1 : d.canLay0 = true) (h2 : d.depth ≤ 64) (hq : Q true) : ∃ n d e, datV M n X = some d ∧ datV M n Y = some e ∧ SeqAt.shaped d = true ∧ SeqAt.shaped e = true ∧ Q (PyData.eqv d e) := by
  have sh : SeqAt.shaped d = true := by unfold SeqAt.shaped; rw [h1, decide_eq_true h2]; rfl
  exact ⟨n, d, d, hd, he, sh, sh, by rw [SeqAt.eqv_refl d h1]; exact hq⟩
end
end Mine

end
section
open PySem PySem.W PyProof.Rows PySem.Calls
set_option Elab.async false
set_option maxRecDepth 100000
set_option linter.all false
namespace Mine
noncomputable section
-- the areas as a datum
noncomputable def aD (A : Ar) : PyData := .tuple [.list (A.heap.map cD), .list (A.stack.map cD), .list (A.trail.map tD), .int (A.hb : Nat), .int (A.bb : Nat)]
theorem datL_cons {M : Mm} {n : Nat} {x : V} {l : List V} {d : PyData} {e : List PyData} (hx : datV M n x = some d) (hl : datL M n l = some e) : datL M (n + 1) (x :: l) = some (d :: e) := by
  show dat2 (datV M n x) (datL M n l) = _
  rw [hx, hl]; rfl
theorem datV_tup {M : Mm} {n : Nat} {l : List V} {d : List PyData} (h : datL M n l = some d) : datV M (n + 1) (.tup l) = some (.tuple d) := by
  show (datL M n l).map _ = _
  rw [h]; rfl
theorem dat_area {M : Mm} {A : Ar} {a b c : Addr} (ha : M a = some (.list (A.heap.map cv))) (hb : M b = some (.list (A.stack.map cv))) (hc : M c = some (.list (A.trail.map fun x => .int (te x)))) :
    datV M (A.heap.length + A.stack.length + A.trail.length + 20) (.tup [.ref a, .ref b, .ref c, .int (A.hb : Nat), .int (A.bb : Nat)]) = some (aD A) := by
  have h1 := dat_cells ha (A.heap.length + A.stack.length + A.trail.length + 18) (by omega)
  have h2 := dat_cells hb (A.heap.length + A.stack.length + A.trail.length + 17) (by omega)
  have h3 := dat_trail hc (A.heap.length + A.stack.length + A.trail.length + 16) (by omega)
  exact datV_tup (datL_cons h1 (datL_cons h2 (datL_cons h3 (datL_cons rfl (datL_cons rfl rfl)))))
theorem dat_three {M : Mm} {A : Ar} {a b c : Addr} (ha : M a = some (.list (A.heap.map cv))) (hb : M b = some (.list (A.stack.map cv))) (hc : M c = some (.list (A.trail.map fun x => .int (te x)))) :
    datV M (A.heap.length + A.stack.length + A.trail.length + 20) (.tup [.ref a, .ref b, .ref c]) = some (.tuple [.list (A.heap.map cD), .list (A.stack.map cD), .list (A.trail.map tD)]) := by
  have h1 := dat_cells ha (A.heap.length + A.stack.length + A.trail.length + 18) (by omega)
  have h2 := dat_cells hb (A.heap.length + A.stack.length + A.trail.length + 17) (by omega)
  have h3 := dat_trail hc (A.heap.length + A.stack.length + A.trail.length + 16) (by omega)
  exact datV_tup (datL_cons h1 (datL_cons h2 (datL_cons h3 rfl)))
theorem three_ok (A : Ar) : (PyData.list (A.heap.map cD)).canLay0 = true ∧ (PyData.list (A.stack.map cD)).canLay0 = true ∧ (PyData.list (A.trail.map tD)).canLay0 = true ∧ (PyData.list (A.heap.map cD)).depth ≤ 2 ∧ (PyData.list (A.stack.map cD)).depth ≤ 2 ∧ (PyData.list (A.trail.map tD)).depth ≤ 2 := by
  obtain ⟨a1, a2⟩ := shaped_list (fun x => (cD_ok x).1) (fun x => (cD_ok x).2) A.heap
  obtain ⟨b1, b2⟩ := shaped_list (fun x => (cD_ok x).1) (fun x => (cD_ok x).2) A.stack
  obtain ⟨c1, c2⟩ := shaped_list (fun x => (tD_ok x).1) (fun x => (tD_ok x).2) A.trail
  exact ⟨a1, b1, c1, a2, b2, c2⟩
theorem tuple_ok {l : List PyData} (h : ∀ x ∈ l, x.canLay0 = true ∧ x.depth ≤ 2) : (PyData.tuple l).canLay0 = true ∧ (PyData.tuple l).depth ≤ 64 := by
  have key : PyData.canLayAll0 l = true ∧ PyData.depthAll l ≤ 2 := by
    induction l with
    | nil => exact ⟨rfl, Nat.zero_le _⟩
    | cons x l ih =>
      obtain ⟨i1, i2⟩ := ih fun y hy => h y (.tail _ hy)
      obtain ⟨h1, h2⟩ := h x (.head _)
      refine ⟨?_, ?_⟩
      · show (x.canLay0 && PyData.canLayAll0 l) = true
        rw [h1, i1]; rfl
      · show max x.depth (PyData.depthAll l) ≤ 2
        exact Nat.max_le.mpr ⟨h2, i2⟩
  refine ⟨?_, ?_⟩
  · rw [PyData.canLay0]; exact key.1
  · rw [PyData.depth]; have := key.2; omega
theorem aD_ok (A : Ar) : (aD A).canLay0 = true ∧ (aD A).depth ≤ 64 := tuple_ok fun x hx => by
  obtain ⟨a1, b1, c1, a2, b2, c2⟩ := three_ok A
  simp only [List.mem_cons, List.not_mem_nil, or_false] at hx
  rcases hx with rfl | rfl | rfl | rfl | rfl
  · exact ⟨a1, a2⟩
  · exact ⟨b1, b2⟩
  · exact ⟨c1, c2⟩
  · exact ⟨rfl, Nat.zero_le _⟩
  · exact ⟨rfl, Nat.zero_le _⟩
-- where a copy of the areas lies
structure Cp (M : Mm) (A : Ar) (a b c : Addr) : Prop where
  a : M a = some (.list (A.heap.map cv))
  b : M b = some (.list (A.stack.map cv))
  c : M c = some (.list (A.trail.map fun x => .int (te x)))
section
variable {C : Cx} {k : Nat} {M M' : Mm} {S : SA} {Y : SY} {y : Sy} {A A' : Ar} {one other : Cl} {n : Nat} {b : Bool} {ex : List Tr} {a1 a2 a3 b1 b2 b3 : Addr}
theorem Cp.keep (h : Cp M A a1 a2 a3) {L : List Addr} (kk : Keeps L M M') (h1 : a1 ∉ L) (h2 : a2 ∉ L) (h3 : a3 ∉ L) : Cp M' A a1 a2 a3 := ⟨kk _ _ h.a h1, kk _ _ h.b h2, kk _ _ h.c h3⟩
noncomputable def cpV (A : Ar) (a b c : Addr) : V := .tup [.ref a, .ref b, .ref c, .int (A.hb : Nat), .int (A.bb : Nat)]
theorem e_areas (h : Cp M A a1 a2 a3) (h' : Cp M A b1 b2 b3) {Q : Bool → Prop} (hq : Q false) : cmpV M .NotEq (cpV A a1 a2 a3) (cpV A b1 b2 b3) Q :=
  show ∃ n d e, datV M n (cpV A a1 a2 a3) = some d ∧ datV M n (cpV A b1 b2 b3) = some e ∧ SeqAt.shaped d = true ∧ SeqAt.shaped e = true ∧ Q (!(PyData.eqv d e)) from
  eq_alike (Q := fun b => Q (!b)) (dat_area h.a h.b h.c) (dat_area h'.a h'.b h'.c) (aD_ok A).1 (aD_ok A).2 hq
theorem e_neBs {b : Bool} {Q : Bool → Prop} (h : Q false) : cmpV M .NotEq (.bool b) (.bool b) Q := by
  show Q (!(b == b))
  rw [show (!(b == b)) = false by cases b <;> rfl]; exact h
theorem e_brF {P R : Prop} (h : R) : br false P R := h
theorem e_brT {P R : Prop} (h : P) : br true P R := h
-- what the plain law tells of these areas
structure Pl (y : Sy) (A : Ar) (one other : Cl) (n : Nat) (A' : Ar) (b : Bool) (ex : List Tr) : Prop where
  u1 : uniF (arOf y) n (mkd A) [] [(one, other)] = some (A', b)
  u2 : uniF (arOf y) n (mkd A) [] [(other, one)] = some (A', b)
  tr : A'.trail = A.trail ++ ex
  tin : ∀ t ∈ ex, trIn A' t
  un : undoR A' A.trail ex = mkd A
  len : A'.heap.length = A.heap.length
  tl : A'.trail.length ≤ 12000
  al : b = true → Alike (arOf y) A' one other
theorem Blk.mkd {p : Nat} (h : Blk y A p) : Blk y (mkd A) p := ⟨h.ex⟩
theorem CellOk.mkd {c : Cl} (h : CellOk y A c) : CellOk y (mkd A) c := by
  cases c with
  | str p => exact Blk.mkd h
  | _ => exact h
theorem Wf.mkd (W : Wf y A) : Wf y (mkd A) := ⟨fun i c hc => by
  have := W.cell i c hc
  cases c with
  | str p => exact ⟨this.1, Blk.mkd this.2⟩
  | _ => exact this, W.stk, W.z⟩
theorem pl_of (W : Wf y A) (ht : A.trail = []) (h1 : CellOk y A one) (h2 : CellOk y A other ∨ (other = .srf 1 ∧ A.stack[1]? = some (.srf 1))) : ∃ n A' b ex, Pl y A one other n A' b ex := by
  obtain ⟨n, A', b, ex, e1, e2, e3, e4, e5, e6, e7, e8⟩ := plain (A := mkd A) W.mkd rfl rfl h1.mkd (h2.imp CellOk.mkd id)
  have e7 : A'.trail.length ≤ A.trail.length + 12000 := e7
  rw [ht] at e7
  exact ⟨n, A', b, ex, e1, e2, e3, e4, e5, e6, by simpa using e7, e8⟩
theorem Pl.back (P : Pl y A one other n A' b ex) : ({ undoR A' A.trail ex with hb := A.hb, bb := A.bb } : Ar) = A := by rw [P.un]; rfl
-- the frame's names behind the areas' first copy
noncomputable def locE (S : SA) (A : Ar) (one other : Cl) (a1 a2 a3 : Addr) (b : Bool) : Loc := [(n_store, .ref S.st), (n_one, cv one), (n_other, cv other), (n_occurs, .bool true), (n_before, cpV A a1 a2 a3), (n_told, .bool b), (n_back, .bool b)]
theorem lawE {R : Fl → Loc → Mm → Prop} (g : G M S A Y y) (P : Pl y A one other n A' b ex) (hz : A.heap.length ≤ 60) (ht : A.trail.length ≤ 100)
    (hR : ∀ M' a1 a2 a3, G M' S A Y y → Cp M' A a1 a2 a3 → Out S Y a1 → Out S Y a2 → Out S Y a3 → R .next (locE S A one other a1 a2 a3 b) M') :
    ExsP C ⟨k + 8, fScope (ms 49), []⟩ (List.take 5 (List.drop 9 (fBody (ms 49)))) (zipL [n_store, n_one, n_other] [.ref S.st, cv one, cv other]) M R := by
  refine f_lawE ?_
  refine c_law_areas g fun M1 a1 a2 a3 g1 n1 n2 n3 h1 h2 h3 k1 => ?_
  have o1 := g.out n1; have o2 := g.out n2; have o3 := g.out n3
  have c1 : Cp M1 A a1 a2 a3 := ⟨h1, h2, h3⟩
  refine c_trial g1 hz (by omega) P.u1 P.tr P.tin fun M2 g2 k2 => ?_
  rw [P.back] at g2
  have c2 := c1.keep k2 (not_all o1) (not_all o2) (not_all o3)
  refine c_trial g2 hz (by omega) P.u2 P.tr P.tin fun M3 g3 k3 => ?_
  rw [P.back] at g3
  have c3 := c2.keep k3 (not_all o1) (not_all o2) (not_all o3)
  refine c_law_areas g3 fun M4 b1 b2 b3 g4 _ _ _ h4 h5 h6 k4 => ?_
  have c4 := c3.keep k4 (by simp) (by simp) (by simp)
  refine e_areas (⟨h4, h5, h6⟩ : Cp M4 A b1 b2 b3) c4 ?_
  refine e_brF ?_
  refine e_neBs ?_
  refine e_brF ?_
  exact hR M4 a1 a2 a3 g4 c4 o1 o2 o3
noncomputable def locF (S : SA) (A : Ar) (one other : Cl) (a1 a2 a3 : Addr) (b : Bool) : Loc := [(n_store, .ref S.st), (n_one, cv one), (n_other, cv other), (n_occurs, .bool true), (n_before, cpV A a1 a2 a3), (n_told, .bool b), (n_start, .int (A.trail.length : Nat))]
theorem lawF {R : Fl → Loc → Mm → Prop} (g : G M S A Y y) (P : Pl y A one other n A' b ex) (hz : A.heap.length ≤ 60) (ht : A.trail.length ≤ 100) (c : Cp M A a1 a2 a3) (o1 : Out S Y a1) (o2 : Out S Y a2) (o3 : Out S Y a3)
    (hR : ∀ M', G M' S A' Y y → Cp M' A a1 a2 a3 → R .next (locF S A one other a1 a2 a3 b) M') :
    ExsP C ⟨k + 8, fScope (ms 49), []⟩ (List.take 4 (List.drop 14 (fBody (ms 49)))) (zipL [n_store, n_one, n_other, n_occurs, n_before, n_told] [.ref S.st, cv one, cv other, .bool true, cpV A a1 a2 a3, .bool b]) M R := by
  have h2 := g.m.t
  refine f_lawF ?_
  refine Eq.mpr g.s.a_heap ?_
  refine Eq.mpr (e_len g.s.heap (by simp; omega)) ?_
  refine Eq.mpr (e_setHb g) ?_
  have g1 := g.setHb (A.heap.map cv).length
  have k1 : Keeps S.all M (upd M S.d (.ns (sNs S (A.heap.map cv).length A.bb))) := kd
  revert g1 k1
  generalize upd M S.d (.ns (sNs S (A.heap.map cv).length A.bb)) = M1
  intro g1 k1
  refine Eq.mpr g1.s.a_stack ?_
  refine Eq.mpr (e_len g1.s.stack (by simp; omega)) ?_
  refine Eq.mpr (e_setBb g1) ?_
  have g2 := g1.setBb (A.stack.map cv).length
  have k2 : Keeps S.all M1 (upd M1 S.d (.ns (sNs S (A.heap.map cv).length (A.stack.map cv).length))) := kd
  revert g2 k2
  show G (upd M1 S.d (.ns (sNs S (A.heap.map cv).length (A.stack.map cv).length))) S _ Y y → _
  generalize upd M1 S.d (.ns (sNs S (A.heap.map cv).length (A.stack.map cv).length)) = M2
  intro g2 k2
  have g2 : G M2 S (mkd A) Y y := by simpa [mkd] using g2
  refine Eq.mpr (g2.s.meth (x := n_mark) (f := 265) (by decide +kernel) rfl) ?_
  refine c_mark g2.s g2.m ?_
  refine c_unify g2 hz (show A.trail.length ≤ 30000 by omega) P.u1 fun M3 g3 k3 => ?_
  refine e_neBs ?_
  refine e_brF ?_
  exact hR M3 g3 (c.keep ((k1.trans k2).trans k3) (not_all o1) (not_all o2) (not_all o3))
end
end
end Mine

end
section
open PySem PySem.W PyProof.Rows PySem.Calls
set_option Elab.async false
set_option maxRecDepth 100000
set_option linter.all false
namespace Mine
noncomputable section
section
variable {C : Cx} {k : Nat} {M M' : Mm} {S : SA} {Y : SY} {y : Sy} {A A' : Ar} {one other : Cl} {n : Nat} {b : Bool} {ex : List Tr} {a1 a2 a3 b1 b2 b3 : Addr} {f f' : Addr} {res : List Nat}
noncomputable def resV (res : List Nat) : List V := res.map fun i => cv (.ref i)
theorem dat_res (h : M f = some (.list (resV res))) : datV M (res.length + 7) (.ref f) = some (.list (res.map fun i => cD (.ref i))) := dat_ref h (datL_of (f := fun i : Nat => cv (.ref i)) (g := fun i => cD (.ref i)) (m := 4) (fun i n hn => dat_cv _ n hn) res _ (by omega))
theorem res_ok (res : List Nat) : (PyData.list (res.map fun i => cD (.ref i))).canLay0 = true ∧ (PyData.list (res.map fun i => cD (.ref i))).depth ≤ 64 :=
  let ⟨h1, h2⟩ := shaped_list (g := fun i : Nat => cD (.ref i)) (fun i => (cD_ok _).1) (fun i => (cD_ok _).2) res
  ⟨h1, by omega⟩
theorem e_found (h : M f = some (.list (resV res))) (h' : M f' = some (.list (resV res))) {Q : Bool → Prop} (hq : Q false) : cmpV M .NotEq (.ref f) (.ref f') Q :=
  show ∃ n d e, datV M n (.ref f) = some d ∧ datV M n (.ref f') = some e ∧ SeqAt.shaped d = true ∧ SeqAt.shaped e = true ∧ Q (!(PyData.eqv d e)) from
  eq_alike (Q := fun b => Q (!b)) (dat_res h) (dat_res h') (res_ok res).1 (res_ok res).2 hq
-- is the list found empty?
theorem e_empty (h : M f = some (.list (resV res))) (h' : M f' = some (.list [])) {Q : Bool → Prop} (hq : Q (decide (res = []))) : cmpV M .Eq (.ref f) (.ref f') Q := by
  have sh : ∀ d : PyData, d.canLay0 = true ∧ d.depth ≤ 64 → SeqAt.shaped d = true := fun d h => by unfold SeqAt.shaped; rw [h.1, decide_eq_true h.2]; rfl
  refine (show ∃ n d e, datV M n (.ref f) = some d ∧ datV M n (.ref f') = some e ∧ SeqAt.shaped d = true ∧ SeqAt.shaped e = true ∧ Q (PyData.eqv d e) from
    ⟨_, _, .list [], dat_res h, dat_ref h' rfl, sh _ (res_ok res), rfl, ?_⟩)
  cases res with
  | nil => simpa [PyData.eqv, PyData.eqvAll] using hq
  | cons x r => simpa [PyData.eqv, PyData.eqvAll] using hq
theorem e_three (h : Cp M A a1 a2 a3) (h' : Cp M A b1 b2 b3) {Q : Bool → Prop} (hq : Q true) : cmpV M .Eq (.tup [.ref a1, .ref a2, .ref a3]) (.tup [.ref b1, .ref b2, .ref b3]) Q := by
  obtain ⟨t1, t2, t3, t4, t5, t6⟩ := three_ok A
  have ok := tuple_ok (l := [.list (A.heap.map cD), .list (A.stack.map cD), .list (A.trail.map tD)]) fun x hx => by
    simp only [List.mem_cons, List.not_mem_nil, or_false] at hx
    rcases hx with rfl | rfl | rfl
    · exact ⟨t1, t4⟩
    · exact ⟨t2, t5⟩
    · exact ⟨t3, t6⟩
  exact (show ∃ n d e, datV M n (.tup [.ref a1, .ref a2, .ref a3]) = some d ∧ datV M n (.tup [.ref b1, .ref b2, .ref b3]) = some e ∧ SeqAt.shaped d = true ∧ SeqAt.shaped e = true ∧ Q (PyData.eqv d e) from
    eq_alike (dat_three h.a h.b h.c) (dat_three h'.a h'.b h'.c) ok.1 ok.2 hq)
noncomputable def Sub3 (S : SA) (A : Ar) (a1 a2 a3 : Addr) (l : Loc) : Prop := lk n_store l = some (.ref S.st) ∧ lk n_before l = some (cpV A a1 a2 a3) ∧ lk n_start l = some (.int (A.trail.length : Nat))
theorem lawG {R : Fl → Loc → Mm → Prop} (g : G M S A' Y y) (P : Pl y A one other n A' b ex) (hz : A.heap.length ≤ 60) (c : Cp M A a1 a2 a3) (o1 : Out S Y a1) (o2 : Out S Y a2) (o3 : Out S Y a3)
    (hR : ∀ M' l, G M' S A' Y y → Cp M' A a1 a2 a3 → Sub3 S A a1 a2 a3 l → R .next l M') :
    ExsP C ⟨k + 8, fScope (ms 49), []⟩ (List.take 1 (List.drop 18 (fBody (ms 49)))) (zipL [n_store, n_one, n_other, n_occurs, n_before, n_told, n_start] [.ref S.st, cv one, cv other, .bool true, cpV A a1 a2 a3, .bool b, .int (A.trail.length : Nat)]) M R := by
  refine f_lawG ?_
  refine Eq.mpr e_truth ?_
  cases b with
  | false => exact e_brF (hR M _ g c ⟨rfl, rfl, rfl⟩)
  | true =>
  refine e_brT ?_
  obtain ⟨m, m', res, d1, d2, hc, hu, ⟨h1, h2, h3, h4⟩, ⟨h5, h6, h7, h8⟩⟩ := (P.al rfl).ex
  have hN : A'.heap.length ≤ 60 := by rw [P.len]; exact hz
  have hT := P.tl
  refine c_variables g hN h1 h2 h3 fun M1 f nf hf k1 => ?_
  have of := g.out nf
  have g1 := g.keep0 k1
  refine c_identical g1 hN (by omega) hc fun M2 g2 k2 => ?_
  have hf2 := k2 _ _ hf (not_all of)
  refine Eq.mpr e_truth ?_
  refine e_brF ?_
  refine c_variables g2 hN h5 h6 h7 fun M3 f' _ hf' k3 => ?_
  have g3 := g2.keep0 k3
  have hf3 := k3 _ _ hf2 (by simp)
  refine e_found hf3 hf' ?_
  refine e_brF ?_
  refine c_ground g3 hN h4 fun M4 k4 a ha => ?_
  have k4' := k4.trans (Keeps.new (x := .list []) ha)
  have hf4 := k4' _ _ hf3 (by simp)
  have g4 := g3.keep0 k4'
  refine e_empty hf4 (upd_same ..) ?_
  refine e_neBs ?_
  refine e_brF ?_
  refine c_ground g4 hN h8 fun M5 k5 a' ha' => ?_
  have k5' := k5.trans (Keeps.new (x := .list []) ha')
  have hf5 := k5' _ _ hf4 (by simp)
  have g5 := g4.keep0 k5'
  refine e_empty hf5 (upd_same ..) ?_
  refine e_neBs ?_
  refine e_brF ?_
  refine c_law_areas g5 fun M6 b1 b2 b3 g6 n1 n2 n3 e1 e2 e3 k6 => ?_
  have p1 := g5.out n1; have p2 := g5.out n2; have p3 := g5.out n3
  refine c_unify g6 hN (by omega) hu fun M7 g7 k7 => ?_
  refine Eq.mpr e_truth ?_
  refine e_brF ?_
  have c7 : Cp M7 A' b1 b2 b3 := Cp.keep ⟨e1, e2, e3⟩ k7 (not_all p1) (not_all p2) (not_all p3)
  refine c_law_areas g7 fun M8 q1 q2 q3 g8 _ _ _ e4 e5 e6 k8 => ?_
  refine e_areas (⟨e4, e5, e6⟩ : Cp M8 A' q1 q2 q3) (c7.keep k8 (by simp) (by simp) (by simp)) ?_
  refine e_brF ?_
  have kall : Keeps S.all M M8 := ((((((k1.mono (by simp)).trans k2).trans (k3.mono (by simp))).trans (k4'.mono (by simp))).trans (k5'.mono (by simp))).trans (k6.mono (by simp))).trans (k7.trans (k8.mono (by simp)))
  exact hR M8 _ g8 (c.keep kall (not_all o1) (not_all o2) (not_all o3)) ⟨rfl, rfl, rfl⟩
theorem lawH {R : Fl → Loc → Mm → Prop} (g : G M S A' Y y) (P : Pl y A one other n A' b ex) (c : Cp M A a1 a2 a3) (o1 : Out S Y a1) (o2 : Out S Y a2) (o3 : Out S Y a3) (hR : ∀ l M', R (.ret (.bool true)) l M') :
    ExsP C ⟨k + 8, fScope (ms 49), []⟩ (List.take 2 (List.drop 19 (fBody (ms 49)))) (zipL [n_store, n_before, n_start] [.ref S.st, cpV A a1 a2 a3, .int (A.trail.length : Nat)]) M R := by
  refine f_lawH ?_
  refine Eq.mpr (g.s.meth (x := n_undo_to) (f := 272) (by decide +kernel) rfl) ?_
  refine c_undo_to g P.tr P.tin fun M1 g1 k1 => ?_
  rw [P.un] at g1
  have c1 := c.keep k1 (not_all o1) (not_all o2) (not_all o3)
  have z1 := g1.m.h; have z2 := g1.m.t; have z3 := g1.m.r
  have z1 : A.heap.length < 500 := z1
  have z2 : A.stack.length < 500 := z2
  have z3 : A.trail.length < 60000 := z3
  refine Eq.mpr g1.s.a_heap ?_
  refine Eq.mpr (e_tup (n := 0) rfl (by decide)) ?_
  refine Eq.mpr (e_len c1.a (by simp; omega)) ?_
  refine ⟨by omega, .inl ⟨_, g1.s.heap, by show (A.heap.map cv).length < _; simp; omega, fun b hb => ?_⟩⟩
  have k2 : Keeps [] M1 (upd M1 b (.list (((mkd A).heap.map cv).take ((A.heap.map cv).length : Int).toNat))) := Keeps.new hb
  have hb2 : upd M1 b (.list (((mkd A).heap.map cv).take ((A.heap.map cv).length : Int).toNat)) b = some (.list (A.heap.map cv)) := by
    rw [upd_same, Int.toNat_natCast]
    show some (MO.list ((A.heap.map cv).take (A.heap.map cv).length)) = _
    rw [List.take_length]
  revert k2 hb2
  generalize upd M1 b (.list (((mkd A).heap.map cv).take ((A.heap.map cv).length : Int).toNat)) = M2
  intro k2 hb2
  have g2 := g1.keep0 k2
  refine Eq.mpr (e_copy hb2 (by simp; omega)) fun q1 n1 => ?_
  have k3 : Keeps [] M2 (upd M2 q1 (.list (A.heap.map cv))) := Keeps.new n1
  have g3 := g2.keep0 k3
  refine Eq.mpr g3.s.a_stack ?_
  refine Eq.mpr (e_copy g3.s.stack (by show (A.stack.map cv).length < _; simp; omega)) fun q2 n2 => ?_
  have k4 : Keeps [] _ (upd (upd M2 q1 (.list (A.heap.map cv))) q2 (.list ((mkd A).stack.map cv))) := Keeps.new n2
  have g4 := g3.keep0 k4
  refine Eq.mpr g4.s.a_trail ?_
  refine Eq.mpr (e_copy g4.s.trail (by show (A.trail.map _).length < _; simp; omega)) fun q3 n3 => ?_
  have k5 : Keeps [] _ (upd (upd (upd M2 q1 (.list (A.heap.map cv))) q2 (.list ((mkd A).stack.map cv))) q3 (.list ((mkd A).trail.map fun x => .int (te x)))) := Keeps.new n3
  have cp : Cp (upd (upd (upd M2 q1 (.list (A.heap.map cv))) q2 (.list ((mkd A).stack.map cv))) q3 (.list ((mkd A).trail.map fun x => .int (te x)))) A q1 q2 q3 :=
    ⟨k5 _ _ (k4 _ _ (upd_same ..) (by simp)) (by simp), k5 _ _ (upd_same ..) (by simp), upd_same ..⟩
  have c5 := c1.keep (((k2.trans k3).trans k4).trans k5) (by simp) (by simp) (by simp)
  refine ⟨by decide, by simp, by simp, ?_⟩
  exact e_three cp c5 (hR _ _)
end
end
end Mine

end
section
open PySem PySem.W PyProof.Rows PySem.Calls
set_option Elab.async false
set_option maxRecDepth 100000
set_option linter.all false
namespace Mine
noncomputable section
section
variable {C : Cx} {k : Nat} {M : Mm}
theorem xs_names {F : Fi} {ss : List Stmt} {ns : List Str} {vs : List V} {loc : Loc} {Q : Fl → Loc → Mm → Prop} (h : gatherV ns loc fun v => v = vs) (hh : ExsP C F ss (zipL ns vs) M Q) : ExsP C F ss loc M Q := fun A B s L nm fa cd cs S => by
  obtain ⟨vals, _, sub, rfl⟩ := h.inv
  exact hh A B s L nm fa cd cs (S.less sub)
theorem law_split : fBody (ms 49) = List.take 5 (List.drop 0 (fBody (ms 49))) ++ (List.take 2 (List.drop 5 (fBody (ms 49))) ++ (List.take 1 (List.drop 7 (fBody (ms 49))) ++ (List.take 1 (List.drop 8 (fBody (ms 49))) ++
    (List.take 5 (List.drop 9 (fBody (ms 49))) ++ (List.take 4 (List.drop 14 (fBody (ms 49))) ++ (List.take 1 (List.drop 18 (fBody (ms 49))) ++ List.take 2 (List.drop 19 (fBody (ms 49))))))))) := by kernel_rfl
theorem c_law : CallP C (k + 9) (.ref 549) [.ref C.sc] M fun X _ => X = .bool true := by
  refine callP_fn (st := ms 49) (qual := n_law) (pm := pm5) (pmt := 908) (dfl := .none) (ns := [n_script]) (by kernel_rfl) (by kernel_rfl) (by kernel_rfl) (bnd1 rfl (by kernel_rfl)) ?_
  rw [law_split]
  refine exs_app (lawA fun M1 hd kp ta ks S Y A y tb L hA tl yt yf => ?_)
  refine exs_app (lawB L hA tl yt yf fun M2 A2 y2 tb2 n2 one other L2 hn ns hz o1 o2 => ?_)
  refine exs_app (lawC L2 hn ns hz o1 o2 fun M3 A3 F3 o3 => ?_)
  refine exs_app (lawD F3 o3 (fun M4 other' F4 o4 => ?_) (by omega))
  obtain ⟨n, A', b, ex, P⟩ := pl_of F4.w F4.tr F4.one o4
  refine xs_names (ns := [n_store, n_one, n_other]) (vs := [.ref S.st, cv one, cv other']) rfl ?_
  refine exs_app (lawE F4.g P F4.w.z (by rw [F4.tr]; exact Nat.zero_le _) fun M5 a1 a2 a3 g5 c5 q1 q2 q3 => ?_)
  refine xs_names (ns := [n_store, n_one, n_other, n_occurs, n_before, n_told]) (vs := [.ref S.st, cv one, cv other', .bool true, cpV A3 a1 a2 a3, .bool b]) rfl ?_
  refine exs_app (lawF g5 P F4.w.z (by rw [F4.tr]; exact Nat.zero_le _) c5 q1 q2 q3 fun M6 g6 c6 => ?_)
  refine exs_app (lawG g6 P F4.w.z c6 q1 q2 q3 fun M7 l g7 c7 sub => ?_)
  obtain ⟨s1, s2, s3⟩ := sub
  refine xs_names (ns := [n_store, n_before, n_start]) (vs := [.ref S.st, cpV A3 a1 a2 a3, .int (A3.trail.length : Nat)]) ?_ ?_
  · show optV (lk n_store l) _ _
    rw [s1]
    show optV (lk n_before l) _ _
    rw [s2]
    show optV (lk n_start l) _ _
    rw [s3]; rfl
  · exact lawH g7 P c7 q1 q2 q3 fun l M' => rfl
end
end
end Mine

end
section
open PySem PySem.W PyProof.Rows PySem.Calls
set_option Elab.async false
set_option maxRecDepth 100000
set_option linter.all false
namespace Mine
theorem script_ints : ∀ {xs : List WData}, WShape.hasItems [] xs .int = true → ∃ ns : List Int, xs = ns.map .int
  | [], _ => ⟨[], rfl⟩
  | x :: r, h => by
    have h : (WShape.has [] x .int && WShape.hasItems [] r .int) = true := by simpa [WShape.hasItems] using h
    obtain ⟨h1, h2⟩ := Bool.and_eq_true_iff.mp h
    obtain ⟨i, rfl⟩ := hasW_int h1
    obtain ⟨ns, rfl⟩ := script_ints h2
    exact ⟨i :: ns, rfl⟩
theorem den_ints {P : Params} {h : Heap} : ∀ {ns : List Int} {vs : List Value}, WellAll P h vs (ns.map .int) → DenL h (ns.map .int) vs
  | [], vs, w => by cases w; exact .nil
  | i :: ns, vs, w => by
    cases w with
    | cons h1 h2 =>
      cases h1
      exact .cons (by simp [Den]) (den_ints h2)
theorem the_call : TheWalk := fun w s₀ s₁ mg mb G Y a o pm cd doc dV kV ho hd hcd hdf hmg hgens args vals as hpre hlay hrd hwell hsys => by
  obtain ⟨kin, codes⟩ := Y
  obtain ⟨p1, p2⟩ := pre_splitW hpre
  obtain ⟨x, r, rfl, hx, hr⟩ := hasAllW_cons (R := []) (e := .list .int) (es := []) p1
  cases hasAllW_nil hr
  obtain ⟨xs, rfl, hxs⟩ := hasW_list hx
  obtain ⟨ns, rfl⟩ := script_ints hxs
  have hlen : ns.length < 1000 := by
    unfold WTm.holds at p2
    simp only [rP, OpenLaw.row, OpenLaw.pre, PySem.Challenge.rw_ok0026_01] at p2
    rcases Nat.lt_or_ge ns.length 1000 with h | h
    · exact h
    · have e : less? (.int 63) (.int (ns.length : Nat)) = some true := by
        show some (decide ((63 : Int) < (ns.length : Nat))) = some true
        rw [decide_eq_true (by omega)]
      simp [WTm.value, e] at p2
  cases hwell with
  | cons h1 h2 =>
  cases h2
  cases h1 with
  | @list sc vs _ hsc hw =>
  have ha : a = 549 := by
    have gv0 : gv gRows n_law = some (.ref 549, 0, false) := by kernel_rfl
    have := mg_of kin G.T.g ((gv_ok gv0).2.2.1 rfl _)
    have hm : mg n_law = some (.ref a) := hmg
    rw [hm] at this
    cases this; rfl
  subst ha
  let C : Cx := { w := w, os := s₁.os, h0 := s₁.heap, mg := mg, mb := mb, kin := kin, codes := codes, g := G.T.g, b := G.T.b, builtins := G.T.builtins, nolimit := G.T.nolimit, sc := sc, sl := ns, scr := ⟨vs, hsc, den_ints hw⟩, sll := hlen }
  have R : Rel C (fun b o => s₁.heap.get? b = some o) (fun _ => none) s₁ := ⟨fun b o e => e, fun b o e => e, fun a x e => (by cases e), fun a x e => (by cases e), rfl, hgens, rfl⟩
  have call := (c_law (C := C) (k := 0) (M := fun _ => none)).op callerA _ s₁ [.ref sc] ⟨rfl, by decide, by decide⟩ R (.cons (show Den s₁.heap (.ref sc) _ by simp [Den]) .nil)
  refine up call fun v s' ⟨X, M', R', kk, dv, hX⟩ => ?_
  subst hX
  simp only [Den] at dv
  subst dv
  refine ⟨.inl ⟨.bool true, .bool true, [], rfl, ?_, ?_, ?_, ?_⟩, .of_keep fun b o e => R'.base b o e, R'.os, ?_⟩
  · intro cls; rfl
  · exact .bool true
  · kernel_rfl
  · exact fun _ => ⟨.nil, fun a ha => by cases ha⟩
  · rw [R'.gens]; exact .empty
end Mine
end

theorem PySem.Challenge.cw_ok0026_01_holds : PySem.Challenge.rw_ok0026_01.Holds :=
  Mine.head_ Mine.the_call
