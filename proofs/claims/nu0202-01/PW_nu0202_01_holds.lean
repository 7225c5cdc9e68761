import PyProof.Rows.All
import Wide.All
import OpenK.AllK
import Wide.FinOn
import KE.KNest
import Lean
import PySem.Challenge.RW_nu0202_01
open PySem PySem.W PyProof.Rows
set_option Elab.async false
set_option compiler.extract_closed false
set_option maxRecDepth 100000
set_option linter.unusedVariables false
set_option linter.unusedSimpArgs false
namespace Mine
noncomputable abbrev lw : OpenLaw := PySem.Challenge.rw_nu0202_01
noncomputable abbrev pw : Program := PySem.Challenge.pw_nu0202_01
theorem a1 : sreFenced pw.main = true := by kernel_rfl
theorem a2 : ((moduleNames pw.main.body).isEmpty || lookedIntoSs (moduleNames pw.main.body) pw.main.body) = true := by kernel_rfl
theorem a3 : namesResolve pw = true := by rewrite [PySem.W.Fast.te8377067652309620493]; kernel_rfl
theorem a4 : pw.boundNames.all (fun n => !worldNames.contains n) = true := by kernel_rfl
theorem a5 : noRoadLSs { strict := !(importedModules pw.main.body).all cThrough.contains, foot := none, bare := (["vars", "dir", "locals"] : List Str).filter (readsOut pw pw.main.body) } pw.main.body = true := by rewrite [PySem.W.Fast.te8326940854005059898, PySem.W.Fast.te13343964577679436407, PySem.W.Fast.te17691160309236699985]; kernel_rfl
theorem a6 : (namesMeet pw pw.main.body fun _ n => attrL n) = true := by simp only [PySem.W.Fast.te17119622794617984870, PySem.W.Fast.te17868728402115742887]; kernel_rfl
theorem a7 : looksOpen pw = true := by
  unfold looksOpen
  rw [a1, a2, a3, a4, a5, a6]; rfl
theorem a8 : lw.row.partSaid = true := by
  unfold OpenRow.partSaid
  have e : looksOpen lw.row.prog = true := a7
  rw [e]; kernel_rfl
theorem a9 : lw.row.wellSaid = true := by
  unfold OpenRow.wellSaid
  rw [a8]; kernel_rfl
theorem b2 : noClassBlock lw.prog lw.footing = true := by kernel_rfl
theorem b3 : noRoadLSs { strict := true, foot := some lw.bound', writes := lw.writes, may := lw.may } lw.footing = true := by kernel_rfl
theorem b6 : lw.bound'.all (fun n => !builtinNamed n || lw.about == [n] || !lw.reads n) = true := by kernel_rfl
theorem b9 : namesMeet lw.prog lw.above (fun _ n => !lw.own.contains n) = true := by unfold namesMeet; rewrite [PySem.W.Fast.te6116379765354995101]; kernel_rfl
theorem lw_said : lw.wellSaid = true := by
  unfold OpenLaw.wellSaid
  rw [a9, b2, b3, b6, b9]; kernel_rfl
theorem law (h : PySem.Challenge.rw_nu0202_01.row.Holds) : PySem.Challenge.rw_nu0202_01.Holds := holds_law lw_said fun _ => h
noncomputable def en (P : Params) (n : Str) (t : Nat) (v : Value) : DictEntry := ⟨PyData.keyHash P n, .str n t, v⟩
noncomputable def st (p : Program) (i : Nat) : Stmt := (p.main.body[i]?).getD (.Pass ⟨0, 0, 0, 0⟩)
noncomputable def me (p : Program) (i j : Nat) : Stmt := match st p i with
  | .ClassDef _ _ _ b .. => (b[j]?).getD (.Pass ⟨0, 0, 0, 0⟩)
  | s => s
noncomputable def fA : Stmt → Arguments
  | .FunctionDef _ a .. => a
  | _ => { posonlyargs := [], args := [], vararg := none, kwonlyargs := [], kw_defaults := [], kwarg := none, defaults := [] }
noncomputable def fB : Stmt → List Stmt
  | .FunctionDef _ _ b .. => b
  | _ => []
noncomputable def fS : Stmt → Scope
  | .FunctionDef _ _ _ _ _ _ s .. => s
  | _ => { kind := .function, names := [], isGenerator := false, isCoroutine := false, more := [] }
noncomputable abbrev P0 : Program := PySem.Challenge.pw_nu0202_01
noncomputable def env (p : Program) : Env := { scope := p.main.scope, locals := mainNs, globals := mainNs, cells := [], code := .ref 13, frame := some 14 }
noncomputable def cE (p : Program) : Code := .body (behindTheImports p) (env p)
noncomputable def Piece (a n steps : Nat) (T : Program → Params → BT) (sz tk : Nat) (pos : Pos) (T' : Program → Params → BT) (sz' tk' : Nat) (pos' : Pos) : Prop :=
  ∀ w : World, (fun os : OsState => PySem.W.Fast.tw10110043849684766642 PySem.W.Fast.tw14364793385576792824 P0 w 11 (some (.ref 6)) 1 steps ⟨T P0 w.params, sz, {}, Array.mk [], boot_drawn, tk, os⟩
      (piecesOf ((P0.main.body.drop a).take n) (env P0) (cE P0) pos [topFrame ⟨0, 0, 0, 0⟩])) =
    fun os => some (.next, ⟨T' P0 w.params, sz', {}, Array.mk [], boot_drawn, tk', os⟩, cE P0, pos')
abbrev tp (l : List Value) : Obj := ⟨.type "tuple", none, .seq (Array.mk l) 0, Array.mk []⟩
abbrev fl (c : Value) (l : List Value) : Obj := ⟨c, none, .fields (Array.mk l), Array.mk []⟩
abbrev dc (l : List DictEntry) (n : Nat) : Obj := ⟨.type "dict", none, .dict (Array.mk l) n, Array.mk []⟩
abbrev co (x1 : Str) (t1 : Nat) (x2 : Str) (t2 : Nat) (x3 : Str) (t3 : Nat) (a b c d e r1 : Nat) (f : Bool) (g r2 : Nat) (v1 v2 v3 : Value) (k1 k2 : Nat) (x4 : Str) (t4 : Nat) : Obj :=
  fl (.type "code") [.str x1 t1, .str x2 t2, .str x3 t3, .int a 0, .int b 0, .int c 0, .int d 0, .int e 0, .ref r1, .bool f, .int g 0, .ref r2, .none, v1, v2, v3, .int k1 0, .int k2 0, .str x4 t4]
noncomputable abbrev fo (x q : Str) (s : Stmt) (d pm c : Value) : Obj :=
  ⟨.type "function", none, .func { name := x, qualname := q, params := fA s, body := .stmts (fB s), scope := fS s, globals := 3, closure := [], defaults := d, kwdefaults := .none, doc := .none, pyModule := pm, annotations := none, code := c, closureTuple := .none, builtins := 0 }, Array.mk []⟩
noncomputable abbrev fr (x q : Str) (s : Stmt) : Obj :=
  ⟨.none, none, .func { name := x, qualname := q, params := fA s, body := .stmts (fB s), scope := fS s, globals := 0, closure := [], defaults := .none, kwdefaults := .none, doc := .none, pyModule := .none, annotations := none, code := .none, closureTuple := .none, builtins := 0 }, Array.mk []⟩
noncomputable def n0 : Str := ⟨Array.mk [60, 109, 111, 100, 117, 108, 101, 62]⟩
noncomputable def n1 : Str := ⟨Array.mk [47, 99, 108, 97, 105, 109, 47, 99, 117, 116, 46, 112, 121]⟩
noncomputable def n2 : Str := ⟨Array.mk [95, 95, 109, 97, 105, 110, 95, 95]⟩
noncomputable def n3 : Str := ⟨Array.mk [107]⟩
noncomputable def n4 : Str := ⟨Array.mk [95, 119, 97, 108, 108]⟩
noncomputable def n5 : Str := ⟨Array.mk [95, 95, 109, 111, 100, 117, 108, 101, 95, 95]⟩
noncomputable def n6 : Str := ⟨Array.mk [106, 111, 105, 110, 101, 100, 104, 97, 110, 100, 46, 102, 108, 97, 103, 115]⟩
noncomputable def n7 : Str := ⟨Array.mk [95, 95, 113, 117, 97, 108, 110, 97, 109, 101, 95, 95]⟩
noncomputable def n8 : Str := ⟨Array.mk [76, 111, 111, 107, 117, 112]⟩
noncomputable def n9 : Str := ⟨Array.mk [95, 95, 102, 105, 114, 115, 116, 108, 105, 110, 101, 110, 111, 95, 95]⟩
noncomputable def n10 : Str := ⟨Array.mk [95, 95, 105, 110, 105, 116, 95, 95]⟩
noncomputable def n11 : Str := ⟨Array.mk [116, 111, 108, 100]⟩
noncomputable def n12 : Str := ⟨Array.mk [95, 95, 115, 116, 97, 116, 105, 99, 95, 97, 116, 116, 114, 105, 98, 117, 116, 101, 115, 95, 95]⟩
noncomputable def n13 : Str := ⟨Array.mk [115, 101, 108, 102]⟩
noncomputable def n14 : Str := ⟨Array.mk [107, 105, 110, 100]⟩
noncomputable def n15 : Str := ⟨Array.mk [102, 108, 97, 103]⟩
noncomputable def n16 : Str := ⟨Array.mk [109, 97, 114, 107, 95, 115, 101, 116]⟩
noncomputable def n17 : Str := ⟨Array.mk [116, 97, 98, 108, 101, 115]⟩
noncomputable def n18 : Str := ⟨Array.mk [76, 111, 111, 107, 117, 112, 46, 95, 95, 105, 110, 105, 116, 95, 95]⟩
noncomputable def n19 : Str := ⟨Array.mk [76, 111, 111, 107, 117, 112, 46, 116, 111, 108, 100]⟩
noncomputable def n20 : Str := ⟨Array.mk [95, 95, 100, 105, 99, 116, 95, 95]⟩
noncomputable def n21 : Str := ⟨Array.mk [95, 95, 119, 101, 97, 107, 114, 101, 102, 95, 95]⟩
noncomputable def n22 : Str := ⟨Array.mk [95, 95, 100, 111, 99, 95, 95]⟩
noncomputable def n23 : Str := ⟨Array.mk [83, 99, 101, 110, 101]⟩
noncomputable def n24 : Str := ⟨Array.mk [98, 117, 102, 102, 101, 114]⟩
noncomputable def n25 : Str := ⟨Array.mk [103, 100, 101, 102]⟩
noncomputable def n26 : Str := ⟨Array.mk [108, 111, 111, 107, 117, 112, 115]⟩
noncomputable def n27 : Str := ⟨Array.mk [108, 111, 111, 107, 117, 112]⟩
noncomputable def n28 : Str := ⟨Array.mk [109, 97, 115, 107]⟩
noncomputable def n29 : Str := ⟨Array.mk [100, 101, 112, 116, 104]⟩
noncomputable def n30 : Str := ⟨Array.mk [83, 99, 101, 110, 101, 46, 95, 95, 105, 110, 105, 116, 95, 95]⟩
noncomputable def n31 : Str := ⟨Array.mk [97, 116, 116, 97, 99, 104, 95, 119, 97, 110, 116, 101, 100]⟩
noncomputable def n32 : Str := ⟨Array.mk [110, 117, 109, 98, 101, 114]⟩
noncomputable def n33 : Str := ⟨Array.mk [99, 108, 97, 115, 115, 95, 98, 105, 116]⟩
noncomputable def n34 : Str := ⟨Array.mk [103, 108, 121, 112, 104]⟩
noncomputable def n35 : Str := ⟨Array.mk [119, 97, 110, 116, 101, 100]⟩
noncomputable def n36 : Str := ⟨Array.mk [105, 115, 95, 105, 103, 110, 111, 114, 101, 100]⟩
noncomputable def n37 : Str := ⟨Array.mk [115, 99, 101, 110, 101]⟩
noncomputable def n38 : Str := ⟨Array.mk [97, 116]⟩
noncomputable def n39 : Str := ⟨Array.mk [112, 97, 115, 115, 101, 115]⟩
noncomputable def n40 : Str := ⟨Array.mk [116, 97, 107, 101, 115]⟩
noncomputable def n41 : Str := ⟨Array.mk [110, 101, 115, 116, 101, 100, 95, 115, 99, 101, 110, 101]⟩
noncomputable def n42 : Str := ⟨Array.mk [106, 111, 105, 110, 101, 100, 104, 97, 110, 100, 46, 98, 117, 102, 102, 101, 114]⟩
noncomputable def n43 : Str := ⟨Array.mk [73, 110, 102, 111]⟩
noncomputable def n44 : Str := ⟨Array.mk [99, 111, 112, 105, 101, 100]⟩
noncomputable def n45 : Str := ⟨Array.mk [99, 111, 100, 101]⟩
noncomputable def n46 : Str := ⟨Array.mk [99, 108, 117, 115, 116, 101, 114]⟩
noncomputable def n47 : Str := ⟨Array.mk [73, 110, 102, 111, 46, 95, 95, 105, 110, 105, 116, 95, 95]⟩
noncomputable def n48 : Str := ⟨Array.mk [102, 111, 117, 110, 100]⟩
noncomputable def n49 : Str := ⟨Array.mk [73, 110, 102, 111, 46, 99, 111, 112, 105, 101, 100]⟩
noncomputable def n50 : Str := ⟨Array.mk [73, 110, 102, 111, 46, 116, 111, 108, 100]⟩
noncomputable def n51 : Str := ⟨Array.mk [98, 111, 110, 100]⟩
noncomputable def n52 : Str := ⟨Array.mk [105, 115, 95, 117, 110, 115, 97, 102, 101]⟩
noncomputable def n53 : Str := ⟨Array.mk [108, 105, 103, 95, 99, 111, 117, 110, 116]⟩
noncomputable def n54 : Str := ⟨Array.mk [108, 105, 103, 95, 105, 100]⟩
noncomputable def n55 : Str := ⟨Array.mk [108, 105, 103, 95, 112, 97, 114, 116]⟩
noncomputable def n56 : Str := ⟨Array.mk [112, 97, 114, 101, 110, 116]⟩
noncomputable def n57 : Str := ⟨Array.mk [120, 95, 97, 100, 118, 97, 110, 99, 101]⟩
noncomputable def n58 : Str := ⟨Array.mk [120, 95, 111, 102, 102, 115, 101, 116]⟩
noncomputable def n59 : Str := ⟨Array.mk [121, 95, 97, 100, 118, 97, 110, 99, 101]⟩
noncomputable def n60 : Str := ⟨Array.mk [121, 95, 111, 102, 102, 115, 101, 116]⟩
noncomputable def n61 : Str := ⟨Array.mk [66, 117, 102, 102, 101, 114]⟩
noncomputable def n62 : Str := ⟨Array.mk [103, 108, 121, 112, 104, 115]⟩
noncomputable def n63 : Str := ⟨Array.mk [99, 108, 117, 115, 116, 101, 114, 115]⟩
noncomputable def n64 : Str := ⟨Array.mk [110, 101, 120, 116, 95, 108, 105, 103]⟩
noncomputable def n65 : Str := ⟨Array.mk [105, 110, 102, 111, 115]⟩
noncomputable def n66 : Str := ⟨Array.mk [105, 115, 95, 98, 97, 99, 107, 119, 97, 114, 100]⟩
noncomputable def n67 : Str := ⟨Array.mk [66, 117, 102, 102, 101, 114, 46, 95, 95, 105, 110, 105, 116, 95, 95]⟩
noncomputable def n68 : Str := ⟨Array.mk [66, 117, 102, 102, 101, 114, 46, 103, 108, 121, 112, 104, 115]⟩
noncomputable def n69 : Str := ⟨Array.mk [66, 117, 102, 102, 101, 114, 46, 99, 108, 117, 115, 116, 101, 114, 115]⟩
noncomputable def n70 : Str := ⟨Array.mk [66, 117, 102, 102, 101, 114, 46, 116, 111, 108, 100]⟩
noncomputable def n71 : Str := ⟨Array.mk [66, 117, 102, 102, 101, 114, 46, 110, 101, 120, 116, 95, 108, 105, 103]⟩
noncomputable def n72 : Str := ⟨Array.mk [108, 97, 115, 116, 95, 108, 105, 103]⟩
noncomputable def n73 : Str := ⟨Array.mk [114, 111, 119]⟩
noncomputable def n74 : Str := ⟨Array.mk [105, 110, 102, 111]⟩
noncomputable def n75 : Str := ⟨Array.mk [115, 101, 116, 95, 99, 108, 117, 115, 116, 101, 114]⟩
noncomputable def n76 : Str := ⟨Array.mk [98, 101, 103, 105, 110]⟩
noncomputable def n77 : Str := ⟨Array.mk [101, 110, 100]⟩
noncomputable def n78 : Str := ⟨Array.mk [102, 105, 114, 115, 116]⟩
noncomputable def n79 : Str := ⟨Array.mk [98, 101, 104, 105, 110, 100]⟩
noncomputable def n80 : Str := ⟨Array.mk [119, 105, 100, 101, 110, 101, 100]⟩
noncomputable def n81 : Str := ⟨Array.mk [109, 101, 114, 103, 101]⟩
noncomputable def n82 : Str := ⟨Array.mk [104, 97, 110, 103]⟩
noncomputable def n83 : Str := ⟨Array.mk [100, 114, 111, 112, 95, 99, 108, 117, 115, 116, 101, 114]⟩
noncomputable def n84 : Str := ⟨Array.mk [99, 111, 117, 110, 116]⟩
noncomputable def n85 : Str := ⟨Array.mk [112, 117, 116]⟩
noncomputable def n86 : Str := ⟨Array.mk [122, 119, 106]⟩
noncomputable def n87 : Str := ⟨Array.mk [104, 105, 100, 100, 101, 110]⟩
noncomputable def n88 : Str := ⟨Array.mk [122, 119, 110, 106]⟩
noncomputable def n89 : Str := ⟨Array.mk [103, 108, 121, 112, 104, 95, 116, 101, 115, 116, 115]⟩
noncomputable def n90 : Str := ⟨Array.mk [106, 111, 105, 110, 101, 100, 104, 97, 110, 100, 46, 109, 97, 116, 99, 104, 105, 110, 103]⟩
noncomputable def n91 : Str := ⟨Array.mk [99, 111, 118, 101, 114, 95, 116, 101, 115, 116, 115]⟩
noncomputable def n92 : Str := ⟨Array.mk [116, 101, 115, 116]⟩
noncomputable def n93 : Str := ⟨Array.mk [102, 105, 116, 115]⟩
noncomputable def n94 : Str := ⟨Array.mk [105, 115, 95, 98, 111, 114, 110, 101]⟩
noncomputable def n95 : Str := ⟨Array.mk [115, 116, 101, 112]⟩
noncomputable def n96 : Str := ⟨Array.mk [107, 105, 110, 100, 115]⟩
noncomputable def n97 : Str := ⟨Array.mk [105, 115, 95, 105, 110, 112, 117, 116]⟩
noncomputable def n98 : Str := ⟨Array.mk [104, 101, 114, 101]⟩
noncomputable def n99 : Str := ⟨Array.mk [102, 111, 117, 110, 100, 95, 97, 116]⟩
noncomputable def n100 : Str := ⟨Array.mk [116, 101, 115, 116, 115]⟩
noncomputable def n101 : Str := ⟨Array.mk [105, 110, 112, 117, 116, 95, 97, 116]⟩
noncomputable def n102 : Str := ⟨Array.mk [108, 97, 115, 116, 95, 97, 116]⟩
noncomputable def n103 : Str := ⟨Array.mk [97, 104, 101, 97, 100, 95, 97, 116]⟩
noncomputable def n104 : Str := ⟨Array.mk [98, 97, 99, 107, 95, 97, 116]⟩
noncomputable def n105 : Str := ⟨Array.mk [105, 115, 95, 112, 105, 101, 99, 101]⟩
noncomputable def n106 : Str := ⟨Array.mk [112, 111, 115, 105, 116, 105, 111, 110, 115]⟩
noncomputable def n107 : Str := ⟨Array.mk [111, 116, 104, 101, 114]⟩
noncomputable def n108 : Str := ⟨Array.mk [104, 111, 108, 100, 95, 116, 111, 103, 101, 116, 104, 101, 114]⟩
noncomputable def n109 : Str := ⟨Array.mk [112, 97, 114, 116, 95, 99, 111, 117, 110, 116]⟩
noncomputable def n110 : Str := ⟨Array.mk [106, 111, 105, 110, 101, 100, 104, 97, 110, 100, 46, 108, 105, 103, 97, 116, 117, 114, 101]⟩
noncomputable def n111 : Str := ⟨Array.mk [119, 97, 121, 95, 111, 102]⟩
noncomputable def n112 : Str := ⟨Array.mk [97, 104, 101, 97, 100]⟩
noncomputable def n113 : Str := ⟨Array.mk [112, 97, 114, 116]⟩
noncomputable def n114 : Str := ⟨Array.mk [116, 105, 101]⟩
noncomputable def n115 : Str := ⟨Array.mk [111, 108, 100, 95, 105, 100]⟩
noncomputable def n116 : Str := ⟨Array.mk [115, 112, 111, 116]⟩
noncomputable def n117 : Str := ⟨Array.mk [116, 105, 101, 95, 98, 101, 104, 105, 110, 100]⟩
noncomputable def n118 : Str := ⟨Array.mk [112, 108, 97, 99, 101, 115]⟩
noncomputable def n119 : Str := ⟨Array.mk [119, 97, 121]⟩
noncomputable def n120 : Str := ⟨Array.mk [108, 97, 115, 116]⟩
noncomputable def n121 : Str := ⟨Array.mk [112, 97, 115, 115, 101, 100]⟩
noncomputable def n122 : Str := ⟨Array.mk [116, 105, 101, 95, 97, 108, 108]⟩
noncomputable def n123 : Str := ⟨Array.mk [106, 111, 105, 110]⟩
noncomputable def n124 : Str := ⟨Array.mk [116, 97, 98, 108, 101]⟩
noncomputable def n125 : Str := ⟨Array.mk [114, 101, 115, 116]⟩
noncomputable def n126 : Str := ⟨Array.mk [108, 105, 103, 97, 116, 117, 114, 101]⟩
noncomputable def n127 : Str := ⟨Array.mk [97, 112, 112, 108, 121, 95, 108, 105, 103, 97, 116, 117, 114, 101]⟩
noncomputable def n128 : Str := ⟨Array.mk [106, 111, 105, 110, 101, 100, 104, 97, 110, 100, 46, 99, 111, 118, 101, 114, 97, 103, 101]⟩
noncomputable def n129 : Str := ⟨Array.mk [67, 111, 118, 101, 114, 97, 103, 101]⟩
noncomputable def n130 : Str := ⟨Array.mk [105, 110, 100, 101, 120]⟩
noncomputable def n131 : Str := ⟨Array.mk [104, 97, 115]⟩
noncomputable def n132 : Str := ⟨Array.mk [67, 111, 118, 101, 114, 97, 103, 101, 46, 95, 95, 105, 110, 105, 116, 95, 95]⟩
noncomputable def n133 : Str := ⟨Array.mk [108, 111, 119]⟩
noncomputable def n134 : Str := ⟨Array.mk [104, 105, 103, 104]⟩
noncomputable def n135 : Str := ⟨Array.mk [109, 105, 100, 100, 108, 101]⟩
noncomputable def n136 : Str := ⟨Array.mk [67, 111, 118, 101, 114, 97, 103, 101, 46, 105, 110, 100, 101, 120]⟩
noncomputable def n137 : Str := ⟨Array.mk [67, 111, 118, 101, 114, 97, 103, 101, 46, 104, 97, 115]⟩
noncomputable def n138 : Str := ⟨Array.mk [67, 111, 118, 101, 114, 97, 103, 101, 46, 116, 111, 108, 100]⟩
noncomputable def n139 : Str := ⟨Array.mk [99, 111, 118, 101, 114, 97, 103, 101, 95, 111, 102]⟩
noncomputable def n140 : Str := ⟨Array.mk [106, 111, 105, 110, 101, 100, 104, 97, 110, 100, 46, 99, 111, 110, 116, 101, 120, 116, 115]⟩
noncomputable def n141 : Str := ⟨Array.mk [82, 117, 108, 101]⟩
noncomputable def n142 : Str := ⟨Array.mk [114, 101, 97, 99, 104]⟩
noncomputable def n143 : Str := ⟨Array.mk [98, 97, 99, 107]⟩
noncomputable def n144 : Str := ⟨Array.mk [105, 110, 115, 105, 100, 101]⟩
noncomputable def n145 : Str := ⟨Array.mk [97, 99, 116, 105, 111, 110, 115]⟩
noncomputable def n146 : Str := ⟨Array.mk [82, 117, 108, 101, 46, 95, 95, 105, 110, 105, 116, 95, 95]⟩
noncomputable def n147 : Str := ⟨Array.mk [82, 117, 108, 101, 46, 116, 111, 108, 100]⟩
noncomputable def n148 : Str := ⟨Array.mk [82, 117, 108, 101, 46, 114, 101, 97, 99, 104]⟩
noncomputable def n149 : Str := ⟨Array.mk [67, 111, 110, 116, 101, 120, 116, 115]⟩
noncomputable def n150 : Str := ⟨Array.mk [117, 115, 101, 100, 95, 99, 108, 97, 115, 115, 101, 115]⟩
noncomputable def n151 : Str := ⟨Array.mk [114, 117, 108, 101, 115]⟩
noncomputable def n152 : Str := ⟨Array.mk [102, 111, 114, 109]⟩
noncomputable def n153 : Str := ⟨Array.mk [105, 115, 95, 99, 104, 97, 105, 110, 101, 100]⟩
noncomputable def n154 : Str := ⟨Array.mk [115, 101, 116, 115]⟩
noncomputable def n155 : Str := ⟨Array.mk [99, 111, 118, 101, 114, 97, 103, 101]⟩
noncomputable def n156 : Str := ⟨Array.mk [99, 108, 97, 115, 115, 101, 115]⟩
noncomputable def n157 : Str := ⟨Array.mk [67, 111, 110, 116, 101, 120, 116, 115, 46, 95, 95, 105, 110, 105, 116, 95, 95]⟩
noncomputable def n158 : Str := ⟨Array.mk [67, 111, 110, 116, 101, 120, 116, 115, 46, 116, 111, 108, 100]⟩
noncomputable def n159 : Str := ⟨Array.mk [67, 111, 110, 116, 101, 120, 116, 115, 46, 117, 115, 101, 100, 95, 99, 108, 97, 115, 115, 101, 115]⟩
noncomputable def n160 : Str := ⟨Array.mk [107, 101, 121]⟩
noncomputable def n161 : Str := ⟨Array.mk [114, 117, 108, 101]⟩
noncomputable def n162 : Str := ⟨Array.mk [67, 111, 110, 116, 101, 120, 116, 115, 46, 114, 117, 108, 101, 115]⟩
noncomputable def n163 : Str := ⟨Array.mk [116, 111, 108, 100, 95, 114, 111, 119]⟩
noncomputable def n164 : Str := ⟨Array.mk [116, 101, 115, 116, 115, 95, 111, 102]⟩
noncomputable def n165 : Str := ⟨Array.mk [119, 111, 114, 100]⟩
noncomputable def n166 : Str := ⟨Array.mk [114, 117, 108, 101, 95, 116, 101, 115, 116, 115]⟩
noncomputable def n167 : Str := ⟨Array.mk [114, 117, 108, 101, 115, 95, 97, 116]⟩
noncomputable def n168 : Str := ⟨Array.mk [106, 111, 105, 110, 101, 100, 104, 97, 110, 100, 46, 110, 101, 115, 116, 101, 100]⟩
noncomputable def n169 : Str := ⟨Array.mk [80, 108, 97, 99, 101, 115]⟩
noncomputable def n170 : Str := ⟨Array.mk [80, 108, 97, 99, 101, 115, 46, 95, 95, 105, 110, 105, 116, 95, 95]⟩
noncomputable def n171 : Str := ⟨Array.mk [109, 97, 116, 99, 104, 95, 114, 117, 108, 101]⟩
noncomputable def n172 : Str := ⟨Array.mk [105, 110, 110, 101, 114, 95, 115, 99, 101, 110, 101]⟩
noncomputable def n173 : Str := ⟨Array.mk [103, 114, 111, 119]⟩
noncomputable def n174 : Str := ⟨Array.mk [115, 104, 114, 105, 110, 107]⟩
noncomputable def n175 : Str := ⟨Array.mk [99, 104, 97, 110, 103, 101]⟩
noncomputable def n176 : Str := ⟨Array.mk [109, 111, 118, 101]⟩
noncomputable def n177 : Str := ⟨Array.mk [97, 99, 116, 105, 111, 110]⟩
noncomputable def n178 : Str := ⟨Array.mk [97, 112, 112, 108, 121, 95, 97, 116]⟩
noncomputable def n179 : Str := ⟨Array.mk [105, 110, 110, 101, 114]⟩
noncomputable def n180 : Str := ⟨Array.mk [115, 105, 122, 101]⟩
noncomputable def n181 : Str := ⟨Array.mk [100, 111, 95, 97, 99, 116, 105, 111, 110]⟩
noncomputable def n182 : Str := ⟨Array.mk [100, 111, 95, 97, 99, 116, 105, 111, 110, 115]⟩
noncomputable def n183 : Str := ⟨Array.mk [97, 112, 112, 108, 121, 95, 99, 111, 110, 116, 101, 120, 116]⟩
noncomputable def n184 : Str := ⟨Array.mk [106, 111, 105, 110, 101, 100, 104, 97, 110, 100, 46, 114, 101, 118, 101, 114, 115, 101]⟩
noncomputable def n185 : Str := ⟨Array.mk [82, 101, 118, 101, 114, 115, 101]⟩
noncomputable def n186 : Str := ⟨Array.mk [109, 97, 112, 112, 105, 110, 103]⟩
noncomputable def n187 : Str := ⟨Array.mk [82, 101, 118, 101, 114, 115, 101, 46, 95, 95, 105, 110, 105, 116, 95, 95]⟩
noncomputable def n188 : Str := ⟨Array.mk [82, 101, 118, 101, 114, 115, 101, 46, 116, 111, 108, 100]⟩
noncomputable def n189 : Str := ⟨Array.mk [97, 112, 112, 108, 121, 95, 114, 101, 118, 101, 114, 115, 101]⟩
noncomputable def n190 : Str := ⟨Array.mk [106, 111, 105, 110, 101, 100, 104, 97, 110, 100, 46, 115, 105, 110, 103, 108, 101]⟩
noncomputable def n191 : Str := ⟨Array.mk [83, 105, 110, 103, 108, 101]⟩
noncomputable def n192 : Str := ⟨Array.mk [83, 105, 110, 103, 108, 101, 46, 95, 95, 105, 110, 105, 116, 95, 95]⟩
noncomputable def n193 : Str := ⟨Array.mk [83, 105, 110, 103, 108, 101, 46, 116, 111, 108, 100]⟩
noncomputable def n194 : Str := ⟨Array.mk [77, 117, 108, 116, 105, 112, 108, 101]⟩
noncomputable def n195 : Str := ⟨Array.mk [77, 117, 108, 116, 105, 112, 108, 101, 46, 95, 95, 105, 110, 105, 116, 95, 95]⟩
noncomputable def n196 : Str := ⟨Array.mk [77, 117, 108, 116, 105, 112, 108, 101, 46, 116, 111, 108, 100]⟩
noncomputable def n197 : Str := ⟨Array.mk [97, 112, 112, 108, 121, 95, 115, 105, 110, 103, 108, 101]⟩
noncomputable def n198 : Str := ⟨Array.mk [112, 105, 101, 99, 101, 115]⟩
noncomputable def n199 : Str := ⟨Array.mk [105, 115, 95, 98, 111, 117, 110, 100]⟩
noncomputable def n200 : Str := ⟨Array.mk [97, 112, 112, 108, 121, 95, 109, 117, 108, 116, 105, 112, 108, 101]⟩
noncomputable def n201 : Str := ⟨Array.mk [98, 105, 116, 115]⟩
noncomputable def n202 : Str := ⟨Array.mk [99, 104, 111, 105, 99, 101]⟩
noncomputable def n203 : Str := ⟨Array.mk [99, 104, 111, 105, 99, 101, 95, 111, 102]⟩
noncomputable def n204 : Str := ⟨Array.mk [99, 104, 111, 105, 99, 101, 115]⟩
noncomputable def n205 : Str := ⟨Array.mk [97, 112, 112, 108, 121, 95, 97, 108, 116, 101, 114, 110, 97, 116, 101]⟩
noncomputable def n206 : Str := ⟨Array.mk [97, 112, 112, 108, 121, 95, 116, 97, 98, 108, 101]⟩
noncomputable def n207 : Str := ⟨Array.mk [106, 111, 105, 110, 101, 100, 104, 97, 110, 100, 46, 103, 115, 117, 98]⟩
noncomputable def n208 : Str := ⟨Array.mk [115, 117, 98, 115, 116, 105, 116, 117, 116, 101, 95, 97, 116]⟩
noncomputable def n209 : Str := ⟨Array.mk [114, 117, 110, 95, 102, 111, 114, 119, 97, 114, 100]⟩
noncomputable def n210 : Str := ⟨Array.mk [114, 117, 110, 95, 98, 97, 99, 107, 119, 97, 114, 100]⟩
noncomputable def n211 : Str := ⟨Array.mk [114, 117, 110, 95, 115, 117, 98, 115, 116, 105, 116, 117, 116, 105, 111, 110]⟩
noncomputable def n212 : Str := ⟨Array.mk [106, 111, 105, 110, 101, 100, 104, 97, 110, 100, 46, 99, 108, 97, 115, 115, 100, 101, 102, 115]⟩
noncomputable def n213 : Str := ⟨Array.mk [67, 108, 97, 115, 115, 68, 101, 102]⟩
noncomputable def n214 : Str := ⟨Array.mk [99, 108, 97, 115, 115, 95, 111, 102]⟩
noncomputable def n215 : Str := ⟨Array.mk [103, 108, 121, 112, 104, 115, 95, 111, 102]⟩
noncomputable def n216 : Str := ⟨Array.mk [67, 108, 97, 115, 115, 68, 101, 102, 46, 95, 95, 105, 110, 105, 116, 95, 95]⟩
noncomputable def n217 : Str := ⟨Array.mk [67, 108, 97, 115, 115, 68, 101, 102, 46, 99, 108, 97, 115, 115, 95, 111, 102]⟩
noncomputable def n218 : Str := ⟨Array.mk [67, 108, 97, 115, 115, 68, 101, 102, 46, 103, 108, 121, 112, 104, 115, 95, 111, 102]⟩
noncomputable def n219 : Str := ⟨Array.mk [109, 111, 115, 116]⟩
noncomputable def n220 : Str := ⟨Array.mk [67, 108, 97, 115, 115, 68, 101, 102, 46, 99, 111, 117, 110, 116]⟩
noncomputable def n221 : Str := ⟨Array.mk [67, 108, 97, 115, 115, 68, 101, 102, 46, 116, 111, 108, 100]⟩
noncomputable def n222 : Str := ⟨Array.mk [106, 111, 105, 110, 101, 100, 104, 97, 110, 100, 46, 103, 100, 101, 102]⟩
noncomputable def n223 : Str := ⟨Array.mk [71, 100, 101, 102]⟩
noncomputable def n224 : Str := ⟨Array.mk [103, 108, 121, 112, 104, 95, 99, 108, 97, 115, 115]⟩
noncomputable def n225 : Str := ⟨Array.mk [97, 116, 116, 97, 99, 104, 95, 99, 108, 97, 115, 115]⟩
noncomputable def n226 : Str := ⟨Array.mk [105, 115, 95, 105, 110, 95, 115, 101, 116]⟩
noncomputable def n227 : Str := ⟨Array.mk [97, 116, 116, 97, 99, 104]⟩
noncomputable def n228 : Str := ⟨Array.mk [112, 111, 105, 110, 116, 115]⟩
noncomputable def n229 : Str := ⟨Array.mk [99, 97, 114, 101, 116, 115]⟩
noncomputable def n230 : Str := ⟨Array.mk [71, 100, 101, 102, 46, 95, 95, 105, 110, 105, 116, 95, 95]⟩
noncomputable def n231 : Str := ⟨Array.mk [71, 100, 101, 102, 46, 103, 108, 121, 112, 104, 95, 99, 108, 97, 115, 115]⟩
noncomputable def n232 : Str := ⟨Array.mk [71, 100, 101, 102, 46, 97, 116, 116, 97, 99, 104, 95, 99, 108, 97, 115, 115]⟩
noncomputable def n233 : Str := ⟨Array.mk [71, 100, 101, 102, 46, 105, 115, 95, 105, 110, 95, 115, 101, 116]⟩
noncomputable def n234 : Str := ⟨Array.mk [71, 100, 101, 102, 46, 116, 111, 108, 100]⟩
noncomputable def n235 : Str := ⟨Array.mk [95, 108, 97, 119, 95, 67, 76, 65, 83, 83, 69, 83]⟩
noncomputable def n236 : Str := ⟨Array.mk [108, 97, 119, 95, 110, 117, 48, 50, 48, 50, 95, 48, 49]⟩
noncomputable def n237 : Str := ⟨Array.mk [115, 99, 114, 105, 112, 116]⟩
noncomputable def n238 : Str := ⟨Array.mk [116, 97, 107, 101]⟩
noncomputable def n239 : Str := ⟨Array.mk [99, 101, 108, 108, 115]⟩
noncomputable def n240 : Str := ⟨Array.mk [112, 108, 97, 99, 101]⟩
noncomputable def n241 : Str := ⟨Array.mk [95, 108, 97, 119, 95, 116, 97, 107, 101, 114]⟩
noncomputable def n242 : Str := ⟨Array.mk [95, 108, 97, 119, 95, 109, 97, 112, 112, 105, 110, 103]⟩
noncomputable def n243 : Str := ⟨Array.mk [95, 108, 97, 119, 95, 112, 97, 115, 115, 101, 100]⟩
noncomputable def n244 : Str := ⟨Array.mk [108, 97, 119]⟩
noncomputable def n245 : Str := ⟨Array.mk [95, 95, 110, 97, 109, 101, 95, 95]⟩
noncomputable def n246 : Str := ⟨Array.mk [95, 95, 112, 97, 99, 107, 97, 103, 101, 95, 95]⟩
noncomputable def n247 : Str := ⟨Array.mk [95, 95, 108, 111, 97, 100, 101, 114, 95, 95]⟩
noncomputable def n248 : Str := ⟨Array.mk [95, 95, 115, 112, 101, 99, 95, 95]⟩
noncomputable def n249 : Str := ⟨Array.mk [95, 95, 97, 110, 110, 111, 116, 97, 116, 105, 111, 110, 115, 95, 95]⟩
noncomputable def n250 : Str := ⟨Array.mk [95, 95, 98, 117, 105, 108, 116, 105, 110, 115, 95, 95]⟩
noncomputable def n251 : Str := ⟨Array.mk [95, 95, 102, 105, 108, 101, 95, 95]⟩
noncomputable def n252 : Str := ⟨Array.mk [95, 95, 99, 97, 99, 104, 101, 100, 95, 95]⟩
noncomputable def n253 : Str := ⟨Array.mk [73, 71, 78, 79, 82, 69, 95, 66, 65, 83, 69, 83]⟩
noncomputable def n254 : Str := ⟨Array.mk [73, 71, 78, 79, 82, 69, 95, 76, 73, 71, 65, 84, 85, 82, 69, 83]⟩
noncomputable def n255 : Str := ⟨Array.mk [73, 71, 78, 79, 82, 69, 95, 77, 65, 82, 75, 83]⟩
noncomputable def n256 : Str := ⟨Array.mk [85, 83, 69, 95, 83, 69, 84]⟩
noncomputable def n257 : Str := ⟨Array.mk [75, 73, 78, 68, 83, 95, 73, 78, 95, 73, 78, 80, 85, 84]⟩
noncomputable def n258 : Str := ⟨Array.mk [75, 73, 78, 68, 83, 95, 65, 82, 79, 85, 78, 68]⟩
noncomputable def n259 : Str := ⟨Array.mk [66, 65, 83, 69, 95, 108, 105, 103, 97, 116, 117, 114, 101]⟩
noncomputable def n260 : Str := ⟨Array.mk [77, 65, 82, 75]⟩
noncomputable def n261 : Str := ⟨Array.mk [66, 89, 95, 71, 76, 89, 80, 72, 83]⟩
noncomputable def n262 : Str := ⟨Array.mk [66, 89, 95, 67, 76, 65, 83, 83, 69, 83]⟩
noncomputable def n263 : Str := ⟨Array.mk [77, 79, 83, 84, 95, 68, 69, 80, 84, 72]⟩
noncomputable def n264 : Str := ⟨Array.mk [77, 79, 83, 84, 95, 80, 76, 65, 67, 69, 83]⟩
noncomputable def n265 : Str := ⟨Array.mk [78, 79, 95, 67, 76, 65, 83, 83]⟩
noncomputable def n266 : Str := ⟨Array.mk [66, 65, 83, 69, 95, 103, 100, 101, 102]⟩
noncomputable def n267 : Str := ⟨Array.mk [67, 79, 77, 80, 79, 78, 69, 78, 84]⟩
noncomputable def n268 : Str := ⟨Array.mk [95, 108, 97, 119, 95, 70, 76, 65, 71, 83]⟩
noncomputable def o11 : Obj := tp []
noncomputable def o13 : Obj := co n0 182 n0 183 n1 184 1 0 0 0 0 11 false 181 12 .none .none .none 185 1 n1 186
noncomputable def o14 : Obj := ⟨(.type "frame"), none, .plain, Array.mk [(some (.ref 13)), (some (.ref 3)), (some (.ref 3)), none, (some (.str n2 164)), none, (some (.ref 0))]⟩
noncomputable def o15 : Obj := tp []
noncomputable def o16 : Obj := fl .none []
noncomputable def o17 : Obj := tp [(.str n3 190)]
noncomputable def o18 : Obj := tp []
noncomputable def o19 (p : Program) : Obj := fr n4 n4 (st p 0)
noncomputable def o20 : Obj := co n4 187 n4 188 n1 189 1 1 0 0 3 15 true 181 16 (.ref 17) (.ref 18) (.ref 19) 191 1 n1 192
noncomputable def o21 (p : Program) : Obj := fo n4 n4 (st p 0) .none (.str n2 164) (.ref 20)
noncomputable def o22 : Obj := tp []
noncomputable def o23 : Obj := fl (.type "builtin_function_or_method") [(.builtin "type.__prepare__"), (.type "type")]
noncomputable def o24 (P : Params) : Obj := dc [en P n5 211 (.str n6 194), en P n7 213 (.str n8 212), en P n9 215 (.int 9 214), en P n10 226 (.ref 35), en P n11 232 (.ref 40), en P n12 237 (.ref 41)] 6
noncomputable def o25 : Obj := tp []
noncomputable def o26 : Obj := fl .none [(.int 11 0), (.int 4 0), (.ref 34), (.int 17 0), (.int 4 0), (.ref 39)]
noncomputable def o27 : Obj := co n8 206 n8 207 n1 208 9 0 0 0 0 25 false 181 26 .none .none .none 209 9 n1 210
noncomputable def o28 : Obj := ⟨(.type "frame"), none, .plain, Array.mk [(some (.ref 27)), (some (.ref 3)), (some (.ref 24)), none, (some (.str n6 194)), none, (some (.ref 0))]⟩
noncomputable def o29 : Obj := tp []
noncomputable def o30 : Obj := fl .none []
noncomputable def o31 : Obj := tp [(.str n13 219), (.str n14 220), (.str n15 221), (.str n16 222), (.str n17 223)]
noncomputable def o32 : Obj := tp []
noncomputable def o33 (p : Program) : Obj := fr n10 n18 (me p 6 0)
noncomputable def o34 : Obj := co n10 216 n18 217 n1 218 11 5 0 0 3 29 true 181 30 (.ref 31) (.ref 32) (.ref 33) 224 11 n1 225
noncomputable def o35 (p : Program) : Obj := fo n10 n18 (me p 6 0) .none (.str n6 194) (.ref 34)
noncomputable def o36 : Obj := tp []
noncomputable def o37 : Obj := fl .none []
noncomputable def o38 (p : Program) : Obj := fr n11 n19 (me p 6 1)
noncomputable def o39 : Obj := co n11 227 n19 228 n1 229 17 1 0 0 3 36 true 181 37 .none .none (.ref 38) 230 17 n1 231
noncomputable def o40 (p : Program) : Obj := fo n11 n19 (me p 6 1) .none (.str n6 194) (.ref 39)
noncomputable def o41 : Obj := tp [(.str n15 233), (.str n14 234), (.str n16 235), (.str n17 236)]
noncomputable def o42 (P : Params) : Obj := dc [en P n5 211 (.str n6 194), en P n9 215 (.int 9 214), en P n10 226 (.ref 35), en P n11 232 (.ref 40), en P n12 237 (.ref 41), en P n20 239 (.ref 44), en P n21 241 (.ref 45), en P n22 242 .none] 4
noncomputable def o43 : Obj := ⟨(.type "type"), none, (.cls { name := n8, bases := [(.type "object")], mro := [(.ref 43), (.type "object")], ns := 42, qualname := n8, hasDict := true, slotNames := [], subclasses := [], abstract := false, collection := none, hasDel := false }), Array.mk [none, none, (some (.str n8 204)), (some (.str n8 212)), (some (.builtin "object.__new__")), (some (.bool true))]⟩
noncomputable def o44 : Obj := fl (.type "getset_descriptor") [(.str n20 238), (.ref 43), (.builtin "function.__dict__"), (.builtin "function.__dict__#set")]
noncomputable def o45 : Obj := fl (.type "getset_descriptor") [(.str n21 240), (.ref 43), (.builtin "ExceptionGroup.__weakref__"), .none]
noncomputable def o46 : Obj := fl (.type "super") [(.ref 43), (.ref 43), (.ref 43)]
noncomputable def o47 : Obj := fl (.type "builtin_function_or_method") [(.builtin "object.__init_subclass__"), (.ref 43)]
noncomputable def o48 : Obj := tp []
noncomputable def o49 : Obj := fl (.type "builtin_function_or_method") [(.builtin "type.__prepare__"), (.type "type")]
noncomputable def o50 (P : Params) : Obj := dc [en P n5 252 (.str n6 194), en P n7 254 (.str n23 253), en P n9 256 (.int 20 255), en P n10 270 (.ref 62), en P n12 277 (.ref 63)] 5
noncomputable def o51 : Obj := tp []
noncomputable def o52 : Obj := fl .none [(.int 22 0), (.int 4 0), (.ref 61)]
noncomputable def o53 : Obj := co n23 247 n23 248 n1 249 20 0 0 0 0 51 false 181 52 .none .none .none 250 20 n1 251
noncomputable def o54 : Obj := ⟨(.type "frame"), none, .plain, Array.mk [(some (.ref 53)), (some (.ref 3)), (some (.ref 50)), none, (some (.str n6 194)), none, (some (.ref 0))]⟩
noncomputable def o55 : Obj := tp [(.int 0 257)]
noncomputable def o56 : Obj := tp []
noncomputable def o57 : Obj := fl .none []
noncomputable def o58 : Obj := tp [(.str n13 261), (.str n24 262), (.str n25 263), (.str n26 264), (.str n27 265), (.str n28 266), (.str n29 267)]
noncomputable def o59 : Obj := tp []
noncomputable def o60 (p : Program) : Obj := fr n10 n30 (me p 7 0)
noncomputable def o61 : Obj := co n10 258 n30 259 n1 260 22 7 0 0 3 56 true 181 57 (.ref 58) (.ref 59) (.ref 60) 268 22 n1 269
noncomputable def o62 (p : Program) : Obj := fo n10 n30 (me p 7 0) (.ref 55) (.str n6 194) (.ref 61)
noncomputable def o63 : Obj := tp [(.str n24 271), (.str n29 272), (.str n25 273), (.str n27 274), (.str n26 275), (.str n28 276)]
noncomputable def o64 (P : Params) : Obj := dc [en P n5 252 (.str n6 194), en P n9 256 (.int 20 255), en P n10 270 (.ref 62), en P n12 277 (.ref 63), en P n20 279 (.ref 66), en P n21 281 (.ref 67), en P n22 282 .none] 4
noncomputable def o65 : Obj := ⟨(.type "type"), none, (.cls { name := n23, bases := [(.type "object")], mro := [(.ref 65), (.type "object")], ns := 64, qualname := n23, hasDict := true, slotNames := [], subclasses := [], abstract := false, collection := none, hasDel := false }), Array.mk [none, none, (some (.str n23 245)), (some (.str n23 253)), (some (.builtin "object.__new__")), (some (.bool true))]⟩
noncomputable def o66 : Obj := fl (.type "getset_descriptor") [(.str n20 278), (.ref 65), (.builtin "function.__dict__"), (.builtin "function.__dict__#set")]
noncomputable def o67 : Obj := fl (.type "getset_descriptor") [(.str n21 280), (.ref 65), (.builtin "ExceptionGroup.__weakref__"), .none]
noncomputable def o68 : Obj := fl (.type "super") [(.ref 65), (.ref 65), (.ref 65)]
noncomputable def o69 : Obj := fl (.type "builtin_function_or_method") [(.builtin "object.__init_subclass__"), (.ref 65)]
noncomputable def o70 : Obj := tp []
noncomputable def o71 : Obj := fl .none []
noncomputable def o72 : Obj := tp [(.str n15 288)]
noncomputable def o73 : Obj := tp []
noncomputable def o74 (p : Program) : Obj := fr n31 n31 (st p 8)
noncomputable def o75 : Obj := co n31 285 n31 286 n1 287 29 1 0 0 3 70 true 181 71 (.ref 72) (.ref 73) (.ref 74) 289 29 n1 290
noncomputable def o76 (p : Program) : Obj := fo n31 n31 (st p 8) .none (.str n6 194) (.ref 75)
noncomputable def o77 : Obj := tp []
noncomputable def o78 : Obj := fl .none []
noncomputable def o79 : Obj := tp [(.str n32 295)]
noncomputable def o80 : Obj := tp []
noncomputable def o81 (p : Program) : Obj := fr n33 n33 (st p 9)
noncomputable def o82 : Obj := co n33 292 n33 293 n1 294 31 1 0 0 3 77 true 181 78 (.ref 79) (.ref 80) (.ref 81) 296 31 n1 297
noncomputable def o83 (p : Program) : Obj := fo n33 n33 (st p 9) .none (.str n6 194) (.ref 82)
noncomputable def o84 : Obj := tp []
noncomputable def o85 : Obj := fl .none []
noncomputable def o86 : Obj := tp [(.str n25 302), (.str n27 303), (.str n34 304), (.str n32 305), (.str n35 306)]
noncomputable def o87 : Obj := tp []
noncomputable def o88 (p : Program) : Obj := fr n36 n36 (st p 10)
noncomputable def o89 : Obj := co n36 299 n36 300 n1 301 33 3 0 0 3 84 true 181 85 (.ref 86) (.ref 87) (.ref 88) 307 33 n1 308
noncomputable def o90 (p : Program) : Obj := fo n36 n36 (st p 10) .none (.str n6 194) (.ref 89)
noncomputable def o91 : Obj := tp []
noncomputable def o92 : Obj := fl .none []
noncomputable def o93 : Obj := tp [(.str n37 313), (.str n38 314)]
noncomputable def o94 : Obj := tp []
noncomputable def o95 (p : Program) : Obj := fr n39 n39 (st p 11)
noncomputable def o96 : Obj := co n39 310 n39 311 n1 312 43 2 0 0 3 91 true 181 92 (.ref 93) (.ref 94) (.ref 95) 315 43 n1 316
noncomputable def o97 (p : Program) : Obj := fo n39 n39 (st p 11) .none (.str n6 194) (.ref 96)
noncomputable def o98 : Obj := tp []
noncomputable def o99 : Obj := fl .none []
noncomputable def o100 : Obj := tp [(.str n37 321), (.str n38 322)]
noncomputable def o101 : Obj := tp []
noncomputable def o102 (p : Program) : Obj := fr n40 n40 (st p 12)
noncomputable def o103 : Obj := co n40 318 n40 319 n1 320 45 2 0 0 3 98 true 181 99 (.ref 100) (.ref 101) (.ref 102) 323 45 n1 324
noncomputable def o104 (p : Program) : Obj := fo n40 n40 (st p 12) .none (.str n6 194) (.ref 103)
noncomputable def o105 : Obj := tp []
noncomputable def o106 : Obj := fl .none []
noncomputable def o107 : Obj := tp [(.str n37 329), (.str n32 330)]
noncomputable def o108 : Obj := tp []
noncomputable def o109 (p : Program) : Obj := fr n41 n41 (st p 13)
noncomputable def o110 : Obj := co n41 326 n41 327 n1 328 47 2 0 0 3 105 true 181 106 (.ref 107) (.ref 108) (.ref 109) 331 47 n1 332
noncomputable def o111 (p : Program) : Obj := fo n41 n41 (st p 13) .none (.str n6 194) (.ref 110)
noncomputable def o112 : Obj := tp []
noncomputable def o113 : Obj := fl (.type "builtin_function_or_method") [(.builtin "type.__prepare__"), (.type "type")]
noncomputable def o114 (P : Params) : Obj := dc [en P n5 343 (.str n42 334), en P n7 345 (.str n43 344), en P n9 347 (.int 52 346), en P n10 357 (.ref 125), en P n44 365 (.ref 132), en P n11 372 (.ref 139), en P n12 388 (.ref 140)] 7
noncomputable def o115 : Obj := tp []
noncomputable def o116 : Obj := fl .none [(.int 54 0), (.int 4 0), (.ref 124), (.int 71 0), (.int 4 0), (.ref 131), (.int 87 0), (.int 4 0), (.ref 138)]
noncomputable def o117 : Obj := co n43 338 n43 339 n1 340 52 0 0 0 0 115 false 181 116 .none .none .none 341 52 n1 342
noncomputable def o118 : Obj := ⟨(.type "frame"), none, .plain, Array.mk [(some (.ref 117)), (some (.ref 3)), (some (.ref 114)), none, (some (.str n42 334)), none, (some (.ref 0))]⟩
noncomputable def o119 : Obj := tp []
noncomputable def o120 : Obj := fl .none []
noncomputable def o121 : Obj := tp [(.str n13 351), (.str n45 352), (.str n34 353), (.str n46 354)]
noncomputable def o122 : Obj := tp []
noncomputable def o123 (p : Program) : Obj := fr n10 n47 (me p 15 0)
noncomputable def o124 : Obj := co n10 348 n47 349 n1 350 54 4 0 0 3 119 true 181 120 (.ref 121) (.ref 122) (.ref 123) 355 54 n1 356
noncomputable def o125 (p : Program) : Obj := fo n10 n47 (me p 15 0) .none (.str n42 334) (.ref 124)
noncomputable def o126 : Obj := tp []
noncomputable def o127 : Obj := fl .none []
noncomputable def o128 : Obj := tp [(.str n13 361), (.str n48 362)]
noncomputable def o129 : Obj := tp []
noncomputable def o130 (p : Program) : Obj := fr n44 n49 (me p 15 1)
noncomputable def o131 : Obj := co n44 358 n49 359 n1 360 71 1 0 0 3 126 true 181 127 (.ref 128) (.ref 129) (.ref 130) 363 71 n1 364
noncomputable def o132 (p : Program) : Obj := fo n44 n49 (me p 15 1) .none (.str n42 334) (.ref 131)
noncomputable def o133 : Obj := tp []
noncomputable def o134 : Obj := fl .none []
noncomputable def o135 : Obj := tp [(.str n13 369)]
noncomputable def o136 : Obj := tp []
noncomputable def o137 (p : Program) : Obj := fr n11 n50 (me p 15 2)
noncomputable def o138 : Obj := co n11 366 n50 367 n1 368 87 1 0 0 3 133 true 181 134 (.ref 135) (.ref 136) (.ref 137) 370 87 n1 371
noncomputable def o139 (p : Program) : Obj := fo n11 n50 (me p 15 2) .none (.str n42 334) (.ref 138)
noncomputable def o140 : Obj := tp [(.str n51 373), (.str n46 374), (.str n45 375), (.str n34 376), (.str n52 377), (.str n14 378), (.str n53 379), (.str n54 380), (.str n55 381), (.str n28 382), (.str n56 383), (.str n57 384), (.str n58 385), (.str n59 386), (.str n60 387)]
noncomputable def o141 (P : Params) : Obj := dc [en P n5 343 (.str n42 334), en P n9 347 (.int 52 346), en P n10 357 (.ref 125), en P n44 365 (.ref 132), en P n11 372 (.ref 139), en P n12 388 (.ref 140), en P n20 390 (.ref 143), en P n21 392 (.ref 144), en P n22 393 .none] 4
noncomputable def o142 : Obj := ⟨(.type "type"), none, (.cls { name := n43, bases := [(.type "object")], mro := [(.ref 142), (.type "object")], ns := 141, qualname := n43, hasDict := true, slotNames := [], subclasses := [], abstract := false, collection := none, hasDel := false }), Array.mk [none, none, (some (.str n43 336)), (some (.str n43 344)), (some (.builtin "object.__new__")), (some (.bool true))]⟩
noncomputable def o143 : Obj := fl (.type "getset_descriptor") [(.str n20 389), (.ref 142), (.builtin "function.__dict__"), (.builtin "function.__dict__#set")]
noncomputable def o144 : Obj := fl (.type "getset_descriptor") [(.str n21 391), (.ref 142), (.builtin "ExceptionGroup.__weakref__"), .none]
noncomputable def o145 : Obj := fl (.type "super") [(.ref 142), (.ref 142), (.ref 142)]
noncomputable def o146 : Obj := fl (.type "builtin_function_or_method") [(.builtin "object.__init_subclass__"), (.ref 142)]
noncomputable def o147 : Obj := tp []
noncomputable def o148 : Obj := fl (.type "builtin_function_or_method") [(.builtin "type.__prepare__"), (.type "type")]
noncomputable def o149 (P : Params) : Obj := dc [en P n5 403 (.str n42 334), en P n7 405 (.str n61 404), en P n9 407 (.int 89 406), en P n10 416 (.ref 161), en P n62 422 (.ref 166), en P n63 428 (.ref 171), en P n11 434 (.ref 176), en P n64 441 (.ref 183), en P n12 445 (.ref 184)] 9
noncomputable def o150 : Obj := tp []
noncomputable def o151 : Obj := fl .none [(.int 91 0), (.int 4 0), (.ref 160), (.int 96 0), (.int 4 0), (.ref 165), (.int 99 0), (.int 4 0), (.ref 170), (.int 102 0), (.int 4 0), (.ref 175), (.int 105 0), (.int 4 0), (.ref 182)]
noncomputable def o152 : Obj := co n61 398 n61 399 n1 400 89 0 0 0 0 150 false 181 151 .none .none .none 401 89 n1 402
noncomputable def o153 : Obj := ⟨(.type "frame"), none, .plain, Array.mk [(some (.ref 152)), (some (.ref 3)), (some (.ref 149)), none, (some (.str n42 334)), none, (some (.ref 0))]⟩
noncomputable def o154 : Obj := tp [(.bool false)]
noncomputable def o155 : Obj := tp []
noncomputable def o156 : Obj := fl .none []
noncomputable def o157 : Obj := tp [(.str n13 411), (.str n65 412), (.str n66 413)]
noncomputable def o158 : Obj := tp []
noncomputable def o159 (p : Program) : Obj := fr n10 n67 (me p 16 0)
noncomputable def o160 : Obj := co n10 408 n67 409 n1 410 91 3 0 0 3 155 true 181 156 (.ref 157) (.ref 158) (.ref 159) 414 91 n1 415
noncomputable def o161 (p : Program) : Obj := fo n10 n67 (me p 16 0) (.ref 154) (.str n42 334) (.ref 160)
noncomputable def o162 : Obj := tp []
noncomputable def o163 : Obj := fl .none []
noncomputable def o164 (p : Program) : Obj := fr n62 n68 (me p 16 1)
noncomputable def o165 : Obj := co n62 417 n68 418 n1 419 96 1 0 0 3 162 true 181 163 .none .none (.ref 164) 420 96 n1 421
noncomputable def o166 (p : Program) : Obj := fo n62 n68 (me p 16 1) .none (.str n42 334) (.ref 165)
noncomputable def o167 : Obj := tp []
noncomputable def o168 : Obj := fl .none []
noncomputable def o169 (p : Program) : Obj := fr n63 n69 (me p 16 2)
noncomputable def o170 : Obj := co n63 423 n69 424 n1 425 99 1 0 0 3 167 true 181 168 .none .none (.ref 169) 426 99 n1 427
noncomputable def o171 (p : Program) : Obj := fo n63 n69 (me p 16 2) .none (.str n42 334) (.ref 170)
noncomputable def o172 : Obj := tp []
noncomputable def o173 : Obj := fl .none []
noncomputable def o174 (p : Program) : Obj := fr n11 n70 (me p 16 3)
noncomputable def o175 : Obj := co n11 429 n70 430 n1 431 102 1 0 0 3 172 true 181 173 .none .none (.ref 174) 432 102 n1 433
noncomputable def o176 (p : Program) : Obj := fo n11 n70 (me p 16 3) .none (.str n42 334) (.ref 175)
noncomputable def o177 : Obj := tp []
noncomputable def o178 : Obj := fl .none []
noncomputable def o179 : Obj := tp [(.str n13 438)]
noncomputable def o180 : Obj := tp []
noncomputable def o181 (p : Program) : Obj := fr n64 n71 (me p 16 4)
noncomputable def o182 : Obj := co n64 435 n71 436 n1 437 105 1 0 0 3 177 true 181 178 (.ref 179) (.ref 180) (.ref 181) 439 105 n1 440
noncomputable def o183 (p : Program) : Obj := fo n64 n71 (me p 16 4) .none (.str n42 334) (.ref 182)
noncomputable def o184 : Obj := tp [(.str n66 442), (.str n72 443), (.str n73 444)]
noncomputable def o185 (P : Params) : Obj := dc [en P n5 403 (.str n42 334), en P n9 407 (.int 89 406), en P n10 416 (.ref 161), en P n62 422 (.ref 166), en P n63 428 (.ref 171), en P n11 434 (.ref 176), en P n64 441 (.ref 183), en P n12 445 (.ref 184), en P n20 447 (.ref 187), en P n21 449 (.ref 188), en P n22 450 .none] 4
noncomputable def o186 : Obj := ⟨(.type "type"), none, (.cls { name := n61, bases := [(.type "object")], mro := [(.ref 186), (.type "object")], ns := 185, qualname := n61, hasDict := true, slotNames := [], subclasses := [], abstract := false, collection := none, hasDel := false }), Array.mk [none, none, (some (.str n61 396)), (some (.str n61 404)), (some (.builtin "object.__new__")), (some (.bool true))]⟩
noncomputable def o187 : Obj := fl (.type "getset_descriptor") [(.str n20 446), (.ref 186), (.builtin "function.__dict__"), (.builtin "function.__dict__#set")]
noncomputable def o188 : Obj := fl (.type "getset_descriptor") [(.str n21 448), (.ref 186), (.builtin "ExceptionGroup.__weakref__"), .none]
noncomputable def o189 : Obj := fl (.type "super") [(.ref 186), (.ref 186), (.ref 186)]
noncomputable def o190 : Obj := fl (.type "builtin_function_or_method") [(.builtin "object.__init_subclass__"), (.ref 186)]
noncomputable def o191 : Obj := tp []
noncomputable def o192 : Obj := fl .none []
noncomputable def o193 : Obj := tp [(.str n74 456), (.str n46 457)]
noncomputable def o194 : Obj := tp []
noncomputable def o195 (p : Program) : Obj := fr n75 n75 (st p 17)
noncomputable def o196 : Obj := co n75 453 n75 454 n1 455 108 2 0 0 3 191 true 181 192 (.ref 193) (.ref 194) (.ref 195) 458 108 n1 459
noncomputable def o197 (p : Program) : Obj := fo n75 n75 (st p 17) .none (.str n42 334) (.ref 196)
noncomputable def o198 : Obj := tp []
noncomputable def o199 : Obj := fl .none []
noncomputable def o200 : Obj := tp [(.str n73 464), (.str n76 465), (.str n77 466), (.str n78 467), (.str n79 468)]
noncomputable def o201 : Obj := tp []
noncomputable def o202 (p : Program) : Obj := fr n80 n80 (st p 18)
noncomputable def o203 : Obj := co n80 461 n80 462 n1 463 112 3 0 0 3 198 true 181 199 (.ref 200) (.ref 201) (.ref 202) 469 112 n1 470
noncomputable def o204 (p : Program) : Obj := fo n80 n80 (st p 18) .none (.str n42 334) (.ref 203)
noncomputable def o205 : Obj := tp []
noncomputable def o206 : Obj := fl .none []
noncomputable def o207 (p : Program) : Obj := fr n81 n81 (st p 19)
noncomputable def o208 : Obj := co n81 472 n81 473 n1 474 120 3 0 0 3 205 true 181 206 .none .none (.ref 207) 475 120 n1 476
noncomputable def o209 (p : Program) : Obj := fo n81 n81 (st p 19) .none (.str n42 334) (.ref 208)
noncomputable def o210 : Obj := tp []
noncomputable def o211 : Obj := fl .none []
noncomputable def o212 (p : Program) : Obj := fr n82 n82 (st p 20)
noncomputable def o213 : Obj := co n82 478 n82 479 n1 480 127 3 0 0 3 210 true 181 211 .none .none (.ref 212) 481 127 n1 482
noncomputable def o214 (p : Program) : Obj := fo n82 n82 (st p 20) .none (.str n42 334) (.ref 213)
noncomputable def o215 : Obj := tp []
noncomputable def o216 : Obj := fl .none []
noncomputable def o217 (p : Program) : Obj := fr n83 n83 (st p 21)
noncomputable def o218 : Obj := co n83 484 n83 485 n1 486 135 2 0 0 3 215 true 181 216 .none .none (.ref 217) 487 135 n1 488
noncomputable def o219 (p : Program) : Obj := fo n83 n83 (st p 21) .none (.str n42 334) (.ref 218)
noncomputable def o220 : Obj := tp []
noncomputable def o221 : Obj := fl .none []
noncomputable def o222 : Obj := tp [(.str n24 493), (.str n38 494), (.str n84 495), (.str n62 496), (.str n78 497), (.str n48 498), (.str n34 499), (.str n74 500)]
noncomputable def o223 : Obj := tp []
noncomputable def o224 (p : Program) : Obj := fr n85 n85 (st p 22)
noncomputable def o225 : Obj := co n85 490 n85 491 n1 492 149 4 0 0 3 220 true 181 221 (.ref 222) (.ref 223) (.ref 224) 501 149 n1 502
noncomputable def o226 (p : Program) : Obj := fo n85 n85 (st p 22) .none (.str n42 334) (.ref 225)
noncomputable def o227 : Obj := tp [(.str n86 506), (.str n87 507)]
noncomputable def o228 : Obj := tp [(.str n86 509), (.str n88 510), (.str n87 511)]
noncomputable def o229 : Obj := tp []
noncomputable def o230 : Obj := fl .none []
noncomputable def o231 (p : Program) : Obj := fr n89 n89 (st p 26)
noncomputable def o232 : Obj := co n89 513 n89 514 n1 515 166 1 0 0 3 229 true 181 230 .none .none (.ref 231) 516 166 n1 517
noncomputable def o233 (p : Program) : Obj := fo n89 n89 (st p 26) .none (.str n90 504) (.ref 232)
noncomputable def o234 : Obj := tp []
noncomputable def o235 : Obj := fl .none []
noncomputable def o236 (p : Program) : Obj := fr n91 n91 (st p 27)
noncomputable def o237 : Obj := co n91 519 n91 520 n1 521 168 1 0 0 3 234 true 181 235 .none .none (.ref 236) 522 168 n1 523
noncomputable def o238 (p : Program) : Obj := fo n91 n91 (st p 27) .none (.str n90 504) (.ref 237)
noncomputable def o239 : Obj := tp []
noncomputable def o240 : Obj := fl .none []
noncomputable def o241 : Obj := tp [(.str n92 528), (.str n34 529)]
noncomputable def o242 : Obj := tp []
noncomputable def o243 (p : Program) : Obj := fr n93 n93 (st p 28)
noncomputable def o244 : Obj := co n93 525 n93 526 n1 527 170 2 0 0 3 239 true 181 240 (.ref 241) (.ref 242) (.ref 243) 530 170 n1 531
noncomputable def o245 (p : Program) : Obj := fo n93 n93 (st p 28) .none (.str n90 504) (.ref 244)
noncomputable def o246 : Obj := tp []
noncomputable def o247 : Obj := fl .none []
noncomputable def o248 : Obj := tp [(.str n37 536), (.str n74 537)]
noncomputable def o249 : Obj := tp []
noncomputable def o250 (p : Program) : Obj := fr n94 n94 (st p 29)
noncomputable def o251 : Obj := co n94 533 n94 534 n1 535 176 2 0 0 3 246 true 181 247 (.ref 248) (.ref 249) (.ref 250) 538 176 n1 539
noncomputable def o252 (p : Program) : Obj := fo n94 n94 (st p 29) .none (.str n90 504) (.ref 251)
noncomputable def o253 : Obj := tp []
noncomputable def o254 : Obj := fl .none []
noncomputable def o255 : Obj := tp [(.str n37 544), (.str n38 545), (.str n95 546), (.str n92 547), (.str n96 548), (.str n97 549), (.str n98 550), (.str n74 551)]
noncomputable def o256 : Obj := tp []
noncomputable def o257 (p : Program) : Obj := fr n99 n99 (st p 30)
noncomputable def o258 : Obj := co n99 541 n99 542 n1 543 178 6 0 0 3 253 true 181 254 (.ref 255) (.ref 256) (.ref 257) 552 178 n1 553
noncomputable def o259 (p : Program) : Obj := fo n99 n99 (st p 30) .none (.str n90 504) (.ref 258)
noncomputable def o260 : Obj := tp []
noncomputable def o261 : Obj := fl .none []
noncomputable def o262 : Obj := tp [(.str n37 558), (.str n38 559), (.str n100 560), (.str n48 561), (.str n92 562), (.str n98 563)]
noncomputable def o263 : Obj := tp []
noncomputable def o264 (p : Program) : Obj := fr n101 n101 (st p 31)
noncomputable def o265 : Obj := co n101 555 n101 556 n1 557 189 3 0 0 3 260 true 181 261 (.ref 262) (.ref 263) (.ref 264) 564 189 n1 565
noncomputable def o266 (p : Program) : Obj := fo n101 n101 (st p 31) .none (.str n90 504) (.ref 265)
noncomputable def o267 : Obj := tp []
noncomputable def o268 : Obj := fl .none []
noncomputable def o269 : Obj := tp [(.str n37 570), (.str n38 571), (.str n95 572), (.str n100 573), (.str n98 574), (.str n92 575)]
noncomputable def o270 : Obj := tp []
noncomputable def o271 (p : Program) : Obj := fr n102 n102 (st p 32)
noncomputable def o272 : Obj := co n102 567 n102 568 n1 569 199 4 0 0 3 267 true 181 268 (.ref 269) (.ref 270) (.ref 271) 576 199 n1 577
noncomputable def o273 (p : Program) : Obj := fo n102 n102 (st p 32) .none (.str n90 504) (.ref 272)
noncomputable def o274 : Obj := tp []
noncomputable def o275 : Obj := fl .none []
noncomputable def o276 : Obj := tp [(.str n37 582), (.str n38 583), (.str n100 584)]
noncomputable def o277 : Obj := tp []
noncomputable def o278 (p : Program) : Obj := fr n103 n103 (st p 33)
noncomputable def o279 : Obj := co n103 579 n103 580 n1 581 206 3 0 0 3 274 true 181 275 (.ref 276) (.ref 277) (.ref 278) 585 206 n1 586
noncomputable def o280 (p : Program) : Obj := fo n103 n103 (st p 33) .none (.str n90 504) (.ref 279)
noncomputable def o281 : Obj := tp []
noncomputable def o282 : Obj := fl .none []
noncomputable def o283 : Obj := tp [(.str n37 591), (.str n38 592), (.str n100 593)]
noncomputable def o284 : Obj := tp []
noncomputable def o285 (p : Program) : Obj := fr n104 n104 (st p 34)
noncomputable def o286 : Obj := co n104 588 n104 589 n1 590 208 3 0 0 3 281 true 181 282 (.ref 283) (.ref 284) (.ref 285) 594 208 n1 595
noncomputable def o287 (p : Program) : Obj := fo n104 n104 (st p 34) .none (.str n90 504) (.ref 286)
noncomputable def o288 : Obj := tp []
noncomputable def o289 : Obj := fl .none []
noncomputable def o290 : Obj := tp [(.str n74 600)]
noncomputable def o291 : Obj := tp []
noncomputable def o292 (p : Program) : Obj := fr n105 n105 (st p 35)
noncomputable def o293 : Obj := co n105 597 n105 598 n1 599 210 1 0 0 3 288 true 181 289 (.ref 290) (.ref 291) (.ref 292) 601 210 n1 602
noncomputable def o294 (p : Program) : Obj := fo n105 n105 (st p 35) .none (.str n90 504) (.ref 293)
noncomputable def o295 : Obj := tp []
noncomputable def o296 : Obj := fl .none []
noncomputable def o297 : Obj := tp [(.str n73 607), (.str n106 608), (.str n78 609), (.str n38 610), (.str n107 611)]
noncomputable def o298 : Obj := tp []
noncomputable def o299 (p : Program) : Obj := fr n108 n108 (st p 36)
noncomputable def o300 : Obj := co n108 604 n108 605 n1 606 212 2 0 0 3 295 true 181 296 (.ref 297) (.ref 298) (.ref 299) 612 212 n1 613
noncomputable def o301 (p : Program) : Obj := fo n108 n108 (st p 36) .none (.str n90 504) (.ref 300)
noncomputable def o302 : Obj := tp []
noncomputable def o303 : Obj := fl .none []
noncomputable def o304 : Obj := tp [(.str n74 624)]
noncomputable def o305 : Obj := tp []
noncomputable def o306 (p : Program) : Obj := fr n109 n109 (st p 40)
noncomputable def o307 : Obj := co n109 621 n109 622 n1 623 225 1 0 0 3 302 true 181 303 (.ref 304) (.ref 305) (.ref 306) 625 225 n1 626
noncomputable def o308 (p : Program) : Obj := fo n109 n109 (st p 40) .none (.str n110 615) (.ref 307)
noncomputable def o309 : Obj := tp []
noncomputable def o310 : Obj := fl .none []
noncomputable def o311 (p : Program) : Obj := fr n111 n111 (st p 41)
noncomputable def o312 : Obj := co n111 628 n111 629 n1 630 227 2 0 0 3 309 true 181 310 .none .none (.ref 311) 631 227 n1 632
noncomputable def o313 (p : Program) : Obj := fo n111 n111 (st p 41) .none (.str n110 615) (.ref 312)
noncomputable def o314 : Obj := tp []
noncomputable def o315 : Obj := fl .none []
noncomputable def o316 : Obj := tp [(.str n74 637), (.str n54 638), (.str n112 639), (.str n84 640), (.str n113 641)]
noncomputable def o317 : Obj := tp []
noncomputable def o318 (p : Program) : Obj := fr n114 n114 (st p 42)
noncomputable def o319 : Obj := co n114 634 n114 635 n1 636 231 4 0 0 3 314 true 181 315 (.ref 316) (.ref 317) (.ref 318) 642 231 n1 643
noncomputable def o320 (p : Program) : Obj := fo n114 n114 (st p 42) .none (.str n110 615) (.ref 319)
noncomputable def o321 : Obj := tp []
noncomputable def o322 : Obj := fl .none []
noncomputable def o323 : Obj := tp [(.str n73 648), (.str n38 649), (.str n115 650), (.str n54 651), (.str n112 652), (.str n84 653), (.str n116 654)]
noncomputable def o324 : Obj := tp []
noncomputable def o325 (p : Program) : Obj := fr n117 n117 (st p 43)
noncomputable def o326 : Obj := co n117 645 n117 646 n1 647 236 6 0 0 3 321 true 181 322 (.ref 323) (.ref 324) (.ref 325) 655 236 n1 656
noncomputable def o327 (p : Program) : Obj := fo n117 n117 (st p 43) .none (.str n110 615) (.ref 326)
noncomputable def o328 : Obj := tp []
noncomputable def o329 : Obj := fl .none []
noncomputable def o330 : Obj := tp [(.str n73 661), (.str n118 662), (.str n119 663), (.str n54 664), (.str n120 665), (.str n112 666), (.str n84 667), (.str n115 668), (.str n116 669), (.str n121 670)]
noncomputable def o331 : Obj := tp []
noncomputable def o332 (p : Program) : Obj := fr n122 n122 (st p 44)
noncomputable def o333 : Obj := co n122 658 n122 659 n1 660 241 4 0 0 3 328 true 181 329 (.ref 330) (.ref 331) (.ref 332) 671 241 n1 672
noncomputable def o334 (p : Program) : Obj := fo n122 n122 (st p 44) .none (.str n110 615) (.ref 333)
noncomputable def o335 : Obj := tp []
noncomputable def o336 : Obj := fl .none []
noncomputable def o337 (p : Program) : Obj := fr n123 n123 (st p 45)
noncomputable def o338 : Obj := co n123 674 n123 675 n1 676 253 3 0 0 3 335 true 181 336 .none .none (.ref 337) 677 253 n1 678
noncomputable def o339 (p : Program) : Obj := fo n123 n123 (st p 45) .none (.str n110 615) (.ref 338)
noncomputable def o340 : Obj := tp []
noncomputable def o341 : Obj := fl .none []
noncomputable def o342 : Obj := tp [(.str n37 683), (.str n124 684), (.str n38 685), (.str n73 686), (.str n78 687), (.str n125 688), (.str n126 689), (.str n118 690)]
noncomputable def o343 : Obj := tp []
noncomputable def o344 (p : Program) : Obj := fr n127 n127 (st p 46)
noncomputable def o345 : Obj := co n127 680 n127 681 n1 682 269 3 0 0 3 340 true 181 341 (.ref 342) (.ref 343) (.ref 344) 691 269 n1 692
noncomputable def o346 (p : Program) : Obj := fo n127 n127 (st p 46) .none (.str n110 615) (.ref 345)
noncomputable def o347 : Obj := tp []
noncomputable def o348 : Obj := fl (.type "builtin_function_or_method") [(.builtin "type.__prepare__"), (.type "type")]
noncomputable def o349 (P : Params) : Obj := dc [en P n5 703 (.str n128 694), en P n7 705 (.str n129 704), en P n9 707 (.int 282 706), en P n10 715 (.ref 360), en P n130 726 (.ref 367), en P n131 734 (.ref 374), en P n11 741 (.ref 381), en P n12 743 (.ref 382)] 8
noncomputable def o350 : Obj := tp []
noncomputable def o351 : Obj := fl .none [(.int 284 0), (.int 4 0), (.ref 359), (.int 287 0), (.int 4 0), (.ref 366), (.int 300 0), (.int 4 0), (.ref 373), (.int 303 0), (.int 4 0), (.ref 380)]
noncomputable def o352 : Obj := co n129 698 n129 699 n1 700 282 0 0 0 0 350 false 181 351 .none .none .none 701 282 n1 702
noncomputable def o353 : Obj := ⟨(.type "frame"), none, .plain, Array.mk [(some (.ref 352)), (some (.ref 3)), (some (.ref 349)), none, (some (.str n128 694)), none, (some (.ref 0))]⟩
noncomputable def o354 : Obj := tp []
noncomputable def o355 : Obj := fl .none []
noncomputable def o356 : Obj := tp [(.str n13 711), (.str n62 712)]
noncomputable def o357 : Obj := tp []
noncomputable def o358 (p : Program) : Obj := fr n10 n132 (me p 48 0)
noncomputable def o359 : Obj := co n10 708 n132 709 n1 710 284 2 0 0 3 354 true 181 355 (.ref 356) (.ref 357) (.ref 358) 713 284 n1 714
noncomputable def o360 (p : Program) : Obj := fo n10 n132 (me p 48 0) .none (.str n128 694) (.ref 359)
noncomputable def o361 : Obj := tp []
noncomputable def o362 : Obj := fl .none []
noncomputable def o363 : Obj := tp [(.str n13 719), (.str n34 720), (.str n133 721), (.str n134 722), (.str n135 723)]
noncomputable def o364 : Obj := tp []
noncomputable def o365 (p : Program) : Obj := fr n130 n136 (me p 48 1)
noncomputable def o366 : Obj := co n130 716 n136 717 n1 718 287 2 0 0 3 361 true 181 362 (.ref 363) (.ref 364) (.ref 365) 724 287 n1 725
noncomputable def o367 (p : Program) : Obj := fo n130 n136 (me p 48 1) .none (.str n128 694) (.ref 366)
noncomputable def o368 : Obj := tp []
noncomputable def o369 : Obj := fl .none []
noncomputable def o370 : Obj := tp [(.str n13 730), (.str n34 731)]
noncomputable def o371 : Obj := tp []
noncomputable def o372 (p : Program) : Obj := fr n131 n137 (me p 48 2)
noncomputable def o373 : Obj := co n131 727 n137 728 n1 729 300 2 0 0 3 368 true 181 369 (.ref 370) (.ref 371) (.ref 372) 732 300 n1 733
noncomputable def o374 (p : Program) : Obj := fo n131 n137 (me p 48 2) .none (.str n128 694) (.ref 373)
noncomputable def o375 : Obj := tp []
noncomputable def o376 : Obj := fl .none []
noncomputable def o377 : Obj := tp [(.str n13 738)]
noncomputable def o378 : Obj := tp []
noncomputable def o379 (p : Program) : Obj := fr n11 n138 (me p 48 3)
noncomputable def o380 : Obj := co n11 735 n138 736 n1 737 303 1 0 0 3 375 true 181 376 (.ref 377) (.ref 378) (.ref 379) 739 303 n1 740
noncomputable def o381 (p : Program) : Obj := fo n11 n138 (me p 48 3) .none (.str n128 694) (.ref 380)
noncomputable def o382 : Obj := tp [(.str n62 742)]
noncomputable def o383 (P : Params) : Obj := dc [en P n5 703 (.str n128 694), en P n9 707 (.int 282 706), en P n10 715 (.ref 360), en P n130 726 (.ref 367), en P n131 734 (.ref 374), en P n11 741 (.ref 381), en P n12 743 (.ref 382), en P n20 745 (.ref 385), en P n21 747 (.ref 386), en P n22 748 .none] 4
noncomputable def o384 : Obj := ⟨(.type "type"), none, (.cls { name := n129, bases := [(.type "object")], mro := [(.ref 384), (.type "object")], ns := 383, qualname := n129, hasDict := true, slotNames := [], subclasses := [], abstract := false, collection := none, hasDel := false }), Array.mk [none, none, (some (.str n129 696)), (some (.str n129 704)), (some (.builtin "object.__new__")), (some (.bool true))]⟩
noncomputable def o385 : Obj := fl (.type "getset_descriptor") [(.str n20 744), (.ref 384), (.builtin "function.__dict__"), (.builtin "function.__dict__#set")]
noncomputable def o386 : Obj := fl (.type "getset_descriptor") [(.str n21 746), (.ref 384), (.builtin "ExceptionGroup.__weakref__"), .none]
noncomputable def o387 : Obj := fl (.type "super") [(.ref 384), (.ref 384), (.ref 384)]
noncomputable def o388 : Obj := fl (.type "builtin_function_or_method") [(.builtin "object.__init_subclass__"), (.ref 384)]
noncomputable def o389 : Obj := tp []
noncomputable def o390 : Obj := fl .none []
noncomputable def o391 : Obj := tp [(.str n62 754), (.str n48 755), (.str n34 756)]
noncomputable def o392 : Obj := tp []
noncomputable def o393 (p : Program) : Obj := fr n139 n139 (st p 49)
noncomputable def o394 : Obj := co n139 751 n139 752 n1 753 305 1 0 0 3 389 true 181 390 (.ref 391) (.ref 392) (.ref 393) 757 305 n1 758
noncomputable def o395 (p : Program) : Obj := fo n139 n139 (st p 49) .none (.str n128 694) (.ref 394)
noncomputable def o396 : Obj := tp []
noncomputable def o397 : Obj := fl (.type "builtin_function_or_method") [(.builtin "type.__prepare__"), (.type "type")]
noncomputable def o398 (P : Params) : Obj := dc [en P n5 773 (.str n140 760), en P n7 775 (.str n141 774), en P n9 777 (.int 313 776), en P n10 788 (.ref 409), en P n11 795 (.ref 416), en P n142 802 (.ref 423), en P n12 807 (.ref 424)] 7
noncomputable def o399 : Obj := tp []
noncomputable def o400 : Obj := fl .none [(.int 315 0), (.int 4 0), (.ref 408), (.int 321 0), (.int 4 0), (.ref 415), (.int 324 0), (.int 4 0), (.ref 422)]
noncomputable def o401 : Obj := co n141 768 n141 769 n1 770 313 0 0 0 0 399 false 181 400 .none .none .none 771 313 n1 772
noncomputable def o402 : Obj := ⟨(.type "frame"), none, .plain, Array.mk [(some (.ref 401)), (some (.ref 3)), (some (.ref 398)), none, (some (.str n140 760)), none, (some (.ref 0))]⟩
noncomputable def o403 : Obj := tp []
noncomputable def o404 : Obj := fl .none []
noncomputable def o405 : Obj := tp [(.str n13 781), (.str n143 782), (.str n144 783), (.str n112 784), (.str n145 785)]
noncomputable def o406 : Obj := tp []
noncomputable def o407 (p : Program) : Obj := fr n10 n146 (me p 53 0)
noncomputable def o408 : Obj := co n10 778 n146 779 n1 780 315 5 0 0 3 403 true 181 404 (.ref 405) (.ref 406) (.ref 407) 786 315 n1 787
noncomputable def o409 (p : Program) : Obj := fo n10 n146 (me p 53 0) .none (.str n140 760) (.ref 408)
noncomputable def o410 : Obj := tp []
noncomputable def o411 : Obj := fl .none []
noncomputable def o412 : Obj := tp [(.str n13 792)]
noncomputable def o413 : Obj := tp []
noncomputable def o414 (p : Program) : Obj := fr n11 n147 (me p 53 1)
noncomputable def o415 : Obj := co n11 789 n147 790 n1 791 321 1 0 0 3 410 true 181 411 (.ref 412) (.ref 413) (.ref 414) 793 321 n1 794
noncomputable def o416 (p : Program) : Obj := fo n11 n147 (me p 53 1) .none (.str n140 760) (.ref 415)
noncomputable def o417 : Obj := tp []
noncomputable def o418 : Obj := fl .none []
noncomputable def o419 : Obj := tp [(.str n13 799)]
noncomputable def o420 : Obj := tp []
noncomputable def o421 (p : Program) : Obj := fr n142 n148 (me p 53 2)
noncomputable def o422 : Obj := co n142 796 n148 797 n1 798 324 1 0 0 3 417 true 181 418 (.ref 419) (.ref 420) (.ref 421) 800 324 n1 801
noncomputable def o423 (p : Program) : Obj := fo n142 n148 (me p 53 2) .none (.str n140 760) (.ref 422)
noncomputable def o424 : Obj := tp [(.str n145 803), (.str n112 804), (.str n143 805), (.str n144 806)]
noncomputable def o425 (P : Params) : Obj := dc [en P n5 773 (.str n140 760), en P n9 777 (.int 313 776), en P n10 788 (.ref 409), en P n11 795 (.ref 416), en P n142 802 (.ref 423), en P n12 807 (.ref 424), en P n20 809 (.ref 427), en P n21 811 (.ref 428), en P n22 812 .none] 4
noncomputable def o426 : Obj := ⟨(.type "type"), none, (.cls { name := n141, bases := [(.type "object")], mro := [(.ref 426), (.type "object")], ns := 425, qualname := n141, hasDict := true, slotNames := [], subclasses := [], abstract := false, collection := none, hasDel := false }), Array.mk [none, none, (some (.str n141 766)), (some (.str n141 774)), (some (.builtin "object.__new__")), (some (.bool true))]⟩
noncomputable def o427 : Obj := fl (.type "getset_descriptor") [(.str n20 808), (.ref 426), (.builtin "function.__dict__"), (.builtin "function.__dict__#set")]
noncomputable def o428 : Obj := fl (.type "getset_descriptor") [(.str n21 810), (.ref 426), (.builtin "ExceptionGroup.__weakref__"), .none]
noncomputable def o429 : Obj := fl (.type "super") [(.ref 426), (.ref 426), (.ref 426)]
noncomputable def o430 : Obj := fl (.type "builtin_function_or_method") [(.builtin "object.__init_subclass__"), (.ref 426)]
noncomputable def o431 : Obj := tp []
noncomputable def o432 : Obj := fl (.type "builtin_function_or_method") [(.builtin "type.__prepare__"), (.type "type")]
noncomputable def o433 (P : Params) : Obj := dc [en P n5 822 (.str n140 760), en P n7 824 (.str n149 823), en P n9 826 (.int 326 825), en P n10 838 (.ref 445), en P n11 844 (.ref 450), en P n150 851 (.ref 457), en P n151 861 (.ref 464), en P n12 867 (.ref 465)] 8
noncomputable def o434 : Obj := tp []
noncomputable def o435 : Obj := fl .none [(.int 328 0), (.int 4 0), (.ref 444), (.int 335 0), (.int 4 0), (.ref 449), (.int 341 0), (.int 4 0), (.ref 456), (.int 344 0), (.int 4 0), (.ref 463)]
noncomputable def o436 : Obj := co n149 817 n149 818 n1 819 326 0 0 0 0 434 false 181 435 .none .none .none 820 326 n1 821
noncomputable def o437 : Obj := ⟨(.type "frame"), none, .plain, Array.mk [(some (.ref 436)), (some (.ref 3)), (some (.ref 433)), none, (some (.str n140 760)), none, (some (.ref 0))]⟩
noncomputable def o438 : Obj := tp [.none, .none]
noncomputable def o439 : Obj := tp []
noncomputable def o440 : Obj := fl .none []
noncomputable def o441 : Obj := tp [(.str n13 830), (.str n152 831), (.str n153 832), (.str n154 833), (.str n155 834), (.str n156 835)]
noncomputable def o442 : Obj := tp []
noncomputable def o443 (p : Program) : Obj := fr n10 n157 (me p 54 0)
noncomputable def o444 : Obj := co n10 827 n157 828 n1 829 328 6 0 0 3 439 true 181 440 (.ref 441) (.ref 442) (.ref 443) 836 328 n1 837
noncomputable def o445 (p : Program) : Obj := fo n10 n157 (me p 54 0) (.ref 438) (.str n140 760) (.ref 444)
noncomputable def o446 : Obj := tp []
noncomputable def o447 : Obj := fl .none []
noncomputable def o448 (p : Program) : Obj := fr n11 n158 (me p 54 1)
noncomputable def o449 : Obj := co n11 839 n158 840 n1 841 335 1 0 0 3 446 true 181 447 .none .none (.ref 448) 842 335 n1 843
noncomputable def o450 (p : Program) : Obj := fo n11 n158 (me p 54 1) .none (.str n140 760) (.ref 449)
noncomputable def o451 : Obj := tp []
noncomputable def o452 : Obj := fl .none []
noncomputable def o453 : Obj := tp [(.str n13 848)]
noncomputable def o454 : Obj := tp []
noncomputable def o455 (p : Program) : Obj := fr n150 n159 (me p 54 2)
noncomputable def o456 : Obj := co n150 845 n159 846 n1 847 341 1 0 0 3 451 true 181 452 (.ref 453) (.ref 454) (.ref 455) 849 341 n1 850
noncomputable def o457 (p : Program) : Obj := fo n150 n159 (me p 54 2) .none (.str n140 760) (.ref 456)
noncomputable def o458 : Obj := tp []
noncomputable def o459 : Obj := fl .none []
noncomputable def o460 : Obj := tp [(.str n13 855), (.str n48 856), (.str n160 857), (.str n161 858)]
noncomputable def o461 : Obj := tp []
noncomputable def o462 (p : Program) : Obj := fr n151 n162 (me p 54 3)
noncomputable def o463 : Obj := co n151 852 n162 853 n1 854 344 1 0 0 3 458 true 181 459 (.ref 460) (.ref 461) (.ref 462) 859 344 n1 860
noncomputable def o464 (p : Program) : Obj := fo n151 n162 (me p 54 3) .none (.str n140 760) (.ref 463)
noncomputable def o465 : Obj := tp [(.str n156 862), (.str n155 863), (.str n152 864), (.str n153 865), (.str n154 866)]
noncomputable def o466 (P : Params) : Obj := dc [en P n5 822 (.str n140 760), en P n9 826 (.int 326 825), en P n10 838 (.ref 445), en P n11 844 (.ref 450), en P n150 851 (.ref 457), en P n151 861 (.ref 464), en P n12 867 (.ref 465), en P n20 869 (.ref 468), en P n21 871 (.ref 469), en P n22 872 .none] 4
noncomputable def o467 : Obj := ⟨(.type "type"), none, (.cls { name := n149, bases := [(.type "object")], mro := [(.ref 467), (.type "object")], ns := 466, qualname := n149, hasDict := true, slotNames := [], subclasses := [], abstract := false, collection := none, hasDel := false }), Array.mk [none, none, (some (.str n149 815)), (some (.str n149 823)), (some (.builtin "object.__new__")), (some (.bool true))]⟩
noncomputable def o468 : Obj := fl (.type "getset_descriptor") [(.str n20 868), (.ref 467), (.builtin "function.__dict__"), (.builtin "function.__dict__#set")]
noncomputable def o469 : Obj := fl (.type "getset_descriptor") [(.str n21 870), (.ref 467), (.builtin "ExceptionGroup.__weakref__"), .none]
noncomputable def o470 : Obj := fl (.type "super") [(.ref 467), (.ref 467), (.ref 467)]
noncomputable def o471 : Obj := fl (.type "builtin_function_or_method") [(.builtin "object.__init_subclass__"), (.ref 467)]
noncomputable def o472 : Obj := tp []
noncomputable def o473 : Obj := fl .none []
noncomputable def o474 (p : Program) : Obj := fr n163 n163 (st p 55)
noncomputable def o475 : Obj := co n163 875 n163 876 n1 877 350 1 0 0 3 472 true 181 473 .none .none (.ref 474) 878 350 n1 879
noncomputable def o476 (p : Program) : Obj := fo n163 n163 (st p 55) .none (.str n140 760) (.ref 475)
noncomputable def o477 : Obj := tp []
noncomputable def o478 : Obj := fl .none []
noncomputable def o479 (p : Program) : Obj := fr n164 n164 (st p 56)
noncomputable def o480 : Obj := co n164 881 n164 882 n1 883 352 3 0 0 3 477 true 181 478 .none .none (.ref 479) 884 352 n1 885
noncomputable def o481 (p : Program) : Obj := fo n164 n164 (st p 56) .none (.str n140 760) (.ref 480)
noncomputable def o482 : Obj := tp []
noncomputable def o483 : Obj := fl .none []
noncomputable def o484 : Obj := tp [(.str n124 890), (.str n161 891), (.str n165 892), (.str n143 893), (.str n144 894), (.str n112 895)]
noncomputable def o485 : Obj := tp []
noncomputable def o486 (p : Program) : Obj := fr n166 n166 (st p 57)
noncomputable def o487 : Obj := co n166 887 n166 888 n1 889 356 2 0 0 3 482 true 181 483 (.ref 484) (.ref 485) (.ref 486) 896 356 n1 897
noncomputable def o488 (p : Program) : Obj := fo n166 n166 (st p 57) .none (.str n140 760) (.ref 487)
noncomputable def o489 : Obj := tp []
noncomputable def o490 : Obj := fl .none []
noncomputable def o491 (p : Program) : Obj := fr n167 n167 (st p 58)
noncomputable def o492 : Obj := co n167 899 n167 900 n1 901 360 2 0 0 3 489 true 181 490 .none .none (.ref 491) 902 360 n1 903
noncomputable def o493 (p : Program) : Obj := fo n167 n167 (st p 58) .none (.str n140 760) (.ref 492)
noncomputable def o494 : Obj := tp []
noncomputable def o495 : Obj := fl (.type "builtin_function_or_method") [(.builtin "type.__prepare__"), (.type "type")]
noncomputable def o496 (P : Params) : Obj := dc [en P n5 918 (.str n168 905), en P n7 920 (.str n169 919), en P n9 922 (.int 371 921), en P n10 931 (.ref 507), en P n12 934 (.ref 508)] 5
noncomputable def o497 : Obj := tp []
noncomputable def o498 : Obj := fl .none [(.int 373 0), (.int 4 0), (.ref 506)]
noncomputable def o499 : Obj := co n169 913 n169 914 n1 915 371 0 0 0 0 497 false 181 498 .none .none .none 916 371 n1 917
noncomputable def o500 : Obj := ⟨(.type "frame"), none, .plain, Array.mk [(some (.ref 499)), (some (.ref 3)), (some (.ref 496)), none, (some (.str n168 905)), none, (some (.ref 0))]⟩
noncomputable def o501 : Obj := tp []
noncomputable def o502 : Obj := fl .none []
noncomputable def o503 : Obj := tp [(.str n13 926), (.str n73 927), (.str n77 928)]
noncomputable def o504 : Obj := tp []
noncomputable def o505 (p : Program) : Obj := fr n10 n170 (me p 62 0)
noncomputable def o506 : Obj := co n10 923 n170 924 n1 925 373 3 0 0 3 501 true 181 502 (.ref 503) (.ref 504) (.ref 505) 929 373 n1 930
noncomputable def o507 (p : Program) : Obj := fo n10 n170 (me p 62 0) .none (.str n168 905) (.ref 506)
noncomputable def o508 : Obj := tp [(.str n77 932), (.str n73 933)]
noncomputable def o509 (P : Params) : Obj := dc [en P n5 918 (.str n168 905), en P n9 922 (.int 371 921), en P n10 931 (.ref 507), en P n12 934 (.ref 508), en P n20 936 (.ref 511), en P n21 938 (.ref 512), en P n22 939 .none] 4
noncomputable def o510 : Obj := ⟨(.type "type"), none, (.cls { name := n169, bases := [(.type "object")], mro := [(.ref 510), (.type "object")], ns := 509, qualname := n169, hasDict := true, slotNames := [], subclasses := [], abstract := false, collection := none, hasDel := false }), Array.mk [none, none, (some (.str n169 911)), (some (.str n169 919)), (some (.builtin "object.__new__")), (some (.bool true))]⟩
noncomputable def o511 : Obj := fl (.type "getset_descriptor") [(.str n20 935), (.ref 510), (.builtin "function.__dict__"), (.builtin "function.__dict__#set")]
noncomputable def o512 : Obj := fl (.type "getset_descriptor") [(.str n21 937), (.ref 510), (.builtin "ExceptionGroup.__weakref__"), .none]
noncomputable def o513 : Obj := fl (.type "super") [(.ref 510), (.ref 510), (.ref 510)]
noncomputable def o514 : Obj := fl (.type "builtin_function_or_method") [(.builtin "object.__init_subclass__"), (.ref 510)]
noncomputable def o515 : Obj := tp []
noncomputable def o516 : Obj := fl .none []
noncomputable def o517 : Obj := tp [(.str n37 945), (.str n38 946), (.str n100 947), (.str n143 948), (.str n144 949), (.str n112 950), (.str n145 951), (.str n118 952), (.str n76 953), (.str n77 954)]
noncomputable def o518 : Obj := tp []
noncomputable def o519 (p : Program) : Obj := fr n171 n171 (st p 63)
noncomputable def o520 : Obj := co n171 942 n171 943 n1 944 376 3 0 0 3 515 true 181 516 (.ref 517) (.ref 518) (.ref 519) 955 376 n1 956
noncomputable def o521 (p : Program) : Obj := fo n171 n171 (st p 63) .none (.str n168 905) (.ref 520)
noncomputable def o522 : Obj := tp []
noncomputable def o523 : Obj := fl .none []
noncomputable def o524 : Obj := tp [(.str n37 961), (.str n32 962)]
noncomputable def o525 : Obj := tp []
noncomputable def o526 (p : Program) : Obj := fr n172 n172 (st p 64)
noncomputable def o527 : Obj := co n172 958 n172 959 n1 960 386 2 0 0 3 522 true 181 523 (.ref 524) (.ref 525) (.ref 526) 963 386 n1 964
noncomputable def o528 (p : Program) : Obj := fo n172 n172 (st p 64) .none (.str n168 905) (.ref 527)
noncomputable def o529 : Obj := tp []
noncomputable def o530 : Obj := fl .none []
noncomputable def o531 (p : Program) : Obj := fr n173 n173 (st p 65)
noncomputable def o532 : Obj := co n173 966 n173 967 n1 968 388 3 0 0 3 529 true 181 530 .none .none (.ref 531) 969 388 n1 970
noncomputable def o533 (p : Program) : Obj := fo n173 n173 (st p 65) .none (.str n168 905) (.ref 532)
noncomputable def o534 : Obj := tp []
noncomputable def o535 : Obj := fl .none []
noncomputable def o536 (p : Program) : Obj := fr n174 n174 (st p 66)
noncomputable def o537 : Obj := co n174 972 n174 973 n1 974 391 3 0 0 3 534 true 181 535 .none .none (.ref 536) 975 391 n1 976
noncomputable def o538 (p : Program) : Obj := fo n174 n174 (st p 66) .none (.str n168 905) (.ref 537)
noncomputable def o539 : Obj := tp []
noncomputable def o540 : Obj := fl .none []
noncomputable def o541 : Obj := tp [(.str n118 981), (.str n130 982), (.str n175 983)]
noncomputable def o542 : Obj := tp []
noncomputable def o543 (p : Program) : Obj := fr n176 n176 (st p 67)
noncomputable def o544 : Obj := co n176 978 n176 979 n1 980 394 3 0 0 3 539 true 181 540 (.ref 541) (.ref 542) (.ref 543) 984 394 n1 985
noncomputable def o545 (p : Program) : Obj := fo n176 n176 (st p 67) .none (.str n168 905) (.ref 544)
noncomputable def o546 : Obj := tp []
noncomputable def o547 : Obj := fl .none []
noncomputable def o548 : Obj := tp [(.str n37 990), (.str n118 991), (.str n177 992), (.str n178 993), (.str n130 994), (.str n32 995), (.str n179 996), (.str n180 997), (.str n175 998)]
noncomputable def o549 : Obj := tp []
noncomputable def o550 (p : Program) : Obj := fr n181 n181 (st p 68)
noncomputable def o551 : Obj := co n181 987 n181 988 n1 989 403 4 0 0 3 546 true 181 547 (.ref 548) (.ref 549) (.ref 550) 999 403 n1 1000
noncomputable def o552 (p : Program) : Obj := fo n181 n181 (st p 68) .none (.str n168 905) (.ref 551)
noncomputable def o553 : Obj := tp []
noncomputable def o554 : Obj := fl .none []
noncomputable def o555 : Obj := tp [(.str n37 1005), (.str n118 1006), (.str n145 1007), (.str n178 1008), (.str n177 1009)]
noncomputable def o556 : Obj := tp []
noncomputable def o557 (p : Program) : Obj := fr n182 n182 (st p 69)
noncomputable def o558 : Obj := co n182 1002 n182 1003 n1 1004 420 4 0 0 3 553 true 181 554 (.ref 555) (.ref 556) (.ref 557) 1010 420 n1 1011
noncomputable def o559 (p : Program) : Obj := fo n182 n182 (st p 69) .none (.str n168 905) (.ref 558)
noncomputable def o560 : Obj := tp []
noncomputable def o561 : Obj := fl .none []
noncomputable def o562 : Obj := tp [(.str n37 1016), (.str n124 1017), (.str n38 1018), (.str n178 1019), (.str n100 1020), (.str n48 1021)]
noncomputable def o563 : Obj := tp []
noncomputable def o564 (p : Program) : Obj := fr n183 n183 (st p 70)
noncomputable def o565 : Obj := co n183 1013 n183 1014 n1 1015 425 4 0 0 3 560 true 181 561 (.ref 562) (.ref 563) (.ref 564) 1022 425 n1 1023
noncomputable def o566 (p : Program) : Obj := fo n183 n183 (st p 70) .none (.str n168 905) (.ref 565)
noncomputable def o567 : Obj := tp []
noncomputable def o568 : Obj := fl (.type "builtin_function_or_method") [(.builtin "type.__prepare__"), (.type "type")]
noncomputable def o569 (P : Params) : Obj := dc [en P n5 1034 (.str n184 1025), en P n7 1036 (.str n185 1035), en P n9 1038 (.int 433 1037), en P n10 1048 (.ref 580), en P n11 1054 (.ref 585), en P n12 1058 (.ref 586)] 6
noncomputable def o570 : Obj := tp []
noncomputable def o571 : Obj := fl .none [(.int 435 0), (.int 4 0), (.ref 579), (.int 440 0), (.int 4 0), (.ref 584)]
noncomputable def o572 : Obj := co n185 1029 n185 1030 n1 1031 433 0 0 0 0 570 false 181 571 .none .none .none 1032 433 n1 1033
noncomputable def o573 : Obj := ⟨(.type "frame"), none, .plain, Array.mk [(some (.ref 572)), (some (.ref 3)), (some (.ref 569)), none, (some (.str n184 1025)), none, (some (.ref 0))]⟩
noncomputable def o574 : Obj := tp []
noncomputable def o575 : Obj := fl .none []
noncomputable def o576 : Obj := tp [(.str n13 1042), (.str n186 1043), (.str n143 1044), (.str n112 1045)]
noncomputable def o577 : Obj := tp []
noncomputable def o578 (p : Program) : Obj := fr n10 n187 (me p 72 0)
noncomputable def o579 : Obj := co n10 1039 n187 1040 n1 1041 435 4 0 0 3 574 true 181 575 (.ref 576) (.ref 577) (.ref 578) 1046 435 n1 1047
noncomputable def o580 (p : Program) : Obj := fo n10 n187 (me p 72 0) .none (.str n184 1025) (.ref 579)
noncomputable def o581 : Obj := tp []
noncomputable def o582 : Obj := fl .none []
noncomputable def o583 (p : Program) : Obj := fr n11 n188 (me p 72 1)
noncomputable def o584 : Obj := co n11 1049 n188 1050 n1 1051 440 1 0 0 3 581 true 181 582 .none .none (.ref 583) 1052 440 n1 1053
noncomputable def o585 (p : Program) : Obj := fo n11 n188 (me p 72 1) .none (.str n184 1025) (.ref 584)
noncomputable def o586 : Obj := tp [(.str n112 1055), (.str n143 1056), (.str n186 1057)]
noncomputable def o587 (P : Params) : Obj := dc [en P n5 1034 (.str n184 1025), en P n9 1038 (.int 433 1037), en P n10 1048 (.ref 580), en P n11 1054 (.ref 585), en P n12 1058 (.ref 586), en P n20 1060 (.ref 589), en P n21 1062 (.ref 590), en P n22 1063 .none] 4
noncomputable def o588 : Obj := ⟨(.type "type"), none, (.cls { name := n185, bases := [(.type "object")], mro := [(.ref 588), (.type "object")], ns := 587, qualname := n185, hasDict := true, slotNames := [], subclasses := [], abstract := false, collection := none, hasDel := false }), Array.mk [none, none, (some (.str n185 1027)), (some (.str n185 1035)), (some (.builtin "object.__new__")), (some (.bool true))]⟩
noncomputable def o589 : Obj := fl (.type "getset_descriptor") [(.str n20 1059), (.ref 588), (.builtin "function.__dict__"), (.builtin "function.__dict__#set")]
noncomputable def o590 : Obj := fl (.type "getset_descriptor") [(.str n21 1061), (.ref 588), (.builtin "ExceptionGroup.__weakref__"), .none]
noncomputable def o591 : Obj := fl (.type "super") [(.ref 588), (.ref 588), (.ref 588)]
noncomputable def o592 : Obj := fl (.type "builtin_function_or_method") [(.builtin "object.__init_subclass__"), (.ref 588)]
noncomputable def o593 : Obj := tp []
noncomputable def o594 : Obj := fl .none []
noncomputable def o595 : Obj := tp [(.str n37 1069), (.str n124 1070), (.str n38 1071), (.str n74 1072), (.str n76 1073), (.str n77 1074)]
noncomputable def o596 : Obj := tp []
noncomputable def o597 (p : Program) : Obj := fr n189 n189 (st p 73)
noncomputable def o598 : Obj := co n189 1066 n189 1067 n1 1068 444 3 0 0 3 593 true 181 594 (.ref 595) (.ref 596) (.ref 597) 1075 444 n1 1076
noncomputable def o599 (p : Program) : Obj := fo n189 n189 (st p 73) .none (.str n184 1025) (.ref 598)
noncomputable def o600 : Obj := tp []
noncomputable def o601 : Obj := fl (.type "builtin_function_or_method") [(.builtin "type.__prepare__"), (.type "type")]
noncomputable def o602 (P : Params) : Obj := dc [en P n5 1087 (.str n190 1078), en P n7 1089 (.str n191 1088), en P n9 1091 (.int 456 1090), en P n10 1099 (.ref 613), en P n11 1105 (.ref 618), en P n12 1107 (.ref 619)] 6
noncomputable def o603 : Obj := tp []
noncomputable def o604 : Obj := fl .none [(.int 458 0), (.int 4 0), (.ref 612), (.int 461 0), (.int 4 0), (.ref 617)]
noncomputable def o605 : Obj := co n191 1082 n191 1083 n1 1084 456 0 0 0 0 603 false 181 604 .none .none .none 1085 456 n1 1086
noncomputable def o606 : Obj := ⟨(.type "frame"), none, .plain, Array.mk [(some (.ref 605)), (some (.ref 3)), (some (.ref 602)), none, (some (.str n190 1078)), none, (some (.ref 0))]⟩
noncomputable def o607 : Obj := tp []
noncomputable def o608 : Obj := fl .none []
noncomputable def o609 : Obj := tp [(.str n13 1095), (.str n186 1096)]
noncomputable def o610 : Obj := tp []
noncomputable def o611 (p : Program) : Obj := fr n10 n192 (me p 75 0)
noncomputable def o612 : Obj := co n10 1092 n192 1093 n1 1094 458 2 0 0 3 607 true 181 608 (.ref 609) (.ref 610) (.ref 611) 1097 458 n1 1098
noncomputable def o613 (p : Program) : Obj := fo n10 n192 (me p 75 0) .none (.str n190 1078) (.ref 612)
noncomputable def o614 : Obj := tp []
noncomputable def o615 : Obj := fl .none []
noncomputable def o616 (p : Program) : Obj := fr n11 n193 (me p 75 1)
noncomputable def o617 : Obj := co n11 1100 n193 1101 n1 1102 461 1 0 0 3 614 true 181 615 .none .none (.ref 616) 1103 461 n1 1104
noncomputable def o618 (p : Program) : Obj := fo n11 n193 (me p 75 1) .none (.str n190 1078) (.ref 617)
noncomputable def o619 : Obj := tp [(.str n186 1106)]
noncomputable def o620 (P : Params) : Obj := dc [en P n5 1087 (.str n190 1078), en P n9 1091 (.int 456 1090), en P n10 1099 (.ref 613), en P n11 1105 (.ref 618), en P n12 1107 (.ref 619), en P n20 1109 (.ref 622), en P n21 1111 (.ref 623), en P n22 1112 .none] 4
noncomputable def o621 : Obj := ⟨(.type "type"), none, (.cls { name := n191, bases := [(.type "object")], mro := [(.ref 621), (.type "object")], ns := 620, qualname := n191, hasDict := true, slotNames := [], subclasses := [], abstract := false, collection := none, hasDel := false }), Array.mk [none, none, (some (.str n191 1080)), (some (.str n191 1088)), (some (.builtin "object.__new__")), (some (.bool true))]⟩
noncomputable def o622 : Obj := fl (.type "getset_descriptor") [(.str n20 1108), (.ref 621), (.builtin "function.__dict__"), (.builtin "function.__dict__#set")]
noncomputable def o623 : Obj := fl (.type "getset_descriptor") [(.str n21 1110), (.ref 621), (.builtin "ExceptionGroup.__weakref__"), .none]
noncomputable def o624 : Obj := fl (.type "super") [(.ref 621), (.ref 621), (.ref 621)]
noncomputable def o625 : Obj := fl (.type "builtin_function_or_method") [(.builtin "object.__init_subclass__"), (.ref 621)]
noncomputable def o626 : Obj := tp []
noncomputable def o627 : Obj := fl (.type "builtin_function_or_method") [(.builtin "type.__prepare__"), (.type "type")]
noncomputable def o628 (P : Params) : Obj := dc [en P n5 1122 (.str n190 1078), en P n7 1124 (.str n194 1123), en P n9 1126 (.int 463 1125), en P n10 1134 (.ref 639), en P n11 1140 (.ref 644), en P n12 1142 (.ref 645)] 6
noncomputable def o629 : Obj := tp []
noncomputable def o630 : Obj := fl .none [(.int 465 0), (.int 4 0), (.ref 638), (.int 468 0), (.int 4 0), (.ref 643)]
noncomputable def o631 : Obj := co n194 1117 n194 1118 n1 1119 463 0 0 0 0 629 false 181 630 .none .none .none 1120 463 n1 1121
noncomputable def o632 : Obj := ⟨(.type "frame"), none, .plain, Array.mk [(some (.ref 631)), (some (.ref 3)), (some (.ref 628)), none, (some (.str n190 1078)), none, (some (.ref 0))]⟩
noncomputable def o633 : Obj := tp []
noncomputable def o634 : Obj := fl .none []
noncomputable def o635 : Obj := tp [(.str n13 1130), (.str n186 1131)]
noncomputable def o636 : Obj := tp []
noncomputable def o637 (p : Program) : Obj := fr n10 n195 (me p 76 0)
noncomputable def o638 : Obj := co n10 1127 n195 1128 n1 1129 465 2 0 0 3 633 true 181 634 (.ref 635) (.ref 636) (.ref 637) 1132 465 n1 1133
noncomputable def o639 (p : Program) : Obj := fo n10 n195 (me p 76 0) .none (.str n190 1078) (.ref 638)
noncomputable def o640 : Obj := tp []
noncomputable def o641 : Obj := fl .none []
noncomputable def o642 (p : Program) : Obj := fr n11 n196 (me p 76 1)
noncomputable def o643 : Obj := co n11 1135 n196 1136 n1 1137 468 1 0 0 3 640 true 181 641 .none .none (.ref 642) 1138 468 n1 1139
noncomputable def o644 (p : Program) : Obj := fo n11 n196 (me p 76 1) .none (.str n190 1078) (.ref 643)
noncomputable def o645 : Obj := tp [(.str n186 1141)]
noncomputable def o646 (P : Params) : Obj := dc [en P n5 1122 (.str n190 1078), en P n9 1126 (.int 463 1125), en P n10 1134 (.ref 639), en P n11 1140 (.ref 644), en P n12 1142 (.ref 645), en P n20 1144 (.ref 648), en P n21 1146 (.ref 649), en P n22 1147 .none] 4
noncomputable def o647 : Obj := ⟨(.type "type"), none, (.cls { name := n194, bases := [(.type "object")], mro := [(.ref 647), (.type "object")], ns := 646, qualname := n194, hasDict := true, slotNames := [], subclasses := [], abstract := false, collection := none, hasDel := false }), Array.mk [none, none, (some (.str n194 1115)), (some (.str n194 1123)), (some (.builtin "object.__new__")), (some (.bool true))]⟩
noncomputable def o648 : Obj := fl (.type "getset_descriptor") [(.str n20 1143), (.ref 647), (.builtin "function.__dict__"), (.builtin "function.__dict__#set")]
noncomputable def o649 : Obj := fl (.type "getset_descriptor") [(.str n21 1145), (.ref 647), (.builtin "ExceptionGroup.__weakref__"), .none]
noncomputable def o650 : Obj := fl (.type "super") [(.ref 647), (.ref 647), (.ref 647)]
noncomputable def o651 : Obj := fl (.type "builtin_function_or_method") [(.builtin "object.__init_subclass__"), (.ref 647)]
noncomputable def o652 : Obj := tp []
noncomputable def o653 : Obj := fl .none []
noncomputable def o654 : Obj := tp [(.str n37 1153), (.str n124 1154), (.str n38 1155), (.str n74 1156)]
noncomputable def o655 : Obj := tp []
noncomputable def o656 (p : Program) : Obj := fr n197 n197 (st p 77)
noncomputable def o657 : Obj := co n197 1150 n197 1151 n1 1152 470 3 0 0 3 652 true 181 653 (.ref 654) (.ref 655) (.ref 656) 1157 470 n1 1158
noncomputable def o658 (p : Program) : Obj := fo n197 n197 (st p 77) .none (.str n190 1078) (.ref 657)
noncomputable def o659 : Obj := tp []
noncomputable def o660 : Obj := fl .none []
noncomputable def o661 : Obj := tp [(.str n37 1163), (.str n124 1164), (.str n38 1165), (.str n74 1166), (.str n198 1167), (.str n199 1168), (.str n113 1169)]
noncomputable def o662 : Obj := tp []
noncomputable def o663 (p : Program) : Obj := fr n200 n200 (st p 78)
noncomputable def o664 : Obj := co n200 1160 n200 1161 n1 1162 476 3 0 0 3 659 true 181 660 (.ref 661) (.ref 662) (.ref 663) 1170 476 n1 1171
noncomputable def o665 (p : Program) : Obj := fo n200 n200 (st p 78) .none (.str n190 1078) (.ref 664)
noncomputable def o666 : Obj := tp []
noncomputable def o667 : Obj := fl .none []
noncomputable def o668 : Obj := tp [(.str n28 1176), (.str n201 1177), (.str n202 1178)]
noncomputable def o669 : Obj := tp []
noncomputable def o670 (p : Program) : Obj := fr n203 n203 (st p 79)
noncomputable def o671 : Obj := co n203 1173 n203 1174 n1 1175 490 2 0 0 3 666 true 181 667 (.ref 668) (.ref 669) (.ref 670) 1179 490 n1 1180
noncomputable def o672 (p : Program) : Obj := fo n203 n203 (st p 79) .none (.str n190 1078) (.ref 671)
noncomputable def o673 : Obj := tp []
noncomputable def o674 : Obj := fl .none []
noncomputable def o675 : Obj := tp [(.str n37 1185), (.str n124 1186), (.str n38 1187), (.str n74 1188), (.str n204 1189), (.str n202 1190)]
noncomputable def o676 : Obj := tp []
noncomputable def o677 (p : Program) : Obj := fr n205 n205 (st p 80)
noncomputable def o678 : Obj := co n205 1182 n205 1183 n1 1184 498 3 0 0 3 673 true 181 674 (.ref 675) (.ref 676) (.ref 677) 1191 498 n1 1192
noncomputable def o679 (p : Program) : Obj := fo n205 n205 (st p 80) .none (.str n190 1078) (.ref 678)
noncomputable def o680 : Obj := tp []
noncomputable def o681 : Obj := fl .none []
noncomputable def o682 : Obj := tp [(.str n37 1199), (.str n14 1200), (.str n124 1201), (.str n38 1202)]
noncomputable def o683 : Obj := tp []
noncomputable def o684 (p : Program) : Obj := fr n206 n206 (st p 82)
noncomputable def o685 : Obj := co n206 1196 n206 1197 n1 1198 507 4 0 0 3 680 true 181 681 (.ref 682) (.ref 683) (.ref 684) 1203 507 n1 1204
noncomputable def o686 (p : Program) : Obj := fo n206 n206 (st p 82) .none (.str n207 1194) (.ref 685)
noncomputable def o687 : Obj := tp []
noncomputable def o688 : Obj := fl .none []
noncomputable def o689 : Obj := tp [(.str n37 1209), (.str n38 1210), (.str n124 1211), (.str n48 1212)]
noncomputable def o690 : Obj := tp []
noncomputable def o691 (p : Program) : Obj := fr n208 n208 (st p 83)
noncomputable def o692 : Obj := co n208 1206 n208 1207 n1 1208 519 2 0 0 3 687 true 181 688 (.ref 689) (.ref 690) (.ref 691) 1213 519 n1 1214
noncomputable def o693 (p : Program) : Obj := fo n208 n208 (st p 83) .none (.str n207 1194) (.ref 692)
noncomputable def o694 : Obj := tp []
noncomputable def o695 : Obj := fl .none []
noncomputable def o696 : Obj := tp [(.str n37 1219), (.str n84 1220), (.str n38 1221), (.str n48 1222)]
noncomputable def o697 : Obj := tp []
noncomputable def o698 (p : Program) : Obj := fr n209 n209 (st p 84)
noncomputable def o699 : Obj := co n209 1216 n209 1217 n1 1218 525 1 0 0 3 694 true 181 695 (.ref 696) (.ref 697) (.ref 698) 1223 525 n1 1224
noncomputable def o700 (p : Program) : Obj := fo n209 n209 (st p 84) .none (.str n207 1194) (.ref 699)
noncomputable def o701 : Obj := tp []
noncomputable def o702 : Obj := fl .none []
noncomputable def o703 : Obj := tp [(.str n37 1229), (.str n84 1230), (.str n38 1231)]
noncomputable def o704 : Obj := tp []
noncomputable def o705 (p : Program) : Obj := fr n210 n210 (st p 85)
noncomputable def o706 : Obj := co n210 1226 n210 1227 n1 1228 536 1 0 0 3 701 true 181 702 (.ref 703) (.ref 704) (.ref 705) 1232 536 n1 1233
noncomputable def o707 (p : Program) : Obj := fo n210 n210 (st p 85) .none (.str n207 1194) (.ref 706)
noncomputable def o708 : Obj := tp []
noncomputable def o709 : Obj := fl .none []
noncomputable def o710 : Obj := tp [(.str n24 1238), (.str n25 1239), (.str n26 1240), (.str n32 1241), (.str n28 1242), (.str n37 1243)]
noncomputable def o711 : Obj := tp []
noncomputable def o712 (p : Program) : Obj := fr n211 n211 (st p 86)
noncomputable def o713 : Obj := co n211 1235 n211 1236 n1 1237 542 5 0 0 3 708 true 181 709 (.ref 710) (.ref 711) (.ref 712) 1244 542 n1 1245
noncomputable def o714 (p : Program) : Obj := fo n211 n211 (st p 86) .none (.str n207 1194) (.ref 713)
noncomputable def o715 : Obj := tp []
noncomputable def o716 : Obj := fl (.type "builtin_function_or_method") [(.builtin "type.__prepare__"), (.type "type")]
noncomputable def o717 (P : Params) : Obj := dc [en P n5 1256 (.str n212 1247), en P n7 1258 (.str n213 1257), en P n9 1260 (.int 548 1259), en P n10 1268 (.ref 728), en P n214 1276 (.ref 735), en P n215 1284 (.ref 742), en P n84 1293 (.ref 749), en P n11 1299 (.ref 754), en P n12 1301 (.ref 755)] 9
noncomputable def o718 : Obj := tp []
noncomputable def o719 : Obj := fl .none [(.int 550 0), (.int 4 0), (.ref 727), (.int 553 0), (.int 4 0), (.ref 734), (.int 556 0), (.int 4 0), (.ref 741), (.int 559 0), (.int 4 0), (.ref 748), (.int 565 0), (.int 4 0), (.ref 753)]
noncomputable def o720 : Obj := co n213 1251 n213 1252 n1 1253 548 0 0 0 0 718 false 181 719 .none .none .none 1254 548 n1 1255
noncomputable def o721 : Obj := ⟨(.type "frame"), none, .plain, Array.mk [(some (.ref 720)), (some (.ref 3)), (some (.ref 717)), none, (some (.str n212 1247)), none, (some (.ref 0))]⟩
noncomputable def o722 : Obj := tp []
noncomputable def o723 : Obj := fl .none []
noncomputable def o724 : Obj := tp [(.str n13 1264), (.str n156 1265)]
noncomputable def o725 : Obj := tp []
noncomputable def o726 (p : Program) : Obj := fr n10 n216 (me p 88 0)
noncomputable def o727 : Obj := co n10 1261 n216 1262 n1 1263 550 2 0 0 3 722 true 181 723 (.ref 724) (.ref 725) (.ref 726) 1266 550 n1 1267
noncomputable def o728 (p : Program) : Obj := fo n10 n216 (me p 88 0) .none (.str n212 1247) (.ref 727)
noncomputable def o729 : Obj := tp []
noncomputable def o730 : Obj := fl .none []
noncomputable def o731 : Obj := tp [(.str n13 1272), (.str n34 1273)]
noncomputable def o732 : Obj := tp []
noncomputable def o733 (p : Program) : Obj := fr n214 n217 (me p 88 1)
noncomputable def o734 : Obj := co n214 1269 n217 1270 n1 1271 553 2 0 0 3 729 true 181 730 (.ref 731) (.ref 732) (.ref 733) 1274 553 n1 1275
noncomputable def o735 (p : Program) : Obj := fo n214 n217 (me p 88 1) .none (.str n212 1247) (.ref 734)
noncomputable def o736 : Obj := tp []
noncomputable def o737 : Obj := fl .none []
noncomputable def o738 : Obj := tp [(.str n13 1280), (.str n32 1281)]
noncomputable def o739 : Obj := tp []
noncomputable def o740 (p : Program) : Obj := fr n215 n218 (me p 88 2)
noncomputable def o741 : Obj := co n215 1277 n218 1278 n1 1279 556 2 0 0 3 736 true 181 737 (.ref 738) (.ref 739) (.ref 740) 1282 556 n1 1283
noncomputable def o742 (p : Program) : Obj := fo n215 n218 (me p 88 2) .none (.str n212 1247) (.ref 741)
noncomputable def o743 : Obj := tp []
noncomputable def o744 : Obj := fl .none []
noncomputable def o745 : Obj := tp [(.str n13 1288), (.str n219 1289), (.str n34 1290)]
noncomputable def o746 : Obj := tp []
noncomputable def o747 (p : Program) : Obj := fr n84 n220 (me p 88 3)
noncomputable def o748 : Obj := co n84 1285 n220 1286 n1 1287 559 1 0 0 3 743 true 181 744 (.ref 745) (.ref 746) (.ref 747) 1291 559 n1 1292
noncomputable def o749 (p : Program) : Obj := fo n84 n220 (me p 88 3) .none (.str n212 1247) (.ref 748)
noncomputable def o750 : Obj := tp []
noncomputable def o751 : Obj := fl .none []
noncomputable def o752 (p : Program) : Obj := fr n11 n221 (me p 88 4)
noncomputable def o753 : Obj := co n11 1294 n221 1295 n1 1296 565 1 0 0 3 750 true 181 751 .none .none (.ref 752) 1297 565 n1 1298
noncomputable def o754 (p : Program) : Obj := fo n11 n221 (me p 88 4) .none (.str n212 1247) (.ref 753)
noncomputable def o755 : Obj := tp [(.str n156 1300)]
noncomputable def o756 (P : Params) : Obj := dc [en P n5 1256 (.str n212 1247), en P n9 1260 (.int 548 1259), en P n10 1268 (.ref 728), en P n214 1276 (.ref 735), en P n215 1284 (.ref 742), en P n84 1293 (.ref 749), en P n11 1299 (.ref 754), en P n12 1301 (.ref 755), en P n20 1303 (.ref 758), en P n21 1305 (.ref 759), en P n22 1306 .none] 4
noncomputable def o757 : Obj := ⟨(.type "type"), none, (.cls { name := n213, bases := [(.type "object")], mro := [(.ref 757), (.type "object")], ns := 756, qualname := n213, hasDict := true, slotNames := [], subclasses := [], abstract := false, collection := none, hasDel := false }), Array.mk [none, none, (some (.str n213 1249)), (some (.str n213 1257)), (some (.builtin "object.__new__")), (some (.bool true))]⟩
noncomputable def o758 : Obj := fl (.type "getset_descriptor") [(.str n20 1302), (.ref 757), (.builtin "function.__dict__"), (.builtin "function.__dict__#set")]
noncomputable def o759 : Obj := fl (.type "getset_descriptor") [(.str n21 1304), (.ref 757), (.builtin "ExceptionGroup.__weakref__"), .none]
noncomputable def o760 : Obj := fl (.type "super") [(.ref 757), (.ref 757), (.ref 757)]
noncomputable def o761 : Obj := fl (.type "builtin_function_or_method") [(.builtin "object.__init_subclass__"), (.ref 757)]
noncomputable def o762 : Obj := tp []
noncomputable def o763 : Obj := fl (.type "builtin_function_or_method") [(.builtin "type.__prepare__"), (.type "type")]
noncomputable def o764 (P : Params) : Obj := dc [en P n5 1324 (.str n222 1309), en P n7 1326 (.str n223 1325), en P n9 1328 (.int 571 1327), en P n10 1340 (.ref 776), en P n224 1349 (.ref 783), en P n225 1357 (.ref 790), en P n226 1366 (.ref 797), en P n11 1372 (.ref 802), en P n12 1378 (.ref 803)] 9
noncomputable def o765 : Obj := tp []
noncomputable def o766 : Obj := fl .none [(.int 573 0), (.int 4 0), (.ref 775), (.int 580 0), (.int 4 0), (.ref 782), (.int 584 0), (.int 4 0), (.ref 789), (.int 587 0), (.int 4 0), (.ref 796), (.int 590 0), (.int 4 0), (.ref 801)]
noncomputable def o767 : Obj := co n223 1319 n223 1320 n1 1321 571 0 0 0 0 765 false 181 766 .none .none .none 1322 571 n1 1323
noncomputable def o768 : Obj := ⟨(.type "frame"), none, .plain, Array.mk [(some (.ref 767)), (some (.ref 3)), (some (.ref 764)), none, (some (.str n222 1309)), none, (some (.ref 0))]⟩
noncomputable def o769 : Obj := tp [.none, .none]
noncomputable def o770 : Obj := tp []
noncomputable def o771 : Obj := fl .none []
noncomputable def o772 : Obj := tp [(.str n13 1332), (.str n156 1333), (.str n227 1334), (.str n154 1335), (.str n228 1336), (.str n229 1337)]
noncomputable def o773 : Obj := tp []
noncomputable def o774 (p : Program) : Obj := fr n10 n230 (me p 93 0)
noncomputable def o775 : Obj := co n10 1329 n230 1330 n1 1331 573 6 0 0 3 770 true 181 771 (.ref 772) (.ref 773) (.ref 774) 1338 573 n1 1339
noncomputable def o776 (p : Program) : Obj := fo n10 n230 (me p 93 0) (.ref 769) (.str n222 1309) (.ref 775)
noncomputable def o777 : Obj := tp []
noncomputable def o778 : Obj := fl .none []
noncomputable def o779 : Obj := tp [(.str n13 1344), (.str n34 1345), (.str n32 1346)]
noncomputable def o780 : Obj := tp []
noncomputable def o781 (p : Program) : Obj := fr n224 n231 (me p 93 1)
noncomputable def o782 : Obj := co n224 1341 n231 1342 n1 1343 580 2 0 0 3 777 true 181 778 (.ref 779) (.ref 780) (.ref 781) 1347 580 n1 1348
noncomputable def o783 (p : Program) : Obj := fo n224 n231 (me p 93 1) .none (.str n222 1309) (.ref 782)
noncomputable def o784 : Obj := tp []
noncomputable def o785 : Obj := fl .none []
noncomputable def o786 : Obj := tp [(.str n13 1353), (.str n34 1354)]
noncomputable def o787 : Obj := tp []
noncomputable def o788 (p : Program) : Obj := fr n225 n232 (me p 93 2)
noncomputable def o789 : Obj := co n225 1350 n232 1351 n1 1352 584 2 0 0 3 784 true 181 785 (.ref 786) (.ref 787) (.ref 788) 1355 584 n1 1356
noncomputable def o790 (p : Program) : Obj := fo n225 n232 (me p 93 2) .none (.str n222 1309) (.ref 789)
noncomputable def o791 : Obj := tp []
noncomputable def o792 : Obj := fl .none []
noncomputable def o793 : Obj := tp [(.str n13 1361), (.str n32 1362), (.str n34 1363)]
noncomputable def o794 : Obj := tp []
noncomputable def o795 (p : Program) : Obj := fr n226 n233 (me p 93 3)
noncomputable def o796 : Obj := co n226 1358 n233 1359 n1 1360 587 3 0 0 3 791 true 181 792 (.ref 793) (.ref 794) (.ref 795) 1364 587 n1 1365
noncomputable def o797 (p : Program) : Obj := fo n226 n233 (me p 93 3) .none (.str n222 1309) (.ref 796)
noncomputable def o798 : Obj := tp []
noncomputable def o799 : Obj := fl .none []
noncomputable def o800 (p : Program) : Obj := fr n11 n234 (me p 93 4)
noncomputable def o801 : Obj := co n11 1367 n234 1368 n1 1369 590 1 0 0 3 798 true 181 799 .none .none (.ref 800) 1370 590 n1 1371
noncomputable def o802 (p : Program) : Obj := fo n11 n234 (me p 93 4) .none (.str n222 1309) (.ref 801)
noncomputable def o803 : Obj := tp [(.str n227 1373), (.str n229 1374), (.str n156 1375), (.str n228 1376), (.str n154 1377)]
noncomputable def o804 (P : Params) : Obj := dc [en P n5 1324 (.str n222 1309), en P n9 1328 (.int 571 1327), en P n10 1340 (.ref 776), en P n224 1349 (.ref 783), en P n225 1357 (.ref 790), en P n226 1366 (.ref 797), en P n11 1372 (.ref 802), en P n12 1378 (.ref 803), en P n20 1380 (.ref 806), en P n21 1382 (.ref 807), en P n22 1383 .none] 4
noncomputable def o805 : Obj := ⟨(.type "type"), none, (.cls { name := n223, bases := [(.type "object")], mro := [(.ref 805), (.type "object")], ns := 804, qualname := n223, hasDict := true, slotNames := [], subclasses := [], abstract := false, collection := none, hasDel := false }), Array.mk [none, none, (some (.str n223 1317)), (some (.str n223 1325)), (some (.builtin "object.__new__")), (some (.bool true))]⟩
noncomputable def o806 : Obj := fl (.type "getset_descriptor") [(.str n20 1379), (.ref 805), (.builtin "function.__dict__"), (.builtin "function.__dict__#set")]
noncomputable def o807 : Obj := fl (.type "getset_descriptor") [(.str n21 1381), (.ref 805), (.builtin "ExceptionGroup.__weakref__"), .none]
noncomputable def o808 : Obj := fl (.type "super") [(.ref 805), (.ref 805), (.ref 805)]
noncomputable def o809 : Obj := fl (.type "builtin_function_or_method") [(.builtin "object.__init_subclass__"), (.ref 805)]
noncomputable def o810 : Obj := tp []
noncomputable def o811 : Obj := fl .none []
noncomputable def o812 : Obj := tp []
noncomputable def o813 : Obj := tp []
noncomputable def o814 (p : Program) : Obj := fr n235 n235 (st p 95)
noncomputable def o815 : Obj := co n235 1388 n235 1389 n1 1390 595 0 0 0 3 810 true 181 811 (.ref 812) (.ref 813) (.ref 814) 1391 595 n1 1392
noncomputable def o816 (p : Program) : Obj := fo n235 n235 (st p 95) .none (.str n236 1386) (.ref 815)
noncomputable def o817 : Obj := tp [(.int 0 1394), (.int 2 1395), (.int 8 1396)]
noncomputable def o818 : Obj := tp []
noncomputable def o819 : Obj := fl .none []
noncomputable def o820 : Obj := tp [(.str n237 1401), (.str n238 1402)]
noncomputable def o821 : Obj := tp [(.str n239 1403), (.str n240 1404)]
noncomputable def o822 (p : Program) : Obj := fr n241 n241 (st p 97)
noncomputable def o823 : Obj := co n241 1398 n241 1399 n1 1400 598 1 0 0 3 818 true 181 819 (.ref 820) (.ref 821) (.ref 822) 1405 598 n1 1406
noncomputable def o824 (p : Program) : Obj := fo n241 n241 (st p 97) .none (.str n236 1386) (.ref 823)
noncomputable def o825 : Obj := tp []
noncomputable def o826 : Obj := fl .none []
noncomputable def o827 (p : Program) : Obj := fr n242 n242 (st p 98)
noncomputable def o828 : Obj := co n242 1408 n242 1409 n1 1410 610 2 0 0 3 825 true 181 826 .none .none (.ref 827) 1411 610 n1 1412
noncomputable def o829 (p : Program) : Obj := fo n242 n242 (st p 98) .none (.str n236 1386) (.ref 828)
noncomputable def o830 : Obj := tp []
noncomputable def o831 : Obj := fl .none []
noncomputable def o832 : Obj := tp [(.str n15 1417), (.str n34 1418)]
noncomputable def o833 : Obj := tp []
noncomputable def o834 (p : Program) : Obj := fr n243 n243 (st p 99)
noncomputable def o835 : Obj := co n243 1414 n243 1415 n1 1416 616 2 0 0 3 830 true 181 831 (.ref 832) (.ref 833) (.ref 834) 1419 616 n1 1420
noncomputable def o836 (p : Program) : Obj := fo n243 n243 (st p 99) .none (.str n236 1386) (.ref 835)
noncomputable def o837 : Obj := tp []
noncomputable def o838 : Obj := fl .none []
noncomputable def o839 (p : Program) : Obj := fr n244 n244 (st p 100)
noncomputable def o840 : Obj := co n244 1422 n244 1423 n1 1424 618 1 0 0 3 837 true 181 838 .none .none (.ref 839) 1425 618 n1 1426
noncomputable def o841 (p : Program) : Obj := fo n244 n244 (st p 100) .none (.str n236 1386) (.ref 840)
noncomputable def gRest (P : Params) : List DictEntry := [en P n22 166 .none, en P n246 167 .none, en P n247 168 (.builtin "__main__.__loader__#opaque"), en P n248 169 .none, en P n249 170 (.ref 6), en P n250 171 (.ref 4), en P n251 173 (.str n1 172), en P n252 174 .none, en P n4 193 (.ref 21), en P n253 197 (.int (2) 196), en P n254 199 (.int (4) 198), en P n255 201 (.int (8) 200), en P n256 203 (.int (16) 202), en P n8 244 (.ref 43), en P n23 284 (.ref 65), en P n31 291 (.ref 76), en P n33 298 (.ref 83), en P n36 309 (.ref 90), en P n39 317 (.ref 97), en P n40 325 (.ref 104), en P n41 333 (.ref 111), en P n43 395 (.ref 142), en P n61 452 (.ref 186), en P n75 460 (.ref 197), en P n80 471 (.ref 204), en P n81 477 (.ref 209), en P n82 483 (.ref 214), en P n83 489 (.ref 219), en P n85 503 (.ref 226), en P n257 508 (.ref 227), en P n258 512 (.ref 228), en P n89 518 (.ref 233), en P n91 524 (.ref 238), en P n93 532 (.ref 245), en P n94 540 (.ref 252), en P n99 554 (.ref 259), en P n101 566 (.ref 266), en P n102 578 (.ref 273), en P n103 587 (.ref 280), en P n104 596 (.ref 287), en P n105 603 (.ref 294), en P n108 614 (.ref 301), en P n259 618 (.int (1) 617), en P n260 620 (.int (3) 619), en P n109 627 (.ref 308), en P n111 633 (.ref 313), en P n114 644 (.ref 320), en P n117 657 (.ref 327), en P n122 673 (.ref 334), en P n123 679 (.ref 339), en P n127 693 (.ref 346), en P n129 750 (.ref 384), en P n139 759 (.ref 395), en P n261 763 (.int (1) 762), en P n262 765 (.int (2) 764), en P n141 814 (.ref 426), en P n149 874 (.ref 467), en P n163 880 (.ref 476), en P n164 886 (.ref 481), en P n166 898 (.ref 488), en P n167 904 (.ref 493), en P n263 908 (.int (6) 907), en P n264 910 (.int (64) 909), en P n169 941 (.ref 510), en P n171 957 (.ref 521), en P n172 965 (.ref 528), en P n173 971 (.ref 533), en P n174 977 (.ref 538), en P n176 986 (.ref 545), en P n181 1001 (.ref 552), en P n182 1012 (.ref 559), en P n183 1024 (.ref 566), en P n185 1065 (.ref 588), en P n189 1077 (.ref 599), en P n191 1114 (.ref 621), en P n194 1149 (.ref 647), en P n197 1159 (.ref 658), en P n200 1172 (.ref 665), en P n203 1181 (.ref 672), en P n205 1193 (.ref 679), en P n206 1205 (.ref 686), en P n208 1215 (.ref 693), en P n209 1225 (.ref 700), en P n210 1234 (.ref 707), en P n211 1246 (.ref 714), en P n213 1308 (.ref 757), en P n265 1312 (.int (0) 1311), en P n266 1314 (.int (1) 1313), en P n267 1316 (.int (4) 1315), en P n223 1385 (.ref 805), en P n235 1393 (.ref 816), en P n268 1397 (.ref 817), en P n241 1407 (.ref 824), en P n242 1413 (.ref 829), en P n243 1421 (.ref 836), en P n244 1427 (.ref 841)]
noncomputable def cAll : List Value := [(.int (1) 0), (.int (0) 0), (.ref 20), (.int (9) 0), (.int (0) 0), (.ref 27), (.int (20) 0), (.int (0) 0), (.ref 53), (.int (29) 0), (.int (0) 0), (.ref 75), (.int (31) 0), (.int (0) 0), (.ref 82), (.int (33) 0), (.int (0) 0), (.ref 89), (.int (43) 0), (.int (0) 0), (.ref 96), (.int (45) 0), (.int (0) 0), (.ref 103), (.int (47) 0), (.int (0) 0), (.ref 110), (.int (52) 0), (.int (0) 0), (.ref 117), (.int (89) 0), (.int (0) 0), (.ref 152), (.int (108) 0), (.int (0) 0), (.ref 196), (.int (112) 0), (.int (0) 0), (.ref 203), (.int (120) 0), (.int (0) 0), (.ref 208), (.int (127) 0), (.int (0) 0), (.ref 213), (.int (135) 0), (.int (0) 0), (.ref 218), (.int (149) 0), (.int (0) 0), (.ref 225), (.int (166) 0), (.int (0) 0), (.ref 232), (.int (168) 0), (.int (0) 0), (.ref 237), (.int (170) 0), (.int (0) 0), (.ref 244), (.int (176) 0), (.int (0) 0), (.ref 251), (.int (178) 0), (.int (0) 0), (.ref 258), (.int (189) 0), (.int (0) 0), (.ref 265), (.int (199) 0), (.int (0) 0), (.ref 272), (.int (206) 0), (.int (0) 0), (.ref 279), (.int (208) 0), (.int (0) 0), (.ref 286), (.int (210) 0), (.int (0) 0), (.ref 293), (.int (212) 0), (.int (0) 0), (.ref 300), (.int (225) 0), (.int (0) 0), (.ref 307), (.int (227) 0), (.int (0) 0), (.ref 312), (.int (231) 0), (.int (0) 0), (.ref 319), (.int (236) 0), (.int (0) 0), (.ref 326), (.int (241) 0), (.int (0) 0), (.ref 333), (.int (253) 0), (.int (0) 0), (.ref 338), (.int (269) 0), (.int (0) 0), (.ref 345), (.int (282) 0), (.int (0) 0), (.ref 352), (.int (305) 0), (.int (0) 0), (.ref 394), (.int (313) 0), (.int (0) 0), (.ref 401), (.int (326) 0), (.int (0) 0), (.ref 436), (.int (350) 0), (.int (0) 0), (.ref 475), (.int (352) 0), (.int (0) 0), (.ref 480), (.int (356) 0), (.int (0) 0), (.ref 487), (.int (360) 0), (.int (0) 0), (.ref 492), (.int (371) 0), (.int (0) 0), (.ref 499), (.int (376) 0), (.int (0) 0), (.ref 520), (.int (386) 0), (.int (0) 0), (.ref 527), (.int (388) 0), (.int (0) 0), (.ref 532), (.int (391) 0), (.int (0) 0), (.ref 537), (.int (394) 0), (.int (0) 0), (.ref 544), (.int (403) 0), (.int (0) 0), (.ref 551), (.int (420) 0), (.int (0) 0), (.ref 558), (.int (425) 0), (.int (0) 0), (.ref 565), (.int (433) 0), (.int (0) 0), (.ref 572), (.int (444) 0), (.int (0) 0), (.ref 598), (.int (456) 0), (.int (0) 0), (.ref 605), (.int (463) 0), (.int (0) 0), (.ref 631), (.int (470) 0), (.int (0) 0), (.ref 657), (.int (476) 0), (.int (0) 0), (.ref 664), (.int (490) 0), (.int (0) 0), (.ref 671), (.int (498) 0), (.int (0) 0), (.ref 678), (.int (507) 0), (.int (0) 0), (.ref 685), (.int (519) 0), (.int (0) 0), (.ref 692), (.int (525) 0), (.int (0) 0), (.ref 699), (.int (536) 0), (.int (0) 0), (.ref 706), (.int (542) 0), (.int (0) 0), (.ref 713), (.int (548) 0), (.int (0) 0), (.ref 720), (.int (571) 0), (.int (0) 0), (.ref 767), (.int (595) 0), (.int (0) 0), (.ref 815), (.int (598) 0), (.int (0) 0), (.ref 823), (.int (610) 0), (.int (0) 0), (.ref 828), (.int (616) 0), (.int (0) 0), (.ref 835), (.int (618) 0), (.int (0) 0), (.ref 840)]
noncomputable def g0 (P : Params) : Obj := dc (en P n245 165 (.str n2 164) :: (gRest P).take 8) 9
noncomputable def c0 : Obj := fl .none (cAll.take 0)
noncomputable def T0 (p : Program) (P : Params) : BT := (.node (boot_o_0 P) (.node (boot_o_1 P) (.node (g0 P) (.node (boot_o_7 P) .nil .nil) (.node o11 .nil .nil)) (.node (boot_o_5 P) (.node (boot_o_9 P) .nil .nil) (.node o13 .nil .nil))) (.node (boot_o_2 P) (.node (boot_o_4 P) (.node (boot_o_8 P) .nil .nil) (.node c0 .nil .nil)) (.node (boot_o_6 P) (.node (boot_o_10 P) .nil .nil) (.node o14 .nil .nil))))
noncomputable def g1 (P : Params) : Obj := dc (en P n245 165 (.str n6 194) :: (gRest P).take 14) 15
noncomputable def c1 : Obj := fl .none (cAll.take 6)
noncomputable def T1 (p : Program) (P : Params) : BT := (.node (boot_o_0 P) (.node (boot_o_1 P) (.node (g1 P) (.node (boot_o_7 P) (.node o15 (.node o31 .nil .nil) (.node o47 .nil .nil)) (.node o23 (.node o39 .nil .nil) .nil)) (.node o11 (.node (o19 p) (.node (o35 p) .nil .nil) .nil) (.node o27 (.node o43 .nil .nil) .nil))) (.node (boot_o_5 P) (.node (boot_o_9 P) (.node o17 (.node (o33 p) .nil .nil) .nil) (.node o25 (.node o41 .nil .nil) .nil)) (.node o13 (.node (o21 p) (.node o37 .nil .nil) .nil) (.node o29 (.node o45 .nil .nil) .nil)))) (.node (boot_o_2 P) (.node (boot_o_4 P) (.node (boot_o_8 P) (.node o16 (.node o32 .nil .nil) .nil) (.node (o24 P) (.node (o40 p) .nil .nil) .nil)) (.node c1 (.node o20 (.node o36 .nil .nil) .nil) (.node o28 (.node o44 .nil .nil) .nil))) (.node (boot_o_6 P) (.node (boot_o_10 P) (.node o18 (.node o34 .nil .nil) .nil) (.node o26 (.node (o42 P) .nil .nil) .nil)) (.node o14 (.node o22 (.node (o38 p) .nil .nil) .nil) (.node o30 (.node o46 .nil .nil) .nil)))))
noncomputable def g2 (P : Params) : Obj := dc (en P n245 165 (.str n6 194) :: (gRest P).take 20) 21
noncomputable def c2 : Obj := fl .none (cAll.take 24)
noncomputable def T2 (p : Program) (P : Params) : BT := (.node (boot_o_0 P) (.node (boot_o_1 P) (.node (g2 P) (.node (boot_o_7 P) (.node o15 (.node o31 (.node o63 .nil .nil) (.node (o95 p) .nil .nil)) (.node o47 (.node o79 .nil .nil) .nil)) (.node o23 (.node o39 (.node o71 .nil .nil) (.node o103 .nil .nil)) (.node o55 (.node o87 .nil .nil) .nil))) (.node o11 (.node (o19 p) (.node (o35 p) (.node o67 .nil .nil) (.node o99 .nil .nil)) (.node o51 (.node (o83 p) .nil .nil) .nil)) (.node o27 (.node o43 (.node o75 .nil .nil) .nil) (.node o59 (.node o91 .nil .nil) .nil)))) (.node (boot_o_5 P) (.node (boot_o_9 P) (.node o17 (.node (o33 p) (.node o65 .nil .nil) (.node (o97 p) .nil .nil)) (.node o49 (.node (o81 p) .nil .nil) .nil)) (.node o25 (.node o41 (.node o73 .nil .nil) .nil) (.node o57 (.node o89 .nil .nil) .nil))) (.node o13 (.node (o21 p) (.node o37 (.node o69 .nil .nil) (.node o101 .nil .nil)) (.node o53 (.node o85 .nil .nil) .nil)) (.node o29 (.node o45 (.node o77 .nil .nil) .nil) (.node o61 (.node o93 .nil .nil) .nil))))) (.node (boot_o_2 P) (.node (boot_o_4 P) (.node (boot_o_8 P) (.node o16 (.node o32 (.node (o64 P) .nil .nil) (.node o96 .nil .nil)) (.node o48 (.node o80 .nil .nil) .nil)) (.node (o24 P) (.node (o40 p) (.node o72 .nil .nil) (.node (o104 p) .nil .nil)) (.node o56 (.node (o88 p) .nil .nil) .nil))) (.node c2 (.node o20 (.node o36 (.node o68 .nil .nil) (.node o100 .nil .nil)) (.node o52 (.node o84 .nil .nil) .nil)) (.node o28 (.node o44 (.node (o76 p) .nil .nil) .nil) (.node (o60 p) (.node o92 .nil .nil) .nil)))) (.node (boot_o_6 P) (.node (boot_o_10 P) (.node o18 (.node o34 (.node o66 .nil .nil) (.node o98 .nil .nil)) (.node (o50 P) (.node o82 .nil .nil) .nil)) (.node o26 (.node (o42 P) (.node (o74 p) .nil .nil) .nil) (.node o58 (.node (o90 p) .nil .nil) .nil))) (.node o14 (.node o22 (.node (o38 p) (.node o70 .nil .nil) (.node (o102 p) .nil .nil)) (.node o54 (.node o86 .nil .nil) .nil)) (.node o30 (.node o46 (.node o78 .nil .nil) .nil) (.node (o62 p) (.node o94 .nil .nil) .nil))))))
noncomputable def g3 (P : Params) : Obj := dc (en P n245 165 (.str n42 334) :: (gRest P).take 22) 23
noncomputable def c3 : Obj := fl .none (cAll.take 30)
noncomputable def T3 (p : Program) (P : Params) : BT := (.node (boot_o_0 P) (.node (boot_o_1 P) (.node (g3 P) (.node (boot_o_7 P) (.node o15 (.node o31 (.node o63 (.node o127 .nil .nil) .nil) (.node (o95 p) .nil .nil)) (.node o47 (.node o79 (.node o143 .nil .nil) .nil) (.node (o111 p) .nil .nil))) (.node o23 (.node o39 (.node o71 (.node o135 .nil .nil) .nil) (.node o103 .nil .nil)) (.node o55 (.node o87 .nil .nil) (.node o119 .nil .nil)))) (.node o11 (.node (o19 p) (.node (o35 p) (.node o67 (.node o131 .nil .nil) .nil) (.node o99 .nil .nil)) (.node o51 (.node (o83 p) .nil .nil) (.node o115 .nil .nil))) (.node o27 (.node o43 (.node o75 (.node (o139 p) .nil .nil) .nil) (.node o107 .nil .nil)) (.node o59 (.node o91 .nil .nil) (.node (o123 p) .nil .nil))))) (.node (boot_o_5 P) (.node (boot_o_9 P) (.node o17 (.node (o33 p) (.node o65 (.node o129 .nil .nil) .nil) (.node (o97 p) .nil .nil)) (.node o49 (.node (o81 p) (.node o145 .nil .nil) .nil) (.node o113 .nil .nil))) (.node o25 (.node o41 (.node o73 (.node (o137 p) .nil .nil) .nil) (.node o105 .nil .nil)) (.node o57 (.node o89 .nil .nil) (.node o121 .nil .nil)))) (.node o13 (.node (o21 p) (.node o37 (.node o69 (.node o133 .nil .nil) .nil) (.node o101 .nil .nil)) (.node o53 (.node o85 .nil .nil) (.node o117 .nil .nil))) (.node o29 (.node o45 (.node o77 (.node (o141 P) .nil .nil) .nil) (.node (o109 p) .nil .nil)) (.node o61 (.node o93 .nil .nil) (.node (o125 p) .nil .nil)))))) (.node (boot_o_2 P) (.node (boot_o_4 P) (.node (boot_o_8 P) (.node o16 (.node o32 (.node (o64 P) (.node o128 .nil .nil) .nil) (.node o96 .nil .nil)) (.node o48 (.node o80 (.node o144 .nil .nil) .nil) (.node o112 .nil .nil))) (.node (o24 P) (.node (o40 p) (.node o72 (.node o136 .nil .nil) .nil) (.node (o104 p) .nil .nil)) (.node o56 (.node (o88 p) .nil .nil) (.node o120 .nil .nil)))) (.node c3 (.node o20 (.node o36 (.node o68 (.node (o132 p) .nil .nil) .nil) (.node o100 .nil .nil)) (.node o52 (.node o84 .nil .nil) (.node o116 .nil .nil))) (.node o28 (.node o44 (.node (o76 p) (.node o140 .nil .nil) .nil) (.node o108 .nil .nil)) (.node (o60 p) (.node o92 .nil .nil) (.node o124 .nil .nil))))) (.node (boot_o_6 P) (.node (boot_o_10 P) (.node o18 (.node o34 (.node o66 (.node (o130 p) .nil .nil) .nil) (.node o98 .nil .nil)) (.node (o50 P) (.node o82 (.node o146 .nil .nil) .nil) (.node (o114 P) .nil .nil))) (.node o26 (.node (o42 P) (.node (o74 p) (.node o138 .nil .nil) .nil) (.node o106 .nil .nil)) (.node o58 (.node (o90 p) .nil .nil) (.node o122 .nil .nil)))) (.node o14 (.node o22 (.node (o38 p) (.node o70 (.node o134 .nil .nil) .nil) (.node (o102 p) .nil .nil)) (.node o54 (.node o86 .nil .nil) (.node o118 .nil .nil))) (.node o30 (.node o46 (.node o78 (.node o142 .nil .nil) .nil) (.node o110 .nil .nil)) (.node (o62 p) (.node o94 .nil .nil) (.node o126 .nil .nil)))))))
noncomputable def g4 (P : Params) : Obj := dc (en P n245 165 (.str n42 334) :: (gRest P).take 24) 25
noncomputable def c4 : Obj := fl .none (cAll.take 36)
noncomputable def T4 (p : Program) (P : Params) : BT := (.node (boot_o_0 P) (.node (boot_o_1 P) (.node (g4 P) (.node (boot_o_7 P) (.node o15 (.node o31 (.node o63 (.node o127 .nil .nil) (.node o191 .nil .nil)) (.node (o95 p) (.node (o159 p) .nil .nil) .nil)) (.node o47 (.node o79 (.node o143 .nil .nil) .nil) (.node (o111 p) (.node o175 .nil .nil) .nil))) (.node o23 (.node o39 (.node o71 (.node o135 .nil .nil) .nil) (.node o103 (.node o167 .nil .nil) .nil)) (.node o55 (.node o87 (.node o151 .nil .nil) .nil) (.node o119 (.node (o183 p) .nil .nil) .nil)))) (.node o11 (.node (o19 p) (.node (o35 p) (.node o67 (.node o131 .nil .nil) (.node (o195 p) .nil .nil)) (.node o99 (.node o163 .nil .nil) .nil)) (.node o51 (.node (o83 p) (.node o147 .nil .nil) .nil) (.node o115 (.node o179 .nil .nil) .nil))) (.node o27 (.node o43 (.node o75 (.node (o139 p) .nil .nil) .nil) (.node o107 (.node (o171 p) .nil .nil) .nil)) (.node o59 (.node o91 (.node o155 .nil .nil) .nil) (.node (o123 p) (.node o187 .nil .nil) .nil))))) (.node (boot_o_5 P) (.node (boot_o_9 P) (.node o17 (.node (o33 p) (.node o65 (.node o129 .nil .nil) (.node o193 .nil .nil)) (.node (o97 p) (.node (o161 p) .nil .nil) .nil)) (.node o49 (.node (o81 p) (.node o145 .nil .nil) .nil) (.node o113 (.node o177 .nil .nil) .nil))) (.node o25 (.node o41 (.node o73 (.node (o137 p) .nil .nil) .nil) (.node o105 (.node (o169 p) .nil .nil) .nil)) (.node o57 (.node o89 (.node o153 .nil .nil) .nil) (.node o121 (.node (o185 P) .nil .nil) .nil)))) (.node o13 (.node (o21 p) (.node o37 (.node o69 (.node o133 .nil .nil) (.node (o197 p) .nil .nil)) (.node o101 (.node o165 .nil .nil) .nil)) (.node o53 (.node o85 (.node (o149 P) .nil .nil) .nil) (.node o117 (.node (o181 p) .nil .nil) .nil))) (.node o29 (.node o45 (.node o77 (.node (o141 P) .nil .nil) .nil) (.node (o109 p) (.node o173 .nil .nil) .nil)) (.node o61 (.node o93 (.node o157 .nil .nil) .nil) (.node (o125 p) (.node o189 .nil .nil) .nil)))))) (.node (boot_o_2 P) (.node (boot_o_4 P) (.node (boot_o_8 P) (.node o16 (.node o32 (.node (o64 P) (.node o128 .nil .nil) (.node o192 .nil .nil)) (.node o96 (.node o160 .nil .nil) .nil)) (.node o48 (.node o80 (.node o144 .nil .nil) .nil) (.node o112 (.node (o176 p) .nil .nil) .nil))) (.node (o24 P) (.node (o40 p) (.node o72 (.node o136 .nil .nil) .nil) (.node (o104 p) (.node o168 .nil .nil) .nil)) (.node o56 (.node (o88 p) (.node o152 .nil .nil) .nil) (.node o120 (.node o184 .nil .nil) .nil)))) (.node c4 (.node o20 (.node o36 (.node o68 (.node (o132 p) .nil .nil) (.node o196 .nil .nil)) (.node o100 (.node (o164 p) .nil .nil) .nil)) (.node o52 (.node o84 (.node o148 .nil .nil) .nil) (.node o116 (.node o180 .nil .nil) .nil))) (.node o28 (.node o44 (.node (o76 p) (.node o140 .nil .nil) .nil) (.node o108 (.node o172 .nil .nil) .nil)) (.node (o60 p) (.node o92 (.node o156 .nil .nil) .nil) (.node o124 (.node o188 .nil .nil) .nil))))) (.node (boot_o_6 P) (.node (boot_o_10 P) (.node o18 (.node o34 (.node o66 (.node (o130 p) .nil .nil) (.node o194 .nil .nil)) (.node o98 (.node o162 .nil .nil) .nil)) (.node (o50 P) (.node o82 (.node o146 .nil .nil) .nil) (.node (o114 P) (.node o178 .nil .nil) .nil))) (.node o26 (.node (o42 P) (.node (o74 p) (.node o138 .nil .nil) .nil) (.node o106 (.node o170 .nil .nil) .nil)) (.node o58 (.node (o90 p) (.node o154 .nil .nil) .nil) (.node o122 (.node o186 .nil .nil) .nil)))) (.node o14 (.node o22 (.node (o38 p) (.node o70 (.node o134 .nil .nil) .nil) (.node (o102 p) (.node (o166 p) .nil .nil) .nil)) (.node o54 (.node o86 (.node o150 .nil .nil) .nil) (.node o118 (.node o182 .nil .nil) .nil))) (.node o30 (.node o46 (.node o78 (.node o142 .nil .nil) .nil) (.node o110 (.node (o174 p) .nil .nil) .nil)) (.node (o62 p) (.node o94 (.node o158 .nil .nil) .nil) (.node o126 (.node o190 .nil .nil) .nil)))))))
noncomputable def g5 (P : Params) : Obj := dc (en P n245 165 (.str n90 504) :: (gRest P).take 38) 39
noncomputable def c5 : Obj := fl .none (cAll.take 72)
noncomputable def T5 (p : Program) (P : Params) : BT := (.node (boot_o_0 P) (.node (boot_o_1 P) (.node (g5 P) (.node (boot_o_7 P) (.node o15 (.node o31 (.node o63 (.node o127 (.node o255 .nil .nil) .nil) (.node o191 .nil .nil)) (.node (o95 p) (.node (o159 p) .nil .nil) (.node o223 .nil .nil))) (.node o47 (.node o79 (.node o143 (.node (o271 p) .nil .nil) .nil) (.node (o207 p) .nil .nil)) (.node (o111 p) (.node o175 .nil .nil) (.node o239 .nil .nil)))) (.node o23 (.node o39 (.node o71 (.node o135 (.node o263 .nil .nil) .nil) (.node o199 .nil .nil)) (.node o103 (.node o167 .nil .nil) (.node (o231 p) .nil .nil))) (.node o55 (.node o87 (.node o151 .nil .nil) (.node o215 .nil .nil)) (.node o119 (.node (o183 p) .nil .nil) (.node o247 .nil .nil))))) (.node o11 (.node (o19 p) (.node (o35 p) (.node o67 (.node o131 (.node (o259 p) .nil .nil) .nil) (.node (o195 p) .nil .nil)) (.node o99 (.node o163 .nil .nil) (.node o227 .nil .nil))) (.node o51 (.node (o83 p) (.node o147 .nil .nil) (.node o211 .nil .nil)) (.node o115 (.node o179 .nil .nil) (.node (o243 p) .nil .nil)))) (.node o27 (.node o43 (.node o75 (.node (o139 p) (.node o267 .nil .nil) .nil) (.node o203 .nil .nil)) (.node o107 (.node (o171 p) .nil .nil) (.node o235 .nil .nil))) (.node o59 (.node o91 (.node o155 .nil .nil) (.node (o219 p) .nil .nil)) (.node (o123 p) (.node o187 .nil .nil) (.node o251 .nil .nil)))))) (.node (boot_o_5 P) (.node (boot_o_9 P) (.node o17 (.node (o33 p) (.node o65 (.node o129 (.node (o257 p) .nil .nil) .nil) (.node o193 .nil .nil)) (.node (o97 p) (.node (o161 p) .nil .nil) (.node o225 .nil .nil))) (.node o49 (.node (o81 p) (.node o145 (.node (o273 p) .nil .nil) .nil) (.node (o209 p) .nil .nil)) (.node o113 (.node o177 .nil .nil) (.node o241 .nil .nil)))) (.node o25 (.node o41 (.node o73 (.node (o137 p) (.node o265 .nil .nil) .nil) (.node o201 .nil .nil)) (.node o105 (.node (o169 p) .nil .nil) (.node (o233 p) .nil .nil))) (.node o57 (.node o89 (.node o153 .nil .nil) (.node (o217 p) .nil .nil)) (.node o121 (.node (o185 P) .nil .nil) (.node o249 .nil .nil))))) (.node o13 (.node (o21 p) (.node o37 (.node o69 (.node o133 (.node o261 .nil .nil) .nil) (.node (o197 p) .nil .nil)) (.node o101 (.node o165 .nil .nil) (.node o229 .nil .nil))) (.node o53 (.node o85 (.node (o149 P) .nil .nil) (.node o213 .nil .nil)) (.node o117 (.node (o181 p) .nil .nil) (.node (o245 p) .nil .nil)))) (.node o29 (.node o45 (.node o77 (.node (o141 P) (.node o269 .nil .nil) .nil) (.node o205 .nil .nil)) (.node (o109 p) (.node o173 .nil .nil) (.node o237 .nil .nil))) (.node o61 (.node o93 (.node o157 .nil .nil) (.node o221 .nil .nil)) (.node (o125 p) (.node o189 .nil .nil) (.node o253 .nil .nil))))))) (.node (boot_o_2 P) (.node (boot_o_4 P) (.node (boot_o_8 P) (.node o16 (.node o32 (.node (o64 P) (.node o128 (.node o256 .nil .nil) .nil) (.node o192 .nil .nil)) (.node o96 (.node o160 .nil .nil) (.node (o224 p) .nil .nil))) (.node o48 (.node o80 (.node o144 (.node o272 .nil .nil) .nil) (.node o208 .nil .nil)) (.node o112 (.node (o176 p) .nil .nil) (.node o240 .nil .nil)))) (.node (o24 P) (.node (o40 p) (.node o72 (.node o136 (.node (o264 p) .nil .nil) .nil) (.node o200 .nil .nil)) (.node (o104 p) (.node o168 .nil .nil) (.node o232 .nil .nil))) (.node o56 (.node (o88 p) (.node o152 .nil .nil) (.node o216 .nil .nil)) (.node o120 (.node o184 .nil .nil) (.node o248 .nil .nil))))) (.node c5 (.node o20 (.node o36 (.node o68 (.node (o132 p) (.node o260 .nil .nil) .nil) (.node o196 .nil .nil)) (.node o100 (.node (o164 p) .nil .nil) (.node o228 .nil .nil))) (.node o52 (.node o84 (.node o148 .nil .nil) (.node (o212 p) .nil .nil)) (.node o116 (.node o180 .nil .nil) (.node o244 .nil .nil)))) (.node o28 (.node o44 (.node (o76 p) (.node o140 (.node o268 .nil .nil) .nil) (.node (o204 p) .nil .nil)) (.node o108 (.node o172 .nil .nil) (.node (o236 p) .nil .nil))) (.node (o60 p) (.node o92 (.node o156 .nil .nil) (.node o220 .nil .nil)) (.node o124 (.node o188 .nil .nil) (.node (o252 p) .nil .nil)))))) (.node (boot_o_6 P) (.node (boot_o_10 P) (.node o18 (.node o34 (.node o66 (.node (o130 p) (.node o258 .nil .nil) .nil) (.node o194 .nil .nil)) (.node o98 (.node o162 .nil .nil) (.node (o226 p) .nil .nil))) (.node (o50 P) (.node o82 (.node o146 .nil .nil) (.node o210 .nil .nil)) (.node (o114 P) (.node o178 .nil .nil) (.node o242 .nil .nil)))) (.node o26 (.node (o42 P) (.node (o74 p) (.node o138 (.node (o266 p) .nil .nil) .nil) (.node (o202 p) .nil .nil)) (.node o106 (.node o170 .nil .nil) (.node o234 .nil .nil))) (.node o58 (.node (o90 p) (.node o154 .nil .nil) (.node o218 .nil .nil)) (.node o122 (.node o186 .nil .nil) (.node (o250 p) .nil .nil))))) (.node o14 (.node o22 (.node (o38 p) (.node o70 (.node o134 (.node o262 .nil .nil) .nil) (.node o198 .nil .nil)) (.node (o102 p) (.node (o166 p) .nil .nil) (.node o230 .nil .nil))) (.node o54 (.node o86 (.node o150 .nil .nil) (.node (o214 p) .nil .nil)) (.node o118 (.node o182 .nil .nil) (.node o246 .nil .nil)))) (.node o30 (.node o46 (.node o78 (.node o142 (.node o270 .nil .nil) .nil) (.node o206 .nil .nil)) (.node o110 (.node (o174 p) .nil .nil) (.node (o238 p) .nil .nil))) (.node (o62 p) (.node o94 (.node o158 .nil .nil) (.node o222 .nil .nil)) (.node o126 (.node o190 .nil .nil) (.node o254 .nil .nil))))))))
noncomputable def g6 (P : Params) : Obj := dc (en P n245 165 (.str n128 694) :: (gRest P).take 51) 52
noncomputable def c6 : Obj := fl .none (cAll.take 105)
noncomputable def T6 (p : Program) (P : Params) : BT := (.node (boot_o_0 P) (.node (boot_o_1 P) (.node (g6 P) (.node (boot_o_7 P) (.node o15 (.node o31 (.node o63 (.node o127 (.node o255 .nil .nil) .nil) (.node o191 (.node o319 .nil .nil) .nil)) (.node (o95 p) (.node (o159 p) (.node (o287 p) .nil .nil) .nil) (.node o223 .nil .nil))) (.node o47 (.node o79 (.node o143 (.node (o271 p) .nil .nil) .nil) (.node (o207 p) (.node o335 .nil .nil) .nil)) (.node (o111 p) (.node o175 (.node o303 .nil .nil) .nil) (.node o239 .nil .nil)))) (.node o23 (.node o39 (.node o71 (.node o135 (.node o263 .nil .nil) .nil) (.node o199 (.node (o327 p) .nil .nil) .nil)) (.node o103 (.node o167 (.node o295 .nil .nil) .nil) (.node (o231 p) .nil .nil))) (.node o55 (.node o87 (.node o151 (.node o279 .nil .nil) .nil) (.node o215 (.node o343 .nil .nil) .nil)) (.node o119 (.node (o183 p) (.node (o311 p) .nil .nil) .nil) (.node o247 .nil .nil))))) (.node o11 (.node (o19 p) (.node (o35 p) (.node o67 (.node o131 (.node (o259 p) .nil .nil) .nil) (.node (o195 p) (.node o323 .nil .nil) .nil)) (.node o99 (.node o163 (.node o291 .nil .nil) .nil) (.node o227 .nil .nil))) (.node o51 (.node (o83 p) (.node o147 (.node o275 .nil .nil) .nil) (.node o211 (.node (o339 p) .nil .nil) .nil)) (.node o115 (.node o179 (.node o307 .nil .nil) .nil) (.node (o243 p) .nil .nil)))) (.node o27 (.node o43 (.node o75 (.node (o139 p) (.node o267 .nil .nil) .nil) (.node o203 (.node o331 .nil .nil) .nil)) (.node o107 (.node (o171 p) (.node (o299 p) .nil .nil) .nil) (.node o235 .nil .nil))) (.node o59 (.node o91 (.node o155 (.node o283 .nil .nil) .nil) (.node (o219 p) .nil .nil)) (.node (o123 p) (.node o187 (.node o315 .nil .nil) .nil) (.node o251 .nil .nil)))))) (.node (boot_o_5 P) (.node (boot_o_9 P) (.node o17 (.node (o33 p) (.node o65 (.node o129 (.node (o257 p) .nil .nil) .nil) (.node o193 (.node o321 .nil .nil) .nil)) (.node (o97 p) (.node (o161 p) (.node o289 .nil .nil) .nil) (.node o225 .nil .nil))) (.node o49 (.node (o81 p) (.node o145 (.node (o273 p) .nil .nil) .nil) (.node (o209 p) (.node (o337 p) .nil .nil) .nil)) (.node o113 (.node o177 (.node o305 .nil .nil) .nil) (.node o241 .nil .nil)))) (.node o25 (.node o41 (.node o73 (.node (o137 p) (.node o265 .nil .nil) .nil) (.node o201 (.node o329 .nil .nil) .nil)) (.node o105 (.node (o169 p) (.node o297 .nil .nil) .nil) (.node (o233 p) .nil .nil))) (.node o57 (.node o89 (.node o153 (.node o281 .nil .nil) .nil) (.node (o217 p) (.node o345 .nil .nil) .nil)) (.node o121 (.node (o185 P) (.node (o313 p) .nil .nil) .nil) (.node o249 .nil .nil))))) (.node o13 (.node (o21 p) (.node o37 (.node o69 (.node o133 (.node o261 .nil .nil) .nil) (.node (o197 p) (.node (o325 p) .nil .nil) .nil)) (.node o101 (.node o165 (.node o293 .nil .nil) .nil) (.node o229 .nil .nil))) (.node o53 (.node o85 (.node (o149 P) (.node o277 .nil .nil) .nil) (.node o213 (.node o341 .nil .nil) .nil)) (.node o117 (.node (o181 p) (.node o309 .nil .nil) .nil) (.node (o245 p) .nil .nil)))) (.node o29 (.node o45 (.node o77 (.node (o141 P) (.node o269 .nil .nil) .nil) (.node o205 (.node o333 .nil .nil) .nil)) (.node (o109 p) (.node o173 (.node (o301 p) .nil .nil) .nil) (.node o237 .nil .nil))) (.node o61 (.node o93 (.node o157 (.node (o285 p) .nil .nil) .nil) (.node o221 .nil .nil)) (.node (o125 p) (.node o189 (.node o317 .nil .nil) .nil) (.node o253 .nil .nil))))))) (.node (boot_o_2 P) (.node (boot_o_4 P) (.node (boot_o_8 P) (.node o16 (.node o32 (.node (o64 P) (.node o128 (.node o256 .nil .nil) .nil) (.node o192 (.node (o320 p) .nil .nil) .nil)) (.node o96 (.node o160 (.node o288 .nil .nil) .nil) (.node (o224 p) .nil .nil))) (.node o48 (.node o80 (.node o144 (.node o272 .nil .nil) .nil) (.node o208 (.node o336 .nil .nil) .nil)) (.node o112 (.node (o176 p) (.node o304 .nil .nil) .nil) (.node o240 .nil .nil)))) (.node (o24 P) (.node (o40 p) (.node o72 (.node o136 (.node (o264 p) .nil .nil) .nil) (.node o200 (.node o328 .nil .nil) .nil)) (.node (o104 p) (.node o168 (.node o296 .nil .nil) .nil) (.node o232 .nil .nil))) (.node o56 (.node (o88 p) (.node o152 (.node (o280 p) .nil .nil) .nil) (.node o216 (.node (o344 p) .nil .nil) .nil)) (.node o120 (.node o184 (.node o312 .nil .nil) .nil) (.node o248 .nil .nil))))) (.node c6 (.node o20 (.node o36 (.node o68 (.node (o132 p) (.node o260 .nil .nil) .nil) (.node o196 (.node o324 .nil .nil) .nil)) (.node o100 (.node (o164 p) (.node (o292 p) .nil .nil) .nil) (.node o228 .nil .nil))) (.node o52 (.node o84 (.node o148 (.node o276 .nil .nil) .nil) (.node (o212 p) (.node o340 .nil .nil) .nil)) (.node o116 (.node o180 (.node (o308 p) .nil .nil) .nil) (.node o244 .nil .nil)))) (.node o28 (.node o44 (.node (o76 p) (.node o140 (.node o268 .nil .nil) .nil) (.node (o204 p) (.node (o332 p) .nil .nil) .nil)) (.node o108 (.node o172 (.node o300 .nil .nil) .nil) (.node (o236 p) .nil .nil))) (.node (o60 p) (.node o92 (.node o156 (.node o284 .nil .nil) .nil) (.node o220 .nil .nil)) (.node o124 (.node o188 (.node o316 .nil .nil) .nil) (.node (o252 p) .nil .nil)))))) (.node (boot_o_6 P) (.node (boot_o_10 P) (.node o18 (.node o34 (.node o66 (.node (o130 p) (.node o258 .nil .nil) .nil) (.node o194 (.node o322 .nil .nil) .nil)) (.node o98 (.node o162 (.node o290 .nil .nil) .nil) (.node (o226 p) .nil .nil))) (.node (o50 P) (.node o82 (.node o146 (.node o274 .nil .nil) .nil) (.node o210 (.node o338 .nil .nil) .nil)) (.node (o114 P) (.node o178 (.node (o306 p) .nil .nil) .nil) (.node o242 .nil .nil)))) (.node o26 (.node (o42 P) (.node (o74 p) (.node o138 (.node (o266 p) .nil .nil) .nil) (.node (o202 p) (.node o330 .nil .nil) .nil)) (.node o106 (.node o170 (.node o298 .nil .nil) .nil) (.node o234 .nil .nil))) (.node o58 (.node (o90 p) (.node o154 (.node o282 .nil .nil) .nil) (.node o218 (.node (o346 p) .nil .nil) .nil)) (.node o122 (.node o186 (.node o314 .nil .nil) .nil) (.node (o250 p) .nil .nil))))) (.node o14 (.node o22 (.node (o38 p) (.node o70 (.node o134 (.node o262 .nil .nil) .nil) (.node o198 (.node o326 .nil .nil) .nil)) (.node (o102 p) (.node (o166 p) (.node (o294 p) .nil .nil) .nil) (.node o230 .nil .nil))) (.node o54 (.node o86 (.node o150 (.node (o278 p) .nil .nil) .nil) (.node (o214 p) (.node o342 .nil .nil) .nil)) (.node o118 (.node o182 (.node o310 .nil .nil) .nil) (.node o246 .nil .nil)))) (.node o30 (.node o46 (.node o78 (.node o142 (.node o270 .nil .nil) .nil) (.node o206 (.node (o334 p) .nil .nil) .nil)) (.node o110 (.node (o174 p) (.node o302 .nil .nil) .nil) (.node (o238 p) .nil .nil))) (.node (o62 p) (.node o94 (.node o158 (.node o286 .nil .nil) .nil) (.node o222 .nil .nil)) (.node o126 (.node o190 (.node (o318 p) .nil .nil) .nil) (.node o254 .nil .nil))))))))
noncomputable def g7 (P : Params) : Obj := dc (en P n245 165 (.str n140 760) :: (gRest P).take 55) 56
noncomputable def c7 : Obj := fl .none (cAll.take 111)
noncomputable def T7 (p : Program) (P : Params) : BT := (.node (boot_o_0 P) (.node (boot_o_1 P) (.node (g7 P) (.node (boot_o_7 P) (.node o15 (.node o31 (.node o63 (.node o127 (.node o255 .nil .nil) (.node (o383 P) .nil .nil)) (.node o191 (.node o319 .nil .nil) .nil)) (.node (o95 p) (.node (o159 p) (.node (o287 p) .nil .nil) .nil) (.node o223 (.node o351 .nil .nil) .nil))) (.node o47 (.node o79 (.node o143 (.node (o271 p) .nil .nil) .nil) (.node (o207 p) (.node o335 .nil .nil) .nil)) (.node (o111 p) (.node o175 (.node o303 .nil .nil) .nil) (.node o239 (.node (o367 p) .nil .nil) .nil)))) (.node o23 (.node o39 (.node o71 (.node o135 (.node o263 .nil .nil) (.node o391 .nil .nil)) (.node o199 (.node (o327 p) .nil .nil) .nil)) (.node o103 (.node o167 (.node o295 .nil .nil) .nil) (.node (o231 p) (.node o359 .nil .nil) .nil))) (.node o55 (.node o87 (.node o151 (.node o279 .nil .nil) .nil) (.node o215 (.node o343 .nil .nil) .nil)) (.node o119 (.node (o183 p) (.node (o311 p) .nil .nil) .nil) (.node o247 (.node o375 .nil .nil) .nil))))) (.node o11 (.node (o19 p) (.node (o35 p) (.node o67 (.node o131 (.node (o259 p) .nil .nil) (.node o387 .nil .nil)) (.node (o195 p) (.node o323 .nil .nil) .nil)) (.node o99 (.node o163 (.node o291 .nil .nil) .nil) (.node o227 (.node o355 .nil .nil) .nil))) (.node o51 (.node (o83 p) (.node o147 (.node o275 .nil .nil) .nil) (.node o211 (.node (o339 p) .nil .nil) .nil)) (.node o115 (.node o179 (.node o307 .nil .nil) .nil) (.node (o243 p) (.node o371 .nil .nil) .nil)))) (.node o27 (.node o43 (.node o75 (.node (o139 p) (.node o267 .nil .nil) (.node (o395 p) .nil .nil)) (.node o203 (.node o331 .nil .nil) .nil)) (.node o107 (.node (o171 p) (.node (o299 p) .nil .nil) .nil) (.node o235 (.node o363 .nil .nil) .nil))) (.node o59 (.node o91 (.node o155 (.node o283 .nil .nil) .nil) (.node (o219 p) (.node o347 .nil .nil) .nil)) (.node (o123 p) (.node o187 (.node o315 .nil .nil) .nil) (.node o251 (.node (o379 p) .nil .nil) .nil)))))) (.node (boot_o_5 P) (.node (boot_o_9 P) (.node o17 (.node (o33 p) (.node o65 (.node o129 (.node (o257 p) .nil .nil) (.node o385 .nil .nil)) (.node o193 (.node o321 .nil .nil) .nil)) (.node (o97 p) (.node (o161 p) (.node o289 .nil .nil) .nil) (.node o225 (.node o353 .nil .nil) .nil))) (.node o49 (.node (o81 p) (.node o145 (.node (o273 p) .nil .nil) .nil) (.node (o209 p) (.node (o337 p) .nil .nil) .nil)) (.node o113 (.node o177 (.node o305 .nil .nil) .nil) (.node o241 (.node o369 .nil .nil) .nil)))) (.node o25 (.node o41 (.node o73 (.node (o137 p) (.node o265 .nil .nil) (.node (o393 p) .nil .nil)) (.node o201 (.node o329 .nil .nil) .nil)) (.node o105 (.node (o169 p) (.node o297 .nil .nil) .nil) (.node (o233 p) (.node o361 .nil .nil) .nil))) (.node o57 (.node o89 (.node o153 (.node o281 .nil .nil) .nil) (.node (o217 p) (.node o345 .nil .nil) .nil)) (.node o121 (.node (o185 P) (.node (o313 p) .nil .nil) .nil) (.node o249 (.node o377 .nil .nil) .nil))))) (.node o13 (.node (o21 p) (.node o37 (.node o69 (.node o133 (.node o261 .nil .nil) (.node o389 .nil .nil)) (.node (o197 p) (.node (o325 p) .nil .nil) .nil)) (.node o101 (.node o165 (.node o293 .nil .nil) .nil) (.node o229 (.node o357 .nil .nil) .nil))) (.node o53 (.node o85 (.node (o149 P) (.node o277 .nil .nil) .nil) (.node o213 (.node o341 .nil .nil) .nil)) (.node o117 (.node (o181 p) (.node o309 .nil .nil) .nil) (.node (o245 p) (.node o373 .nil .nil) .nil)))) (.node o29 (.node o45 (.node o77 (.node (o141 P) (.node o269 .nil .nil) .nil) (.node o205 (.node o333 .nil .nil) .nil)) (.node (o109 p) (.node o173 (.node (o301 p) .nil .nil) .nil) (.node o237 (.node (o365 p) .nil .nil) .nil))) (.node o61 (.node o93 (.node o157 (.node (o285 p) .nil .nil) .nil) (.node o221 (.node (o349 P) .nil .nil) .nil)) (.node (o125 p) (.node o189 (.node o317 .nil .nil) .nil) (.node o253 (.node (o381 p) .nil .nil) .nil))))))) (.node (boot_o_2 P) (.node (boot_o_4 P) (.node (boot_o_8 P) (.node o16 (.node o32 (.node (o64 P) (.node o128 (.node o256 .nil .nil) (.node o384 .nil .nil)) (.node o192 (.node (o320 p) .nil .nil) .nil)) (.node o96 (.node o160 (.node o288 .nil .nil) .nil) (.node (o224 p) (.node o352 .nil .nil) .nil))) (.node o48 (.node o80 (.node o144 (.node o272 .nil .nil) .nil) (.node o208 (.node o336 .nil .nil) .nil)) (.node o112 (.node (o176 p) (.node o304 .nil .nil) .nil) (.node o240 (.node o368 .nil .nil) .nil)))) (.node (o24 P) (.node (o40 p) (.node o72 (.node o136 (.node (o264 p) .nil .nil) (.node o392 .nil .nil)) (.node o200 (.node o328 .nil .nil) .nil)) (.node (o104 p) (.node o168 (.node o296 .nil .nil) .nil) (.node o232 (.node (o360 p) .nil .nil) .nil))) (.node o56 (.node (o88 p) (.node o152 (.node (o280 p) .nil .nil) .nil) (.node o216 (.node (o344 p) .nil .nil) .nil)) (.node o120 (.node o184 (.node o312 .nil .nil) .nil) (.node o248 (.node o376 .nil .nil) .nil))))) (.node c7 (.node o20 (.node o36 (.node o68 (.node (o132 p) (.node o260 .nil .nil) (.node o388 .nil .nil)) (.node o196 (.node o324 .nil .nil) .nil)) (.node o100 (.node (o164 p) (.node (o292 p) .nil .nil) .nil) (.node o228 (.node o356 .nil .nil) .nil))) (.node o52 (.node o84 (.node o148 (.node o276 .nil .nil) .nil) (.node (o212 p) (.node o340 .nil .nil) .nil)) (.node o116 (.node o180 (.node (o308 p) .nil .nil) .nil) (.node o244 (.node (o372 p) .nil .nil) .nil)))) (.node o28 (.node o44 (.node (o76 p) (.node o140 (.node o268 .nil .nil) .nil) (.node (o204 p) (.node (o332 p) .nil .nil) .nil)) (.node o108 (.node o172 (.node o300 .nil .nil) .nil) (.node (o236 p) (.node o364 .nil .nil) .nil))) (.node (o60 p) (.node o92 (.node o156 (.node o284 .nil .nil) .nil) (.node o220 (.node o348 .nil .nil) .nil)) (.node o124 (.node o188 (.node o316 .nil .nil) .nil) (.node (o252 p) (.node o380 .nil .nil) .nil)))))) (.node (boot_o_6 P) (.node (boot_o_10 P) (.node o18 (.node o34 (.node o66 (.node (o130 p) (.node o258 .nil .nil) (.node o386 .nil .nil)) (.node o194 (.node o322 .nil .nil) .nil)) (.node o98 (.node o162 (.node o290 .nil .nil) .nil) (.node (o226 p) (.node o354 .nil .nil) .nil))) (.node (o50 P) (.node o82 (.node o146 (.node o274 .nil .nil) .nil) (.node o210 (.node o338 .nil .nil) .nil)) (.node (o114 P) (.node o178 (.node (o306 p) .nil .nil) .nil) (.node o242 (.node o370 .nil .nil) .nil)))) (.node o26 (.node (o42 P) (.node (o74 p) (.node o138 (.node (o266 p) .nil .nil) (.node o394 .nil .nil)) (.node (o202 p) (.node o330 .nil .nil) .nil)) (.node o106 (.node o170 (.node o298 .nil .nil) .nil) (.node o234 (.node o362 .nil .nil) .nil))) (.node o58 (.node (o90 p) (.node o154 (.node o282 .nil .nil) .nil) (.node o218 (.node (o346 p) .nil .nil) .nil)) (.node o122 (.node o186 (.node o314 .nil .nil) .nil) (.node (o250 p) (.node o378 .nil .nil) .nil))))) (.node o14 (.node o22 (.node (o38 p) (.node o70 (.node o134 (.node o262 .nil .nil) (.node o390 .nil .nil)) (.node o198 (.node o326 .nil .nil) .nil)) (.node (o102 p) (.node (o166 p) (.node (o294 p) .nil .nil) .nil) (.node o230 (.node (o358 p) .nil .nil) .nil))) (.node o54 (.node o86 (.node o150 (.node (o278 p) .nil .nil) .nil) (.node (o214 p) (.node o342 .nil .nil) .nil)) (.node o118 (.node o182 (.node o310 .nil .nil) .nil) (.node o246 (.node (o374 p) .nil .nil) .nil)))) (.node o30 (.node o46 (.node o78 (.node o142 (.node o270 .nil .nil) .nil) (.node o206 (.node (o334 p) .nil .nil) .nil)) (.node o110 (.node (o174 p) (.node o302 .nil .nil) .nil) (.node (o238 p) (.node o366 .nil .nil) .nil))) (.node (o62 p) (.node o94 (.node o158 (.node o286 .nil .nil) .nil) (.node o222 (.node o350 .nil .nil) .nil)) (.node o126 (.node o190 (.node (o318 p) .nil .nil) .nil) (.node o254 (.node o382 .nil .nil) .nil))))))))
noncomputable def g8 (P : Params) : Obj := dc (en P n245 165 (.str n140 760) :: (gRest P).take 56) 57
noncomputable def c8 : Obj := fl .none (cAll.take 114)
noncomputable def T8 (p : Program) (P : Params) : BT := (.node (boot_o_0 P) (.node (boot_o_1 P) (.node (g8 P) (.node (boot_o_7 P) (.node o15 (.node o31 (.node o63 (.node o127 (.node o255 .nil .nil) (.node (o383 P) .nil .nil)) (.node o191 (.node o319 .nil .nil) .nil)) (.node (o95 p) (.node (o159 p) (.node (o287 p) .nil .nil) (.node o415 .nil .nil)) (.node o223 (.node o351 .nil .nil) .nil))) (.node o47 (.node o79 (.node o143 (.node (o271 p) .nil .nil) (.node o399 .nil .nil)) (.node (o207 p) (.node o335 .nil .nil) .nil)) (.node (o111 p) (.node o175 (.node o303 .nil .nil) .nil) (.node o239 (.node (o367 p) .nil .nil) .nil)))) (.node o23 (.node o39 (.node o71 (.node o135 (.node o263 .nil .nil) (.node o391 .nil .nil)) (.node o199 (.node (o327 p) .nil .nil) .nil)) (.node o103 (.node o167 (.node o295 .nil .nil) (.node (o423 p) .nil .nil)) (.node (o231 p) (.node o359 .nil .nil) .nil))) (.node o55 (.node o87 (.node o151 (.node o279 .nil .nil) (.node (o407 p) .nil .nil)) (.node o215 (.node o343 .nil .nil) .nil)) (.node o119 (.node (o183 p) (.node (o311 p) .nil .nil) .nil) (.node o247 (.node o375 .nil .nil) .nil))))) (.node o11 (.node (o19 p) (.node (o35 p) (.node o67 (.node o131 (.node (o259 p) .nil .nil) (.node o387 .nil .nil)) (.node (o195 p) (.node o323 .nil .nil) .nil)) (.node o99 (.node o163 (.node o291 .nil .nil) (.node o419 .nil .nil)) (.node o227 (.node o355 .nil .nil) .nil))) (.node o51 (.node (o83 p) (.node o147 (.node o275 .nil .nil) (.node o403 .nil .nil)) (.node o211 (.node (o339 p) .nil .nil) .nil)) (.node o115 (.node o179 (.node o307 .nil .nil) .nil) (.node (o243 p) (.node o371 .nil .nil) .nil)))) (.node o27 (.node o43 (.node o75 (.node (o139 p) (.node o267 .nil .nil) (.node (o395 p) .nil .nil)) (.node o203 (.node o331 .nil .nil) .nil)) (.node o107 (.node (o171 p) (.node (o299 p) .nil .nil) (.node o427 .nil .nil)) (.node o235 (.node o363 .nil .nil) .nil))) (.node o59 (.node o91 (.node o155 (.node o283 .nil .nil) (.node o411 .nil .nil)) (.node (o219 p) (.node o347 .nil .nil) .nil)) (.node (o123 p) (.node o187 (.node o315 .nil .nil) .nil) (.node o251 (.node (o379 p) .nil .nil) .nil)))))) (.node (boot_o_5 P) (.node (boot_o_9 P) (.node o17 (.node (o33 p) (.node o65 (.node o129 (.node (o257 p) .nil .nil) (.node o385 .nil .nil)) (.node o193 (.node o321 .nil .nil) .nil)) (.node (o97 p) (.node (o161 p) (.node o289 .nil .nil) (.node o417 .nil .nil)) (.node o225 (.node o353 .nil .nil) .nil))) (.node o49 (.node (o81 p) (.node o145 (.node (o273 p) .nil .nil) (.node o401 .nil .nil)) (.node (o209 p) (.node (o337 p) .nil .nil) .nil)) (.node o113 (.node o177 (.node o305 .nil .nil) .nil) (.node o241 (.node o369 .nil .nil) .nil)))) (.node o25 (.node o41 (.node o73 (.node (o137 p) (.node o265 .nil .nil) (.node (o393 p) .nil .nil)) (.node o201 (.node o329 .nil .nil) .nil)) (.node o105 (.node (o169 p) (.node o297 .nil .nil) (.node (o425 P) .nil .nil)) (.node (o233 p) (.node o361 .nil .nil) .nil))) (.node o57 (.node o89 (.node o153 (.node o281 .nil .nil) (.node (o409 p) .nil .nil)) (.node (o217 p) (.node o345 .nil .nil) .nil)) (.node o121 (.node (o185 P) (.node (o313 p) .nil .nil) .nil) (.node o249 (.node o377 .nil .nil) .nil))))) (.node o13 (.node (o21 p) (.node o37 (.node o69 (.node o133 (.node o261 .nil .nil) (.node o389 .nil .nil)) (.node (o197 p) (.node (o325 p) .nil .nil) .nil)) (.node o101 (.node o165 (.node o293 .nil .nil) (.node (o421 p) .nil .nil)) (.node o229 (.node o357 .nil .nil) .nil))) (.node o53 (.node o85 (.node (o149 P) (.node o277 .nil .nil) (.node o405 .nil .nil)) (.node o213 (.node o341 .nil .nil) .nil)) (.node o117 (.node (o181 p) (.node o309 .nil .nil) .nil) (.node (o245 p) (.node o373 .nil .nil) .nil)))) (.node o29 (.node o45 (.node o77 (.node (o141 P) (.node o269 .nil .nil) (.node o397 .nil .nil)) (.node o205 (.node o333 .nil .nil) .nil)) (.node (o109 p) (.node o173 (.node (o301 p) .nil .nil) (.node o429 .nil .nil)) (.node o237 (.node (o365 p) .nil .nil) .nil))) (.node o61 (.node o93 (.node o157 (.node (o285 p) .nil .nil) (.node o413 .nil .nil)) (.node o221 (.node (o349 P) .nil .nil) .nil)) (.node (o125 p) (.node o189 (.node o317 .nil .nil) .nil) (.node o253 (.node (o381 p) .nil .nil) .nil))))))) (.node (boot_o_2 P) (.node (boot_o_4 P) (.node (boot_o_8 P) (.node o16 (.node o32 (.node (o64 P) (.node o128 (.node o256 .nil .nil) (.node o384 .nil .nil)) (.node o192 (.node (o320 p) .nil .nil) .nil)) (.node o96 (.node o160 (.node o288 .nil .nil) (.node (o416 p) .nil .nil)) (.node (o224 p) (.node o352 .nil .nil) .nil))) (.node o48 (.node o80 (.node o144 (.node o272 .nil .nil) (.node o400 .nil .nil)) (.node o208 (.node o336 .nil .nil) .nil)) (.node o112 (.node (o176 p) (.node o304 .nil .nil) .nil) (.node o240 (.node o368 .nil .nil) .nil)))) (.node (o24 P) (.node (o40 p) (.node o72 (.node o136 (.node (o264 p) .nil .nil) (.node o392 .nil .nil)) (.node o200 (.node o328 .nil .nil) .nil)) (.node (o104 p) (.node o168 (.node o296 .nil .nil) (.node o424 .nil .nil)) (.node o232 (.node (o360 p) .nil .nil) .nil))) (.node o56 (.node (o88 p) (.node o152 (.node (o280 p) .nil .nil) (.node o408 .nil .nil)) (.node o216 (.node (o344 p) .nil .nil) .nil)) (.node o120 (.node o184 (.node o312 .nil .nil) .nil) (.node o248 (.node o376 .nil .nil) .nil))))) (.node c8 (.node o20 (.node o36 (.node o68 (.node (o132 p) (.node o260 .nil .nil) (.node o388 .nil .nil)) (.node o196 (.node o324 .nil .nil) .nil)) (.node o100 (.node (o164 p) (.node (o292 p) .nil .nil) (.node o420 .nil .nil)) (.node o228 (.node o356 .nil .nil) .nil))) (.node o52 (.node o84 (.node o148 (.node o276 .nil .nil) (.node o404 .nil .nil)) (.node (o212 p) (.node o340 .nil .nil) .nil)) (.node o116 (.node o180 (.node (o308 p) .nil .nil) .nil) (.node o244 (.node (o372 p) .nil .nil) .nil)))) (.node o28 (.node o44 (.node (o76 p) (.node o140 (.node o268 .nil .nil) (.node o396 .nil .nil)) (.node (o204 p) (.node (o332 p) .nil .nil) .nil)) (.node o108 (.node o172 (.node o300 .nil .nil) (.node o428 .nil .nil)) (.node (o236 p) (.node o364 .nil .nil) .nil))) (.node (o60 p) (.node o92 (.node o156 (.node o284 .nil .nil) (.node o412 .nil .nil)) (.node o220 (.node o348 .nil .nil) .nil)) (.node o124 (.node o188 (.node o316 .nil .nil) .nil) (.node (o252 p) (.node o380 .nil .nil) .nil)))))) (.node (boot_o_6 P) (.node (boot_o_10 P) (.node o18 (.node o34 (.node o66 (.node (o130 p) (.node o258 .nil .nil) (.node o386 .nil .nil)) (.node o194 (.node o322 .nil .nil) .nil)) (.node o98 (.node o162 (.node o290 .nil .nil) (.node o418 .nil .nil)) (.node (o226 p) (.node o354 .nil .nil) .nil))) (.node (o50 P) (.node o82 (.node o146 (.node o274 .nil .nil) (.node o402 .nil .nil)) (.node o210 (.node o338 .nil .nil) .nil)) (.node (o114 P) (.node o178 (.node (o306 p) .nil .nil) .nil) (.node o242 (.node o370 .nil .nil) .nil)))) (.node o26 (.node (o42 P) (.node (o74 p) (.node o138 (.node (o266 p) .nil .nil) (.node o394 .nil .nil)) (.node (o202 p) (.node o330 .nil .nil) .nil)) (.node o106 (.node o170 (.node o298 .nil .nil) (.node o426 .nil .nil)) (.node o234 (.node o362 .nil .nil) .nil))) (.node o58 (.node (o90 p) (.node o154 (.node o282 .nil .nil) (.node o410 .nil .nil)) (.node o218 (.node (o346 p) .nil .nil) .nil)) (.node o122 (.node o186 (.node o314 .nil .nil) .nil) (.node (o250 p) (.node o378 .nil .nil) .nil))))) (.node o14 (.node o22 (.node (o38 p) (.node o70 (.node o134 (.node o262 .nil .nil) (.node o390 .nil .nil)) (.node o198 (.node o326 .nil .nil) .nil)) (.node (o102 p) (.node (o166 p) (.node (o294 p) .nil .nil) (.node o422 .nil .nil)) (.node o230 (.node (o358 p) .nil .nil) .nil))) (.node o54 (.node o86 (.node o150 (.node (o278 p) .nil .nil) (.node o406 .nil .nil)) (.node (o214 p) (.node o342 .nil .nil) .nil)) (.node o118 (.node o182 (.node o310 .nil .nil) .nil) (.node o246 (.node (o374 p) .nil .nil) .nil)))) (.node o30 (.node o46 (.node o78 (.node o142 (.node o270 .nil .nil) (.node (o398 P) .nil .nil)) (.node o206 (.node (o334 p) .nil .nil) .nil)) (.node o110 (.node (o174 p) (.node o302 .nil .nil) (.node o430 .nil .nil)) (.node (o238 p) (.node o366 .nil .nil) .nil))) (.node (o62 p) (.node o94 (.node o158 (.node o286 .nil .nil) (.node (o414 p) .nil .nil)) (.node o222 (.node o350 .nil .nil) .nil)) (.node o126 (.node o190 (.node (o318 p) .nil .nil) .nil) (.node o254 (.node o382 .nil .nil) .nil))))))))
noncomputable def g9 (P : Params) : Obj := dc (en P n245 165 (.str n140 760) :: (gRest P).take 59) 60
noncomputable def c9 : Obj := fl .none (cAll.take 123)
noncomputable def T9 (p : Program) (P : Params) : BT := (.node (boot_o_0 P) (.node (boot_o_1 P) (.node (g9 P) (.node (boot_o_7 P) (.node o15 (.node o31 (.node o63 (.node o127 (.node o255 .nil .nil) (.node (o383 P) .nil .nil)) (.node o191 (.node o319 .nil .nil) (.node o447 .nil .nil))) (.node (o95 p) (.node (o159 p) (.node (o287 p) .nil .nil) (.node o415 .nil .nil)) (.node o223 (.node o351 .nil .nil) (.node (o479 p) .nil .nil)))) (.node o47 (.node o79 (.node o143 (.node (o271 p) .nil .nil) (.node o399 .nil .nil)) (.node (o207 p) (.node o335 .nil .nil) (.node o463 .nil .nil))) (.node (o111 p) (.node o175 (.node o303 .nil .nil) (.node o431 .nil .nil)) (.node o239 (.node (o367 p) .nil .nil) .nil)))) (.node o23 (.node o39 (.node o71 (.node o135 (.node o263 .nil .nil) (.node o391 .nil .nil)) (.node o199 (.node (o327 p) .nil .nil) (.node (o455 p) .nil .nil))) (.node o103 (.node o167 (.node o295 .nil .nil) (.node (o423 p) .nil .nil)) (.node (o231 p) (.node o359 .nil .nil) .nil))) (.node o55 (.node o87 (.node o151 (.node o279 .nil .nil) (.node (o407 p) .nil .nil)) (.node o215 (.node o343 .nil .nil) (.node o471 .nil .nil))) (.node o119 (.node (o183 p) (.node (o311 p) .nil .nil) (.node o439 .nil .nil)) (.node o247 (.node o375 .nil .nil) .nil))))) (.node o11 (.node (o19 p) (.node (o35 p) (.node o67 (.node o131 (.node (o259 p) .nil .nil) (.node o387 .nil .nil)) (.node (o195 p) (.node o323 .nil .nil) (.node o451 .nil .nil))) (.node o99 (.node o163 (.node o291 .nil .nil) (.node o419 .nil .nil)) (.node o227 (.node o355 .nil .nil) .nil))) (.node o51 (.node (o83 p) (.node o147 (.node o275 .nil .nil) (.node o403 .nil .nil)) (.node o211 (.node (o339 p) .nil .nil) (.node o467 .nil .nil))) (.node o115 (.node o179 (.node o307 .nil .nil) (.node o435 .nil .nil)) (.node (o243 p) (.node o371 .nil .nil) .nil)))) (.node o27 (.node o43 (.node o75 (.node (o139 p) (.node o267 .nil .nil) (.node (o395 p) .nil .nil)) (.node o203 (.node o331 .nil .nil) (.node o459 .nil .nil))) (.node o107 (.node (o171 p) (.node (o299 p) .nil .nil) (.node o427 .nil .nil)) (.node o235 (.node o363 .nil .nil) .nil))) (.node o59 (.node o91 (.node o155 (.node o283 .nil .nil) (.node o411 .nil .nil)) (.node (o219 p) (.node o347 .nil .nil) (.node o475 .nil .nil))) (.node (o123 p) (.node o187 (.node o315 .nil .nil) (.node (o443 p) .nil .nil)) (.node o251 (.node (o379 p) .nil .nil) .nil)))))) (.node (boot_o_5 P) (.node (boot_o_9 P) (.node o17 (.node (o33 p) (.node o65 (.node o129 (.node (o257 p) .nil .nil) (.node o385 .nil .nil)) (.node o193 (.node o321 .nil .nil) (.node o449 .nil .nil))) (.node (o97 p) (.node (o161 p) (.node o289 .nil .nil) (.node o417 .nil .nil)) (.node o225 (.node o353 .nil .nil) (.node (o481 p) .nil .nil)))) (.node o49 (.node (o81 p) (.node o145 (.node (o273 p) .nil .nil) (.node o401 .nil .nil)) (.node (o209 p) (.node (o337 p) .nil .nil) (.node o465 .nil .nil))) (.node o113 (.node o177 (.node o305 .nil .nil) (.node (o433 P) .nil .nil)) (.node o241 (.node o369 .nil .nil) .nil)))) (.node o25 (.node o41 (.node o73 (.node (o137 p) (.node o265 .nil .nil) (.node (o393 p) .nil .nil)) (.node o201 (.node o329 .nil .nil) (.node (o457 p) .nil .nil))) (.node o105 (.node (o169 p) (.node o297 .nil .nil) (.node (o425 P) .nil .nil)) (.node (o233 p) (.node o361 .nil .nil) .nil))) (.node o57 (.node o89 (.node o153 (.node o281 .nil .nil) (.node (o409 p) .nil .nil)) (.node (o217 p) (.node o345 .nil .nil) (.node o473 .nil .nil))) (.node o121 (.node (o185 P) (.node (o313 p) .nil .nil) (.node o441 .nil .nil)) (.node o249 (.node o377 .nil .nil) .nil))))) (.node o13 (.node (o21 p) (.node o37 (.node o69 (.node o133 (.node o261 .nil .nil) (.node o389 .nil .nil)) (.node (o197 p) (.node (o325 p) .nil .nil) (.node o453 .nil .nil))) (.node o101 (.node o165 (.node o293 .nil .nil) (.node (o421 p) .nil .nil)) (.node o229 (.node o357 .nil .nil) .nil))) (.node o53 (.node o85 (.node (o149 P) (.node o277 .nil .nil) (.node o405 .nil .nil)) (.node o213 (.node o341 .nil .nil) (.node o469 .nil .nil))) (.node o117 (.node (o181 p) (.node o309 .nil .nil) (.node o437 .nil .nil)) (.node (o245 p) (.node o373 .nil .nil) .nil)))) (.node o29 (.node o45 (.node o77 (.node (o141 P) (.node o269 .nil .nil) (.node o397 .nil .nil)) (.node o205 (.node o333 .nil .nil) (.node o461 .nil .nil))) (.node (o109 p) (.node o173 (.node (o301 p) .nil .nil) (.node o429 .nil .nil)) (.node o237 (.node (o365 p) .nil .nil) .nil))) (.node o61 (.node o93 (.node o157 (.node (o285 p) .nil .nil) (.node o413 .nil .nil)) (.node o221 (.node (o349 P) .nil .nil) (.node o477 .nil .nil))) (.node (o125 p) (.node o189 (.node o317 .nil .nil) (.node (o445 p) .nil .nil)) (.node o253 (.node (o381 p) .nil .nil) .nil))))))) (.node (boot_o_2 P) (.node (boot_o_4 P) (.node (boot_o_8 P) (.node o16 (.node o32 (.node (o64 P) (.node o128 (.node o256 .nil .nil) (.node o384 .nil .nil)) (.node o192 (.node (o320 p) .nil .nil) (.node (o448 p) .nil .nil))) (.node o96 (.node o160 (.node o288 .nil .nil) (.node (o416 p) .nil .nil)) (.node (o224 p) (.node o352 .nil .nil) (.node o480 .nil .nil)))) (.node o48 (.node o80 (.node o144 (.node o272 .nil .nil) (.node o400 .nil .nil)) (.node o208 (.node o336 .nil .nil) (.node (o464 p) .nil .nil))) (.node o112 (.node (o176 p) (.node o304 .nil .nil) (.node o432 .nil .nil)) (.node o240 (.node o368 .nil .nil) .nil)))) (.node (o24 P) (.node (o40 p) (.node o72 (.node o136 (.node (o264 p) .nil .nil) (.node o392 .nil .nil)) (.node o200 (.node o328 .nil .nil) (.node o456 .nil .nil))) (.node (o104 p) (.node o168 (.node o296 .nil .nil) (.node o424 .nil .nil)) (.node o232 (.node (o360 p) .nil .nil) .nil))) (.node o56 (.node (o88 p) (.node o152 (.node (o280 p) .nil .nil) (.node o408 .nil .nil)) (.node o216 (.node (o344 p) .nil .nil) (.node o472 .nil .nil))) (.node o120 (.node o184 (.node o312 .nil .nil) (.node o440 .nil .nil)) (.node o248 (.node o376 .nil .nil) .nil))))) (.node c9 (.node o20 (.node o36 (.node o68 (.node (o132 p) (.node o260 .nil .nil) (.node o388 .nil .nil)) (.node o196 (.node o324 .nil .nil) (.node o452 .nil .nil))) (.node o100 (.node (o164 p) (.node (o292 p) .nil .nil) (.node o420 .nil .nil)) (.node o228 (.node o356 .nil .nil) .nil))) (.node o52 (.node o84 (.node o148 (.node o276 .nil .nil) (.node o404 .nil .nil)) (.node (o212 p) (.node o340 .nil .nil) (.node o468 .nil .nil))) (.node o116 (.node o180 (.node (o308 p) .nil .nil) (.node o436 .nil .nil)) (.node o244 (.node (o372 p) .nil .nil) .nil)))) (.node o28 (.node o44 (.node (o76 p) (.node o140 (.node o268 .nil .nil) (.node o396 .nil .nil)) (.node (o204 p) (.node (o332 p) .nil .nil) (.node o460 .nil .nil))) (.node o108 (.node o172 (.node o300 .nil .nil) (.node o428 .nil .nil)) (.node (o236 p) (.node o364 .nil .nil) .nil))) (.node (o60 p) (.node o92 (.node o156 (.node o284 .nil .nil) (.node o412 .nil .nil)) (.node o220 (.node o348 .nil .nil) (.node (o476 p) .nil .nil))) (.node o124 (.node o188 (.node o316 .nil .nil) (.node o444 .nil .nil)) (.node (o252 p) (.node o380 .nil .nil) .nil)))))) (.node (boot_o_6 P) (.node (boot_o_10 P) (.node o18 (.node o34 (.node o66 (.node (o130 p) (.node o258 .nil .nil) (.node o386 .nil .nil)) (.node o194 (.node o322 .nil .nil) (.node (o450 p) .nil .nil))) (.node o98 (.node o162 (.node o290 .nil .nil) (.node o418 .nil .nil)) (.node (o226 p) (.node o354 .nil .nil) .nil))) (.node (o50 P) (.node o82 (.node o146 (.node o274 .nil .nil) (.node o402 .nil .nil)) (.node o210 (.node o338 .nil .nil) (.node (o466 P) .nil .nil))) (.node (o114 P) (.node o178 (.node (o306 p) .nil .nil) (.node o434 .nil .nil)) (.node o242 (.node o370 .nil .nil) .nil)))) (.node o26 (.node (o42 P) (.node (o74 p) (.node o138 (.node (o266 p) .nil .nil) (.node o394 .nil .nil)) (.node (o202 p) (.node o330 .nil .nil) (.node o458 .nil .nil))) (.node o106 (.node o170 (.node o298 .nil .nil) (.node o426 .nil .nil)) (.node o234 (.node o362 .nil .nil) .nil))) (.node o58 (.node (o90 p) (.node o154 (.node o282 .nil .nil) (.node o410 .nil .nil)) (.node o218 (.node (o346 p) .nil .nil) (.node (o474 p) .nil .nil))) (.node o122 (.node o186 (.node o314 .nil .nil) (.node o442 .nil .nil)) (.node (o250 p) (.node o378 .nil .nil) .nil))))) (.node o14 (.node o22 (.node (o38 p) (.node o70 (.node o134 (.node o262 .nil .nil) (.node o390 .nil .nil)) (.node o198 (.node o326 .nil .nil) (.node o454 .nil .nil))) (.node (o102 p) (.node (o166 p) (.node (o294 p) .nil .nil) (.node o422 .nil .nil)) (.node o230 (.node (o358 p) .nil .nil) .nil))) (.node o54 (.node o86 (.node o150 (.node (o278 p) .nil .nil) (.node o406 .nil .nil)) (.node (o214 p) (.node o342 .nil .nil) (.node o470 .nil .nil))) (.node o118 (.node o182 (.node o310 .nil .nil) (.node o438 .nil .nil)) (.node o246 (.node (o374 p) .nil .nil) .nil)))) (.node o30 (.node o46 (.node o78 (.node o142 (.node o270 .nil .nil) (.node (o398 P) .nil .nil)) (.node o206 (.node (o334 p) .nil .nil) (.node (o462 p) .nil .nil))) (.node o110 (.node (o174 p) (.node o302 .nil .nil) (.node o430 .nil .nil)) (.node (o238 p) (.node o366 .nil .nil) .nil))) (.node (o62 p) (.node o94 (.node o158 (.node o286 .nil .nil) (.node (o414 p) .nil .nil)) (.node o222 (.node o350 .nil .nil) (.node o478 .nil .nil))) (.node o126 (.node o190 (.node (o318 p) .nil .nil) (.node o446 .nil .nil)) (.node o254 (.node o382 .nil .nil) .nil))))))))
noncomputable def g10 (P : Params) : Obj := dc (en P n245 165 (.str n168 905) :: (gRest P).take 66) 67
noncomputable def c10 : Obj := fl .none (cAll.take 138)
noncomputable def T10 (p : Program) (P : Params) : BT := (.node (boot_o_0 P) (.node (boot_o_1 P) (.node (g10 P) (.node (boot_o_7 P) (.node o15 (.node o31 (.node o63 (.node o127 (.node o255 (.node o511 .nil .nil) .nil) (.node (o383 P) .nil .nil)) (.node o191 (.node o319 .nil .nil) (.node o447 .nil .nil))) (.node (o95 p) (.node (o159 p) (.node (o287 p) .nil .nil) (.node o415 .nil .nil)) (.node o223 (.node o351 .nil .nil) (.node (o479 p) .nil .nil)))) (.node o47 (.node o79 (.node o143 (.node (o271 p) (.node o527 .nil .nil) .nil) (.node o399 .nil .nil)) (.node (o207 p) (.node o335 .nil .nil) (.node o463 .nil .nil))) (.node (o111 p) (.node o175 (.node o303 .nil .nil) (.node o431 .nil .nil)) (.node o239 (.node (o367 p) .nil .nil) (.node o495 .nil .nil))))) (.node o23 (.node o39 (.node o71 (.node o135 (.node o263 (.node (o519 p) .nil .nil) .nil) (.node o391 .nil .nil)) (.node o199 (.node (o327 p) .nil .nil) (.node (o455 p) .nil .nil))) (.node o103 (.node o167 (.node o295 .nil .nil) (.node (o423 p) .nil .nil)) (.node (o231 p) (.node o359 .nil .nil) (.node o487 .nil .nil)))) (.node o55 (.node o87 (.node o151 (.node o279 .nil .nil) (.node (o407 p) .nil .nil)) (.node o215 (.node o343 .nil .nil) (.node o471 .nil .nil))) (.node o119 (.node (o183 p) (.node (o311 p) .nil .nil) (.node o439 .nil .nil)) (.node o247 (.node o375 .nil .nil) (.node o503 .nil .nil)))))) (.node o11 (.node (o19 p) (.node (o35 p) (.node o67 (.node o131 (.node (o259 p) (.node o515 .nil .nil) .nil) (.node o387 .nil .nil)) (.node (o195 p) (.node o323 .nil .nil) (.node o451 .nil .nil))) (.node o99 (.node o163 (.node o291 .nil .nil) (.node o419 .nil .nil)) (.node o227 (.node o355 .nil .nil) (.node o483 .nil .nil)))) (.node o51 (.node (o83 p) (.node o147 (.node o275 .nil .nil) (.node o403 .nil .nil)) (.node o211 (.node (o339 p) .nil .nil) (.node o467 .nil .nil))) (.node o115 (.node o179 (.node o307 .nil .nil) (.node o435 .nil .nil)) (.node (o243 p) (.node o371 .nil .nil) (.node o499 .nil .nil))))) (.node o27 (.node o43 (.node o75 (.node (o139 p) (.node o267 (.node o523 .nil .nil) .nil) (.node (o395 p) .nil .nil)) (.node o203 (.node o331 .nil .nil) (.node o459 .nil .nil))) (.node o107 (.node (o171 p) (.node (o299 p) .nil .nil) (.node o427 .nil .nil)) (.node o235 (.node o363 .nil .nil) (.node (o491 p) .nil .nil)))) (.node o59 (.node o91 (.node o155 (.node o283 .nil .nil) (.node o411 .nil .nil)) (.node (o219 p) (.node o347 .nil .nil) (.node o475 .nil .nil))) (.node (o123 p) (.node o187 (.node o315 .nil .nil) (.node (o443 p) .nil .nil)) (.node o251 (.node (o379 p) .nil .nil) (.node (o507 p) .nil .nil))))))) (.node (boot_o_5 P) (.node (boot_o_9 P) (.node o17 (.node (o33 p) (.node o65 (.node o129 (.node (o257 p) (.node o513 .nil .nil) .nil) (.node o385 .nil .nil)) (.node o193 (.node o321 .nil .nil) (.node o449 .nil .nil))) (.node (o97 p) (.node (o161 p) (.node o289 .nil .nil) (.node o417 .nil .nil)) (.node o225 (.node o353 .nil .nil) (.node (o481 p) .nil .nil)))) (.node o49 (.node (o81 p) (.node o145 (.node (o273 p) .nil .nil) (.node o401 .nil .nil)) (.node (o209 p) (.node (o337 p) .nil .nil) (.node o465 .nil .nil))) (.node o113 (.node o177 (.node o305 .nil .nil) (.node (o433 P) .nil .nil)) (.node o241 (.node o369 .nil .nil) (.node o497 .nil .nil))))) (.node o25 (.node o41 (.node o73 (.node (o137 p) (.node o265 (.node (o521 p) .nil .nil) .nil) (.node (o393 p) .nil .nil)) (.node o201 (.node o329 .nil .nil) (.node (o457 p) .nil .nil))) (.node o105 (.node (o169 p) (.node o297 .nil .nil) (.node (o425 P) .nil .nil)) (.node (o233 p) (.node o361 .nil .nil) (.node o489 .nil .nil)))) (.node o57 (.node o89 (.node o153 (.node o281 .nil .nil) (.node (o409 p) .nil .nil)) (.node (o217 p) (.node o345 .nil .nil) (.node o473 .nil .nil))) (.node o121 (.node (o185 P) (.node (o313 p) .nil .nil) (.node o441 .nil .nil)) (.node o249 (.node o377 .nil .nil) (.node (o505 p) .nil .nil)))))) (.node o13 (.node (o21 p) (.node o37 (.node o69 (.node o133 (.node o261 (.node o517 .nil .nil) .nil) (.node o389 .nil .nil)) (.node (o197 p) (.node (o325 p) .nil .nil) (.node o453 .nil .nil))) (.node o101 (.node o165 (.node o293 .nil .nil) (.node (o421 p) .nil .nil)) (.node o229 (.node o357 .nil .nil) (.node o485 .nil .nil)))) (.node o53 (.node o85 (.node (o149 P) (.node o277 .nil .nil) (.node o405 .nil .nil)) (.node o213 (.node o341 .nil .nil) (.node o469 .nil .nil))) (.node o117 (.node (o181 p) (.node o309 .nil .nil) (.node o437 .nil .nil)) (.node (o245 p) (.node o373 .nil .nil) (.node o501 .nil .nil))))) (.node o29 (.node o45 (.node o77 (.node (o141 P) (.node o269 (.node o525 .nil .nil) .nil) (.node o397 .nil .nil)) (.node o205 (.node o333 .nil .nil) (.node o461 .nil .nil))) (.node (o109 p) (.node o173 (.node (o301 p) .nil .nil) (.node o429 .nil .nil)) (.node o237 (.node (o365 p) .nil .nil) (.node (o493 p) .nil .nil)))) (.node o61 (.node o93 (.node o157 (.node (o285 p) .nil .nil) (.node o413 .nil .nil)) (.node o221 (.node (o349 P) .nil .nil) (.node o477 .nil .nil))) (.node (o125 p) (.node o189 (.node o317 .nil .nil) (.node (o445 p) .nil .nil)) (.node o253 (.node (o381 p) .nil .nil) (.node (o509 P) .nil .nil)))))))) (.node (boot_o_2 P) (.node (boot_o_4 P) (.node (boot_o_8 P) (.node o16 (.node o32 (.node (o64 P) (.node o128 (.node o256 (.node o512 .nil .nil) .nil) (.node o384 .nil .nil)) (.node o192 (.node (o320 p) .nil .nil) (.node (o448 p) .nil .nil))) (.node o96 (.node o160 (.node o288 .nil .nil) (.node (o416 p) .nil .nil)) (.node (o224 p) (.node o352 .nil .nil) (.node o480 .nil .nil)))) (.node o48 (.node o80 (.node o144 (.node o272 (.node (o528 p) .nil .nil) .nil) (.node o400 .nil .nil)) (.node o208 (.node o336 .nil .nil) (.node (o464 p) .nil .nil))) (.node o112 (.node (o176 p) (.node o304 .nil .nil) (.node o432 .nil .nil)) (.node o240 (.node o368 .nil .nil) (.node (o496 P) .nil .nil))))) (.node (o24 P) (.node (o40 p) (.node o72 (.node o136 (.node (o264 p) (.node o520 .nil .nil) .nil) (.node o392 .nil .nil)) (.node o200 (.node o328 .nil .nil) (.node o456 .nil .nil))) (.node (o104 p) (.node o168 (.node o296 .nil .nil) (.node o424 .nil .nil)) (.node o232 (.node (o360 p) .nil .nil) (.node (o488 p) .nil .nil)))) (.node o56 (.node (o88 p) (.node o152 (.node (o280 p) .nil .nil) (.node o408 .nil .nil)) (.node o216 (.node (o344 p) .nil .nil) (.node o472 .nil .nil))) (.node o120 (.node o184 (.node o312 .nil .nil) (.node o440 .nil .nil)) (.node o248 (.node o376 .nil .nil) (.node o504 .nil .nil)))))) (.node c10 (.node o20 (.node o36 (.node o68 (.node (o132 p) (.node o260 (.node o516 .nil .nil) .nil) (.node o388 .nil .nil)) (.node o196 (.node o324 .nil .nil) (.node o452 .nil .nil))) (.node o100 (.node (o164 p) (.node (o292 p) .nil .nil) (.node o420 .nil .nil)) (.node o228 (.node o356 .nil .nil) (.node o484 .nil .nil)))) (.node o52 (.node o84 (.node o148 (.node o276 .nil .nil) (.node o404 .nil .nil)) (.node (o212 p) (.node o340 .nil .nil) (.node o468 .nil .nil))) (.node o116 (.node o180 (.node (o308 p) .nil .nil) (.node o436 .nil .nil)) (.node o244 (.node (o372 p) .nil .nil) (.node o500 .nil .nil))))) (.node o28 (.node o44 (.node (o76 p) (.node o140 (.node o268 (.node o524 .nil .nil) .nil) (.node o396 .nil .nil)) (.node (o204 p) (.node (o332 p) .nil .nil) (.node o460 .nil .nil))) (.node o108 (.node o172 (.node o300 .nil .nil) (.node o428 .nil .nil)) (.node (o236 p) (.node o364 .nil .nil) (.node o492 .nil .nil)))) (.node (o60 p) (.node o92 (.node o156 (.node o284 .nil .nil) (.node o412 .nil .nil)) (.node o220 (.node o348 .nil .nil) (.node (o476 p) .nil .nil))) (.node o124 (.node o188 (.node o316 .nil .nil) (.node o444 .nil .nil)) (.node (o252 p) (.node o380 .nil .nil) (.node o508 .nil .nil))))))) (.node (boot_o_6 P) (.node (boot_o_10 P) (.node o18 (.node o34 (.node o66 (.node (o130 p) (.node o258 (.node o514 .nil .nil) .nil) (.node o386 .nil .nil)) (.node o194 (.node o322 .nil .nil) (.node (o450 p) .nil .nil))) (.node o98 (.node o162 (.node o290 .nil .nil) (.node o418 .nil .nil)) (.node (o226 p) (.node o354 .nil .nil) (.node o482 .nil .nil)))) (.node (o50 P) (.node o82 (.node o146 (.node o274 .nil .nil) (.node o402 .nil .nil)) (.node o210 (.node o338 .nil .nil) (.node (o466 P) .nil .nil))) (.node (o114 P) (.node o178 (.node (o306 p) .nil .nil) (.node o434 .nil .nil)) (.node o242 (.node o370 .nil .nil) (.node o498 .nil .nil))))) (.node o26 (.node (o42 P) (.node (o74 p) (.node o138 (.node (o266 p) (.node o522 .nil .nil) .nil) (.node o394 .nil .nil)) (.node (o202 p) (.node o330 .nil .nil) (.node o458 .nil .nil))) (.node o106 (.node o170 (.node o298 .nil .nil) (.node o426 .nil .nil)) (.node o234 (.node o362 .nil .nil) (.node o490 .nil .nil)))) (.node o58 (.node (o90 p) (.node o154 (.node o282 .nil .nil) (.node o410 .nil .nil)) (.node o218 (.node (o346 p) .nil .nil) (.node (o474 p) .nil .nil))) (.node o122 (.node o186 (.node o314 .nil .nil) (.node o442 .nil .nil)) (.node (o250 p) (.node o378 .nil .nil) (.node o506 .nil .nil)))))) (.node o14 (.node o22 (.node (o38 p) (.node o70 (.node o134 (.node o262 (.node o518 .nil .nil) .nil) (.node o390 .nil .nil)) (.node o198 (.node o326 .nil .nil) (.node o454 .nil .nil))) (.node (o102 p) (.node (o166 p) (.node (o294 p) .nil .nil) (.node o422 .nil .nil)) (.node o230 (.node (o358 p) .nil .nil) (.node (o486 p) .nil .nil)))) (.node o54 (.node o86 (.node o150 (.node (o278 p) .nil .nil) (.node o406 .nil .nil)) (.node (o214 p) (.node o342 .nil .nil) (.node o470 .nil .nil))) (.node o118 (.node o182 (.node o310 .nil .nil) (.node o438 .nil .nil)) (.node o246 (.node (o374 p) .nil .nil) (.node o502 .nil .nil))))) (.node o30 (.node o46 (.node o78 (.node o142 (.node o270 (.node (o526 p) .nil .nil) .nil) (.node (o398 P) .nil .nil)) (.node o206 (.node (o334 p) .nil .nil) (.node (o462 p) .nil .nil))) (.node o110 (.node (o174 p) (.node o302 .nil .nil) (.node o430 .nil .nil)) (.node (o238 p) (.node o366 .nil .nil) (.node o494 .nil .nil)))) (.node (o62 p) (.node o94 (.node o158 (.node o286 .nil .nil) (.node (o414 p) .nil .nil)) (.node o222 (.node o350 .nil .nil) (.node o478 .nil .nil))) (.node o126 (.node o190 (.node (o318 p) .nil .nil) (.node o446 .nil .nil)) (.node o254 (.node o382 .nil .nil) (.node o510 .nil .nil)))))))))
noncomputable def g11 (P : Params) : Obj := dc (en P n245 165 (.str n184 1025) :: (gRest P).take 72) 73
noncomputable def c11 : Obj := fl .none (cAll.take 156)
noncomputable def T11 (p : Program) (P : Params) : BT := (.node (boot_o_0 P) (.node (boot_o_1 P) (.node (g11 P) (.node (boot_o_7 P) (.node o15 (.node o31 (.node o63 (.node o127 (.node o255 (.node o511 .nil .nil) .nil) (.node (o383 P) .nil .nil)) (.node o191 (.node o319 .nil .nil) (.node o447 .nil .nil))) (.node (o95 p) (.node (o159 p) (.node (o287 p) (.node (o543 p) .nil .nil) .nil) (.node o415 .nil .nil)) (.node o223 (.node o351 .nil .nil) (.node (o479 p) .nil .nil)))) (.node o47 (.node o79 (.node o143 (.node (o271 p) (.node o527 .nil .nil) .nil) (.node o399 .nil .nil)) (.node (o207 p) (.node o335 .nil .nil) (.node o463 .nil .nil))) (.node (o111 p) (.node o175 (.node o303 (.node (o559 p) .nil .nil) .nil) (.node o431 .nil .nil)) (.node o239 (.node (o367 p) .nil .nil) (.node o495 .nil .nil))))) (.node o23 (.node o39 (.node o71 (.node o135 (.node o263 (.node (o519 p) .nil .nil) .nil) (.node o391 .nil .nil)) (.node o199 (.node (o327 p) .nil .nil) (.node (o455 p) .nil .nil))) (.node o103 (.node o167 (.node o295 (.node o551 .nil .nil) .nil) (.node (o423 p) .nil .nil)) (.node (o231 p) (.node o359 .nil .nil) (.node o487 .nil .nil)))) (.node o55 (.node o87 (.node o151 (.node o279 (.node o535 .nil .nil) .nil) (.node (o407 p) .nil .nil)) (.node o215 (.node o343 .nil .nil) (.node o471 .nil .nil))) (.node o119 (.node (o183 p) (.node (o311 p) .nil .nil) (.node o439 .nil .nil)) (.node o247 (.node o375 .nil .nil) (.node o503 .nil .nil)))))) (.node o11 (.node (o19 p) (.node (o35 p) (.node o67 (.node o131 (.node (o259 p) (.node o515 .nil .nil) .nil) (.node o387 .nil .nil)) (.node (o195 p) (.node o323 .nil .nil) (.node o451 .nil .nil))) (.node o99 (.node o163 (.node o291 (.node o547 .nil .nil) .nil) (.node o419 .nil .nil)) (.node o227 (.node o355 .nil .nil) (.node o483 .nil .nil)))) (.node o51 (.node (o83 p) (.node o147 (.node o275 (.node (o531 p) .nil .nil) .nil) (.node o403 .nil .nil)) (.node o211 (.node (o339 p) .nil .nil) (.node o467 .nil .nil))) (.node o115 (.node o179 (.node o307 (.node o563 .nil .nil) .nil) (.node o435 .nil .nil)) (.node (o243 p) (.node o371 .nil .nil) (.node o499 .nil .nil))))) (.node o27 (.node o43 (.node o75 (.node (o139 p) (.node o267 (.node o523 .nil .nil) .nil) (.node (o395 p) .nil .nil)) (.node o203 (.node o331 .nil .nil) (.node o459 .nil .nil))) (.node o107 (.node (o171 p) (.node (o299 p) (.node o555 .nil .nil) .nil) (.node o427 .nil .nil)) (.node o235 (.node o363 .nil .nil) (.node (o491 p) .nil .nil)))) (.node o59 (.node o91 (.node o155 (.node o283 (.node o539 .nil .nil) .nil) (.node o411 .nil .nil)) (.node (o219 p) (.node o347 .nil .nil) (.node o475 .nil .nil))) (.node (o123 p) (.node o187 (.node o315 .nil .nil) (.node (o443 p) .nil .nil)) (.node o251 (.node (o379 p) .nil .nil) (.node (o507 p) .nil .nil))))))) (.node (boot_o_5 P) (.node (boot_o_9 P) (.node o17 (.node (o33 p) (.node o65 (.node o129 (.node (o257 p) (.node o513 .nil .nil) .nil) (.node o385 .nil .nil)) (.node o193 (.node o321 .nil .nil) (.node o449 .nil .nil))) (.node (o97 p) (.node (o161 p) (.node o289 (.node (o545 p) .nil .nil) .nil) (.node o417 .nil .nil)) (.node o225 (.node o353 .nil .nil) (.node (o481 p) .nil .nil)))) (.node o49 (.node (o81 p) (.node o145 (.node (o273 p) (.node o529 .nil .nil) .nil) (.node o401 .nil .nil)) (.node (o209 p) (.node (o337 p) .nil .nil) (.node o465 .nil .nil))) (.node o113 (.node o177 (.node o305 (.node o561 .nil .nil) .nil) (.node (o433 P) .nil .nil)) (.node o241 (.node o369 .nil .nil) (.node o497 .nil .nil))))) (.node o25 (.node o41 (.node o73 (.node (o137 p) (.node o265 (.node (o521 p) .nil .nil) .nil) (.node (o393 p) .nil .nil)) (.node o201 (.node o329 .nil .nil) (.node (o457 p) .nil .nil))) (.node o105 (.node (o169 p) (.node o297 (.node o553 .nil .nil) .nil) (.node (o425 P) .nil .nil)) (.node (o233 p) (.node o361 .nil .nil) (.node o489 .nil .nil)))) (.node o57 (.node o89 (.node o153 (.node o281 (.node o537 .nil .nil) .nil) (.node (o409 p) .nil .nil)) (.node (o217 p) (.node o345 .nil .nil) (.node o473 .nil .nil))) (.node o121 (.node (o185 P) (.node (o313 p) .nil .nil) (.node o441 .nil .nil)) (.node o249 (.node o377 .nil .nil) (.node (o505 p) .nil .nil)))))) (.node o13 (.node (o21 p) (.node o37 (.node o69 (.node o133 (.node o261 (.node o517 .nil .nil) .nil) (.node o389 .nil .nil)) (.node (o197 p) (.node (o325 p) .nil .nil) (.node o453 .nil .nil))) (.node o101 (.node o165 (.node o293 (.node o549 .nil .nil) .nil) (.node (o421 p) .nil .nil)) (.node o229 (.node o357 .nil .nil) (.node o485 .nil .nil)))) (.node o53 (.node o85 (.node (o149 P) (.node o277 (.node (o533 p) .nil .nil) .nil) (.node o405 .nil .nil)) (.node o213 (.node o341 .nil .nil) (.node o469 .nil .nil))) (.node o117 (.node (o181 p) (.node o309 (.node o565 .nil .nil) .nil) (.node o437 .nil .nil)) (.node (o245 p) (.node o373 .nil .nil) (.node o501 .nil .nil))))) (.node o29 (.node o45 (.node o77 (.node (o141 P) (.node o269 (.node o525 .nil .nil) .nil) (.node o397 .nil .nil)) (.node o205 (.node o333 .nil .nil) (.node o461 .nil .nil))) (.node (o109 p) (.node o173 (.node (o301 p) (.node (o557 p) .nil .nil) .nil) (.node o429 .nil .nil)) (.node o237 (.node (o365 p) .nil .nil) (.node (o493 p) .nil .nil)))) (.node o61 (.node o93 (.node o157 (.node (o285 p) (.node o541 .nil .nil) .nil) (.node o413 .nil .nil)) (.node o221 (.node (o349 P) .nil .nil) (.node o477 .nil .nil))) (.node (o125 p) (.node o189 (.node o317 .nil .nil) (.node (o445 p) .nil .nil)) (.node o253 (.node (o381 p) .nil .nil) (.node (o509 P) .nil .nil)))))))) (.node (boot_o_2 P) (.node (boot_o_4 P) (.node (boot_o_8 P) (.node o16 (.node o32 (.node (o64 P) (.node o128 (.node o256 (.node o512 .nil .nil) .nil) (.node o384 .nil .nil)) (.node o192 (.node (o320 p) .nil .nil) (.node (o448 p) .nil .nil))) (.node o96 (.node o160 (.node o288 (.node o544 .nil .nil) .nil) (.node (o416 p) .nil .nil)) (.node (o224 p) (.node o352 .nil .nil) (.node o480 .nil .nil)))) (.node o48 (.node o80 (.node o144 (.node o272 (.node (o528 p) .nil .nil) .nil) (.node o400 .nil .nil)) (.node o208 (.node o336 .nil .nil) (.node (o464 p) .nil .nil))) (.node o112 (.node (o176 p) (.node o304 (.node o560 .nil .nil) .nil) (.node o432 .nil .nil)) (.node o240 (.node o368 .nil .nil) (.node (o496 P) .nil .nil))))) (.node (o24 P) (.node (o40 p) (.node o72 (.node o136 (.node (o264 p) (.node o520 .nil .nil) .nil) (.node o392 .nil .nil)) (.node o200 (.node o328 .nil .nil) (.node o456 .nil .nil))) (.node (o104 p) (.node o168 (.node o296 (.node (o552 p) .nil .nil) .nil) (.node o424 .nil .nil)) (.node o232 (.node (o360 p) .nil .nil) (.node (o488 p) .nil .nil)))) (.node o56 (.node (o88 p) (.node o152 (.node (o280 p) (.node (o536 p) .nil .nil) .nil) (.node o408 .nil .nil)) (.node o216 (.node (o344 p) .nil .nil) (.node o472 .nil .nil))) (.node o120 (.node o184 (.node o312 .nil .nil) (.node o440 .nil .nil)) (.node o248 (.node o376 .nil .nil) (.node o504 .nil .nil)))))) (.node c11 (.node o20 (.node o36 (.node o68 (.node (o132 p) (.node o260 (.node o516 .nil .nil) .nil) (.node o388 .nil .nil)) (.node o196 (.node o324 .nil .nil) (.node o452 .nil .nil))) (.node o100 (.node (o164 p) (.node (o292 p) (.node o548 .nil .nil) .nil) (.node o420 .nil .nil)) (.node o228 (.node o356 .nil .nil) (.node o484 .nil .nil)))) (.node o52 (.node o84 (.node o148 (.node o276 (.node o532 .nil .nil) .nil) (.node o404 .nil .nil)) (.node (o212 p) (.node o340 .nil .nil) (.node o468 .nil .nil))) (.node o116 (.node o180 (.node (o308 p) (.node (o564 p) .nil .nil) .nil) (.node o436 .nil .nil)) (.node o244 (.node (o372 p) .nil .nil) (.node o500 .nil .nil))))) (.node o28 (.node o44 (.node (o76 p) (.node o140 (.node o268 (.node o524 .nil .nil) .nil) (.node o396 .nil .nil)) (.node (o204 p) (.node (o332 p) .nil .nil) (.node o460 .nil .nil))) (.node o108 (.node o172 (.node o300 (.node o556 .nil .nil) .nil) (.node o428 .nil .nil)) (.node (o236 p) (.node o364 .nil .nil) (.node o492 .nil .nil)))) (.node (o60 p) (.node o92 (.node o156 (.node o284 (.node o540 .nil .nil) .nil) (.node o412 .nil .nil)) (.node o220 (.node o348 .nil .nil) (.node (o476 p) .nil .nil))) (.node o124 (.node o188 (.node o316 .nil .nil) (.node o444 .nil .nil)) (.node (o252 p) (.node o380 .nil .nil) (.node o508 .nil .nil))))))) (.node (boot_o_6 P) (.node (boot_o_10 P) (.node o18 (.node o34 (.node o66 (.node (o130 p) (.node o258 (.node o514 .nil .nil) .nil) (.node o386 .nil .nil)) (.node o194 (.node o322 .nil .nil) (.node (o450 p) .nil .nil))) (.node o98 (.node o162 (.node o290 (.node o546 .nil .nil) .nil) (.node o418 .nil .nil)) (.node (o226 p) (.node o354 .nil .nil) (.node o482 .nil .nil)))) (.node (o50 P) (.node o82 (.node o146 (.node o274 (.node o530 .nil .nil) .nil) (.node o402 .nil .nil)) (.node o210 (.node o338 .nil .nil) (.node (o466 P) .nil .nil))) (.node (o114 P) (.node o178 (.node (o306 p) (.node o562 .nil .nil) .nil) (.node o434 .nil .nil)) (.node o242 (.node o370 .nil .nil) (.node o498 .nil .nil))))) (.node o26 (.node (o42 P) (.node (o74 p) (.node o138 (.node (o266 p) (.node o522 .nil .nil) .nil) (.node o394 .nil .nil)) (.node (o202 p) (.node o330 .nil .nil) (.node o458 .nil .nil))) (.node o106 (.node o170 (.node o298 (.node o554 .nil .nil) .nil) (.node o426 .nil .nil)) (.node o234 (.node o362 .nil .nil) (.node o490 .nil .nil)))) (.node o58 (.node (o90 p) (.node o154 (.node o282 (.node (o538 p) .nil .nil) .nil) (.node o410 .nil .nil)) (.node o218 (.node (o346 p) .nil .nil) (.node (o474 p) .nil .nil))) (.node o122 (.node o186 (.node o314 .nil .nil) (.node o442 .nil .nil)) (.node (o250 p) (.node o378 .nil .nil) (.node o506 .nil .nil)))))) (.node o14 (.node o22 (.node (o38 p) (.node o70 (.node o134 (.node o262 (.node o518 .nil .nil) .nil) (.node o390 .nil .nil)) (.node o198 (.node o326 .nil .nil) (.node o454 .nil .nil))) (.node (o102 p) (.node (o166 p) (.node (o294 p) (.node (o550 p) .nil .nil) .nil) (.node o422 .nil .nil)) (.node o230 (.node (o358 p) .nil .nil) (.node (o486 p) .nil .nil)))) (.node o54 (.node o86 (.node o150 (.node (o278 p) (.node o534 .nil .nil) .nil) (.node o406 .nil .nil)) (.node (o214 p) (.node o342 .nil .nil) (.node o470 .nil .nil))) (.node o118 (.node o182 (.node o310 (.node (o566 p) .nil .nil) .nil) (.node o438 .nil .nil)) (.node o246 (.node (o374 p) .nil .nil) (.node o502 .nil .nil))))) (.node o30 (.node o46 (.node o78 (.node o142 (.node o270 (.node (o526 p) .nil .nil) .nil) (.node (o398 P) .nil .nil)) (.node o206 (.node (o334 p) .nil .nil) (.node (o462 p) .nil .nil))) (.node o110 (.node (o174 p) (.node o302 (.node o558 .nil .nil) .nil) (.node o430 .nil .nil)) (.node (o238 p) (.node o366 .nil .nil) (.node o494 .nil .nil)))) (.node (o62 p) (.node o94 (.node o158 (.node o286 (.node o542 .nil .nil) .nil) (.node (o414 p) .nil .nil)) (.node o222 (.node o350 .nil .nil) (.node o478 .nil .nil))) (.node o126 (.node o190 (.node (o318 p) .nil .nil) (.node o446 .nil .nil)) (.node o254 (.node o382 .nil .nil) (.node o510 .nil .nil)))))))))
noncomputable def g12 (P : Params) : Obj := dc (en P n245 165 (.str n190 1078) :: (gRest P).take 74) 75
noncomputable def c12 : Obj := fl .none (cAll.take 162)
noncomputable def T12 (p : Program) (P : Params) : BT := (.node (boot_o_0 P) (.node (boot_o_1 P) (.node (g12 P) (.node (boot_o_7 P) (.node o15 (.node o31 (.node o63 (.node o127 (.node o255 (.node o511 .nil .nil) .nil) (.node (o383 P) .nil .nil)) (.node o191 (.node o319 (.node o575 .nil .nil) .nil) (.node o447 .nil .nil))) (.node (o95 p) (.node (o159 p) (.node (o287 p) (.node (o543 p) .nil .nil) .nil) (.node o415 .nil .nil)) (.node o223 (.node o351 .nil .nil) (.node (o479 p) .nil .nil)))) (.node o47 (.node o79 (.node o143 (.node (o271 p) (.node o527 .nil .nil) .nil) (.node o399 .nil .nil)) (.node (o207 p) (.node o335 (.node o591 .nil .nil) .nil) (.node o463 .nil .nil))) (.node (o111 p) (.node o175 (.node o303 (.node (o559 p) .nil .nil) .nil) (.node o431 .nil .nil)) (.node o239 (.node (o367 p) .nil .nil) (.node o495 .nil .nil))))) (.node o23 (.node o39 (.node o71 (.node o135 (.node o263 (.node (o519 p) .nil .nil) .nil) (.node o391 .nil .nil)) (.node o199 (.node (o327 p) (.node (o583 p) .nil .nil) .nil) (.node (o455 p) .nil .nil))) (.node o103 (.node o167 (.node o295 (.node o551 .nil .nil) .nil) (.node (o423 p) .nil .nil)) (.node (o231 p) (.node o359 .nil .nil) (.node o487 .nil .nil)))) (.node o55 (.node o87 (.node o151 (.node o279 (.node o535 .nil .nil) .nil) (.node (o407 p) .nil .nil)) (.node o215 (.node o343 (.node (o599 p) .nil .nil) .nil) (.node o471 .nil .nil))) (.node o119 (.node (o183 p) (.node (o311 p) (.node o567 .nil .nil) .nil) (.node o439 .nil .nil)) (.node o247 (.node o375 .nil .nil) (.node o503 .nil .nil)))))) (.node o11 (.node (o19 p) (.node (o35 p) (.node o67 (.node o131 (.node (o259 p) (.node o515 .nil .nil) .nil) (.node o387 .nil .nil)) (.node (o195 p) (.node o323 (.node o579 .nil .nil) .nil) (.node o451 .nil .nil))) (.node o99 (.node o163 (.node o291 (.node o547 .nil .nil) .nil) (.node o419 .nil .nil)) (.node o227 (.node o355 .nil .nil) (.node o483 .nil .nil)))) (.node o51 (.node (o83 p) (.node o147 (.node o275 (.node (o531 p) .nil .nil) .nil) (.node o403 .nil .nil)) (.node o211 (.node (o339 p) (.node o595 .nil .nil) .nil) (.node o467 .nil .nil))) (.node o115 (.node o179 (.node o307 (.node o563 .nil .nil) .nil) (.node o435 .nil .nil)) (.node (o243 p) (.node o371 .nil .nil) (.node o499 .nil .nil))))) (.node o27 (.node o43 (.node o75 (.node (o139 p) (.node o267 (.node o523 .nil .nil) .nil) (.node (o395 p) .nil .nil)) (.node o203 (.node o331 (.node (o587 P) .nil .nil) .nil) (.node o459 .nil .nil))) (.node o107 (.node (o171 p) (.node (o299 p) (.node o555 .nil .nil) .nil) (.node o427 .nil .nil)) (.node o235 (.node o363 .nil .nil) (.node (o491 p) .nil .nil)))) (.node o59 (.node o91 (.node o155 (.node o283 (.node o539 .nil .nil) .nil) (.node o411 .nil .nil)) (.node (o219 p) (.node o347 .nil .nil) (.node o475 .nil .nil))) (.node (o123 p) (.node o187 (.node o315 (.node o571 .nil .nil) .nil) (.node (o443 p) .nil .nil)) (.node o251 (.node (o379 p) .nil .nil) (.node (o507 p) .nil .nil))))))) (.node (boot_o_5 P) (.node (boot_o_9 P) (.node o17 (.node (o33 p) (.node o65 (.node o129 (.node (o257 p) (.node o513 .nil .nil) .nil) (.node o385 .nil .nil)) (.node o193 (.node o321 (.node o577 .nil .nil) .nil) (.node o449 .nil .nil))) (.node (o97 p) (.node (o161 p) (.node o289 (.node (o545 p) .nil .nil) .nil) (.node o417 .nil .nil)) (.node o225 (.node o353 .nil .nil) (.node (o481 p) .nil .nil)))) (.node o49 (.node (o81 p) (.node o145 (.node (o273 p) (.node o529 .nil .nil) .nil) (.node o401 .nil .nil)) (.node (o209 p) (.node (o337 p) (.node o593 .nil .nil) .nil) (.node o465 .nil .nil))) (.node o113 (.node o177 (.node o305 (.node o561 .nil .nil) .nil) (.node (o433 P) .nil .nil)) (.node o241 (.node o369 .nil .nil) (.node o497 .nil .nil))))) (.node o25 (.node o41 (.node o73 (.node (o137 p) (.node o265 (.node (o521 p) .nil .nil) .nil) (.node (o393 p) .nil .nil)) (.node o201 (.node o329 (.node (o585 p) .nil .nil) .nil) (.node (o457 p) .nil .nil))) (.node o105 (.node (o169 p) (.node o297 (.node o553 .nil .nil) .nil) (.node (o425 P) .nil .nil)) (.node (o233 p) (.node o361 .nil .nil) (.node o489 .nil .nil)))) (.node o57 (.node o89 (.node o153 (.node o281 (.node o537 .nil .nil) .nil) (.node (o409 p) .nil .nil)) (.node (o217 p) (.node o345 .nil .nil) (.node o473 .nil .nil))) (.node o121 (.node (o185 P) (.node (o313 p) (.node (o569 P) .nil .nil) .nil) (.node o441 .nil .nil)) (.node o249 (.node o377 .nil .nil) (.node (o505 p) .nil .nil)))))) (.node o13 (.node (o21 p) (.node o37 (.node o69 (.node o133 (.node o261 (.node o517 .nil .nil) .nil) (.node o389 .nil .nil)) (.node (o197 p) (.node (o325 p) (.node o581 .nil .nil) .nil) (.node o453 .nil .nil))) (.node o101 (.node o165 (.node o293 (.node o549 .nil .nil) .nil) (.node (o421 p) .nil .nil)) (.node o229 (.node o357 .nil .nil) (.node o485 .nil .nil)))) (.node o53 (.node o85 (.node (o149 P) (.node o277 (.node (o533 p) .nil .nil) .nil) (.node o405 .nil .nil)) (.node o213 (.node o341 (.node (o597 p) .nil .nil) .nil) (.node o469 .nil .nil))) (.node o117 (.node (o181 p) (.node o309 (.node o565 .nil .nil) .nil) (.node o437 .nil .nil)) (.node (o245 p) (.node o373 .nil .nil) (.node o501 .nil .nil))))) (.node o29 (.node o45 (.node o77 (.node (o141 P) (.node o269 (.node o525 .nil .nil) .nil) (.node o397 .nil .nil)) (.node o205 (.node o333 (.node o589 .nil .nil) .nil) (.node o461 .nil .nil))) (.node (o109 p) (.node o173 (.node (o301 p) (.node (o557 p) .nil .nil) .nil) (.node o429 .nil .nil)) (.node o237 (.node (o365 p) .nil .nil) (.node (o493 p) .nil .nil)))) (.node o61 (.node o93 (.node o157 (.node (o285 p) (.node o541 .nil .nil) .nil) (.node o413 .nil .nil)) (.node o221 (.node (o349 P) .nil .nil) (.node o477 .nil .nil))) (.node (o125 p) (.node o189 (.node o317 (.node o573 .nil .nil) .nil) (.node (o445 p) .nil .nil)) (.node o253 (.node (o381 p) .nil .nil) (.node (o509 P) .nil .nil)))))))) (.node (boot_o_2 P) (.node (boot_o_4 P) (.node (boot_o_8 P) (.node o16 (.node o32 (.node (o64 P) (.node o128 (.node o256 (.node o512 .nil .nil) .nil) (.node o384 .nil .nil)) (.node o192 (.node (o320 p) (.node o576 .nil .nil) .nil) (.node (o448 p) .nil .nil))) (.node o96 (.node o160 (.node o288 (.node o544 .nil .nil) .nil) (.node (o416 p) .nil .nil)) (.node (o224 p) (.node o352 .nil .nil) (.node o480 .nil .nil)))) (.node o48 (.node o80 (.node o144 (.node o272 (.node (o528 p) .nil .nil) .nil) (.node o400 .nil .nil)) (.node o208 (.node o336 (.node o592 .nil .nil) .nil) (.node (o464 p) .nil .nil))) (.node o112 (.node (o176 p) (.node o304 (.node o560 .nil .nil) .nil) (.node o432 .nil .nil)) (.node o240 (.node o368 .nil .nil) (.node (o496 P) .nil .nil))))) (.node (o24 P) (.node (o40 p) (.node o72 (.node o136 (.node (o264 p) (.node o520 .nil .nil) .nil) (.node o392 .nil .nil)) (.node o200 (.node o328 (.node o584 .nil .nil) .nil) (.node o456 .nil .nil))) (.node (o104 p) (.node o168 (.node o296 (.node (o552 p) .nil .nil) .nil) (.node o424 .nil .nil)) (.node o232 (.node (o360 p) .nil .nil) (.node (o488 p) .nil .nil)))) (.node o56 (.node (o88 p) (.node o152 (.node (o280 p) (.node (o536 p) .nil .nil) .nil) (.node o408 .nil .nil)) (.node o216 (.node (o344 p) .nil .nil) (.node o472 .nil .nil))) (.node o120 (.node o184 (.node o312 (.node o568 .nil .nil) .nil) (.node o440 .nil .nil)) (.node o248 (.node o376 .nil .nil) (.node o504 .nil .nil)))))) (.node c12 (.node o20 (.node o36 (.node o68 (.node (o132 p) (.node o260 (.node o516 .nil .nil) .nil) (.node o388 .nil .nil)) (.node o196 (.node o324 (.node (o580 p) .nil .nil) .nil) (.node o452 .nil .nil))) (.node o100 (.node (o164 p) (.node (o292 p) (.node o548 .nil .nil) .nil) (.node o420 .nil .nil)) (.node o228 (.node o356 .nil .nil) (.node o484 .nil .nil)))) (.node o52 (.node o84 (.node o148 (.node o276 (.node o532 .nil .nil) .nil) (.node o404 .nil .nil)) (.node (o212 p) (.node o340 (.node o596 .nil .nil) .nil) (.node o468 .nil .nil))) (.node o116 (.node o180 (.node (o308 p) (.node (o564 p) .nil .nil) .nil) (.node o436 .nil .nil)) (.node o244 (.node (o372 p) .nil .nil) (.node o500 .nil .nil))))) (.node o28 (.node o44 (.node (o76 p) (.node o140 (.node o268 (.node o524 .nil .nil) .nil) (.node o396 .nil .nil)) (.node (o204 p) (.node (o332 p) (.node o588 .nil .nil) .nil) (.node o460 .nil .nil))) (.node o108 (.node o172 (.node o300 (.node o556 .nil .nil) .nil) (.node o428 .nil .nil)) (.node (o236 p) (.node o364 .nil .nil) (.node o492 .nil .nil)))) (.node (o60 p) (.node o92 (.node o156 (.node o284 (.node o540 .nil .nil) .nil) (.node o412 .nil .nil)) (.node o220 (.node o348 .nil .nil) (.node (o476 p) .nil .nil))) (.node o124 (.node o188 (.node o316 (.node o572 .nil .nil) .nil) (.node o444 .nil .nil)) (.node (o252 p) (.node o380 .nil .nil) (.node o508 .nil .nil))))))) (.node (boot_o_6 P) (.node (boot_o_10 P) (.node o18 (.node o34 (.node o66 (.node (o130 p) (.node o258 (.node o514 .nil .nil) .nil) (.node o386 .nil .nil)) (.node o194 (.node o322 (.node (o578 p) .nil .nil) .nil) (.node (o450 p) .nil .nil))) (.node o98 (.node o162 (.node o290 (.node o546 .nil .nil) .nil) (.node o418 .nil .nil)) (.node (o226 p) (.node o354 .nil .nil) (.node o482 .nil .nil)))) (.node (o50 P) (.node o82 (.node o146 (.node o274 (.node o530 .nil .nil) .nil) (.node o402 .nil .nil)) (.node o210 (.node o338 (.node o594 .nil .nil) .nil) (.node (o466 P) .nil .nil))) (.node (o114 P) (.node o178 (.node (o306 p) (.node o562 .nil .nil) .nil) (.node o434 .nil .nil)) (.node o242 (.node o370 .nil .nil) (.node o498 .nil .nil))))) (.node o26 (.node (o42 P) (.node (o74 p) (.node o138 (.node (o266 p) (.node o522 .nil .nil) .nil) (.node o394 .nil .nil)) (.node (o202 p) (.node o330 (.node o586 .nil .nil) .nil) (.node o458 .nil .nil))) (.node o106 (.node o170 (.node o298 (.node o554 .nil .nil) .nil) (.node o426 .nil .nil)) (.node o234 (.node o362 .nil .nil) (.node o490 .nil .nil)))) (.node o58 (.node (o90 p) (.node o154 (.node o282 (.node (o538 p) .nil .nil) .nil) (.node o410 .nil .nil)) (.node o218 (.node (o346 p) .nil .nil) (.node (o474 p) .nil .nil))) (.node o122 (.node o186 (.node o314 (.node o570 .nil .nil) .nil) (.node o442 .nil .nil)) (.node (o250 p) (.node o378 .nil .nil) (.node o506 .nil .nil)))))) (.node o14 (.node o22 (.node (o38 p) (.node o70 (.node o134 (.node o262 (.node o518 .nil .nil) .nil) (.node o390 .nil .nil)) (.node o198 (.node o326 (.node o582 .nil .nil) .nil) (.node o454 .nil .nil))) (.node (o102 p) (.node (o166 p) (.node (o294 p) (.node (o550 p) .nil .nil) .nil) (.node o422 .nil .nil)) (.node o230 (.node (o358 p) .nil .nil) (.node (o486 p) .nil .nil)))) (.node o54 (.node o86 (.node o150 (.node (o278 p) (.node o534 .nil .nil) .nil) (.node o406 .nil .nil)) (.node (o214 p) (.node o342 (.node o598 .nil .nil) .nil) (.node o470 .nil .nil))) (.node o118 (.node o182 (.node o310 (.node (o566 p) .nil .nil) .nil) (.node o438 .nil .nil)) (.node o246 (.node (o374 p) .nil .nil) (.node o502 .nil .nil))))) (.node o30 (.node o46 (.node o78 (.node o142 (.node o270 (.node (o526 p) .nil .nil) .nil) (.node (o398 P) .nil .nil)) (.node o206 (.node (o334 p) (.node o590 .nil .nil) .nil) (.node (o462 p) .nil .nil))) (.node o110 (.node (o174 p) (.node o302 (.node o558 .nil .nil) .nil) (.node o430 .nil .nil)) (.node (o238 p) (.node o366 .nil .nil) (.node o494 .nil .nil)))) (.node (o62 p) (.node o94 (.node o158 (.node o286 (.node o542 .nil .nil) .nil) (.node (o414 p) .nil .nil)) (.node o222 (.node o350 .nil .nil) (.node o478 .nil .nil))) (.node o126 (.node o190 (.node (o318 p) (.node o574 .nil .nil) .nil) (.node o446 .nil .nil)) (.node o254 (.node o382 .nil .nil) (.node o510 .nil .nil)))))))))
noncomputable def g13 (P : Params) : Obj := dc (en P n245 165 (.str n190 1078) :: (gRest P).take 75) 76
noncomputable def c13 : Obj := fl .none (cAll.take 165)
noncomputable def T13 (p : Program) (P : Params) : BT := (.node (boot_o_0 P) (.node (boot_o_1 P) (.node (g13 P) (.node (boot_o_7 P) (.node o15 (.node o31 (.node o63 (.node o127 (.node o255 (.node o511 .nil .nil) .nil) (.node (o383 P) .nil .nil)) (.node o191 (.node o319 (.node o575 .nil .nil) .nil) (.node o447 .nil .nil))) (.node (o95 p) (.node (o159 p) (.node (o287 p) (.node (o543 p) .nil .nil) .nil) (.node o415 .nil .nil)) (.node o223 (.node o351 (.node o607 .nil .nil) .nil) (.node (o479 p) .nil .nil)))) (.node o47 (.node o79 (.node o143 (.node (o271 p) (.node o527 .nil .nil) .nil) (.node o399 .nil .nil)) (.node (o207 p) (.node o335 (.node o591 .nil .nil) .nil) (.node o463 .nil .nil))) (.node (o111 p) (.node o175 (.node o303 (.node (o559 p) .nil .nil) .nil) (.node o431 .nil .nil)) (.node o239 (.node (o367 p) (.node o623 .nil .nil) .nil) (.node o495 .nil .nil))))) (.node o23 (.node o39 (.node o71 (.node o135 (.node o263 (.node (o519 p) .nil .nil) .nil) (.node o391 .nil .nil)) (.node o199 (.node (o327 p) (.node (o583 p) .nil .nil) .nil) (.node (o455 p) .nil .nil))) (.node o103 (.node o167 (.node o295 (.node o551 .nil .nil) .nil) (.node (o423 p) .nil .nil)) (.node (o231 p) (.node o359 (.node o615 .nil .nil) .nil) (.node o487 .nil .nil)))) (.node o55 (.node o87 (.node o151 (.node o279 (.node o535 .nil .nil) .nil) (.node (o407 p) .nil .nil)) (.node o215 (.node o343 (.node (o599 p) .nil .nil) .nil) (.node o471 .nil .nil))) (.node o119 (.node (o183 p) (.node (o311 p) (.node o567 .nil .nil) .nil) (.node o439 .nil .nil)) (.node o247 (.node o375 .nil .nil) (.node o503 .nil .nil)))))) (.node o11 (.node (o19 p) (.node (o35 p) (.node o67 (.node o131 (.node (o259 p) (.node o515 .nil .nil) .nil) (.node o387 .nil .nil)) (.node (o195 p) (.node o323 (.node o579 .nil .nil) .nil) (.node o451 .nil .nil))) (.node o99 (.node o163 (.node o291 (.node o547 .nil .nil) .nil) (.node o419 .nil .nil)) (.node o227 (.node o355 (.node (o611 p) .nil .nil) .nil) (.node o483 .nil .nil)))) (.node o51 (.node (o83 p) (.node o147 (.node o275 (.node (o531 p) .nil .nil) .nil) (.node o403 .nil .nil)) (.node o211 (.node (o339 p) (.node o595 .nil .nil) .nil) (.node o467 .nil .nil))) (.node o115 (.node o179 (.node o307 (.node o563 .nil .nil) .nil) (.node o435 .nil .nil)) (.node (o243 p) (.node o371 .nil .nil) (.node o499 .nil .nil))))) (.node o27 (.node o43 (.node o75 (.node (o139 p) (.node o267 (.node o523 .nil .nil) .nil) (.node (o395 p) .nil .nil)) (.node o203 (.node o331 (.node (o587 P) .nil .nil) .nil) (.node o459 .nil .nil))) (.node o107 (.node (o171 p) (.node (o299 p) (.node o555 .nil .nil) .nil) (.node o427 .nil .nil)) (.node o235 (.node o363 (.node o619 .nil .nil) .nil) (.node (o491 p) .nil .nil)))) (.node o59 (.node o91 (.node o155 (.node o283 (.node o539 .nil .nil) .nil) (.node o411 .nil .nil)) (.node (o219 p) (.node o347 (.node o603 .nil .nil) .nil) (.node o475 .nil .nil))) (.node (o123 p) (.node o187 (.node o315 (.node o571 .nil .nil) .nil) (.node (o443 p) .nil .nil)) (.node o251 (.node (o379 p) .nil .nil) (.node (o507 p) .nil .nil))))))) (.node (boot_o_5 P) (.node (boot_o_9 P) (.node o17 (.node (o33 p) (.node o65 (.node o129 (.node (o257 p) (.node o513 .nil .nil) .nil) (.node o385 .nil .nil)) (.node o193 (.node o321 (.node o577 .nil .nil) .nil) (.node o449 .nil .nil))) (.node (o97 p) (.node (o161 p) (.node o289 (.node (o545 p) .nil .nil) .nil) (.node o417 .nil .nil)) (.node o225 (.node o353 (.node o609 .nil .nil) .nil) (.node (o481 p) .nil .nil)))) (.node o49 (.node (o81 p) (.node o145 (.node (o273 p) (.node o529 .nil .nil) .nil) (.node o401 .nil .nil)) (.node (o209 p) (.node (o337 p) (.node o593 .nil .nil) .nil) (.node o465 .nil .nil))) (.node o113 (.node o177 (.node o305 (.node o561 .nil .nil) .nil) (.node (o433 P) .nil .nil)) (.node o241 (.node o369 (.node o625 .nil .nil) .nil) (.node o497 .nil .nil))))) (.node o25 (.node o41 (.node o73 (.node (o137 p) (.node o265 (.node (o521 p) .nil .nil) .nil) (.node (o393 p) .nil .nil)) (.node o201 (.node o329 (.node (o585 p) .nil .nil) .nil) (.node (o457 p) .nil .nil))) (.node o105 (.node (o169 p) (.node o297 (.node o553 .nil .nil) .nil) (.node (o425 P) .nil .nil)) (.node (o233 p) (.node o361 (.node o617 .nil .nil) .nil) (.node o489 .nil .nil)))) (.node o57 (.node o89 (.node o153 (.node o281 (.node o537 .nil .nil) .nil) (.node (o409 p) .nil .nil)) (.node (o217 p) (.node o345 (.node o601 .nil .nil) .nil) (.node o473 .nil .nil))) (.node o121 (.node (o185 P) (.node (o313 p) (.node (o569 P) .nil .nil) .nil) (.node o441 .nil .nil)) (.node o249 (.node o377 .nil .nil) (.node (o505 p) .nil .nil)))))) (.node o13 (.node (o21 p) (.node o37 (.node o69 (.node o133 (.node o261 (.node o517 .nil .nil) .nil) (.node o389 .nil .nil)) (.node (o197 p) (.node (o325 p) (.node o581 .nil .nil) .nil) (.node o453 .nil .nil))) (.node o101 (.node o165 (.node o293 (.node o549 .nil .nil) .nil) (.node (o421 p) .nil .nil)) (.node o229 (.node o357 (.node (o613 p) .nil .nil) .nil) (.node o485 .nil .nil)))) (.node o53 (.node o85 (.node (o149 P) (.node o277 (.node (o533 p) .nil .nil) .nil) (.node o405 .nil .nil)) (.node o213 (.node o341 (.node (o597 p) .nil .nil) .nil) (.node o469 .nil .nil))) (.node o117 (.node (o181 p) (.node o309 (.node o565 .nil .nil) .nil) (.node o437 .nil .nil)) (.node (o245 p) (.node o373 .nil .nil) (.node o501 .nil .nil))))) (.node o29 (.node o45 (.node o77 (.node (o141 P) (.node o269 (.node o525 .nil .nil) .nil) (.node o397 .nil .nil)) (.node o205 (.node o333 (.node o589 .nil .nil) .nil) (.node o461 .nil .nil))) (.node (o109 p) (.node o173 (.node (o301 p) (.node (o557 p) .nil .nil) .nil) (.node o429 .nil .nil)) (.node o237 (.node (o365 p) (.node o621 .nil .nil) .nil) (.node (o493 p) .nil .nil)))) (.node o61 (.node o93 (.node o157 (.node (o285 p) (.node o541 .nil .nil) .nil) (.node o413 .nil .nil)) (.node o221 (.node (o349 P) (.node o605 .nil .nil) .nil) (.node o477 .nil .nil))) (.node (o125 p) (.node o189 (.node o317 (.node o573 .nil .nil) .nil) (.node (o445 p) .nil .nil)) (.node o253 (.node (o381 p) .nil .nil) (.node (o509 P) .nil .nil)))))))) (.node (boot_o_2 P) (.node (boot_o_4 P) (.node (boot_o_8 P) (.node o16 (.node o32 (.node (o64 P) (.node o128 (.node o256 (.node o512 .nil .nil) .nil) (.node o384 .nil .nil)) (.node o192 (.node (o320 p) (.node o576 .nil .nil) .nil) (.node (o448 p) .nil .nil))) (.node o96 (.node o160 (.node o288 (.node o544 .nil .nil) .nil) (.node (o416 p) .nil .nil)) (.node (o224 p) (.node o352 (.node o608 .nil .nil) .nil) (.node o480 .nil .nil)))) (.node o48 (.node o80 (.node o144 (.node o272 (.node (o528 p) .nil .nil) .nil) (.node o400 .nil .nil)) (.node o208 (.node o336 (.node o592 .nil .nil) .nil) (.node (o464 p) .nil .nil))) (.node o112 (.node (o176 p) (.node o304 (.node o560 .nil .nil) .nil) (.node o432 .nil .nil)) (.node o240 (.node o368 (.node o624 .nil .nil) .nil) (.node (o496 P) .nil .nil))))) (.node (o24 P) (.node (o40 p) (.node o72 (.node o136 (.node (o264 p) (.node o520 .nil .nil) .nil) (.node o392 .nil .nil)) (.node o200 (.node o328 (.node o584 .nil .nil) .nil) (.node o456 .nil .nil))) (.node (o104 p) (.node o168 (.node o296 (.node (o552 p) .nil .nil) .nil) (.node o424 .nil .nil)) (.node o232 (.node (o360 p) (.node (o616 p) .nil .nil) .nil) (.node (o488 p) .nil .nil)))) (.node o56 (.node (o88 p) (.node o152 (.node (o280 p) (.node (o536 p) .nil .nil) .nil) (.node o408 .nil .nil)) (.node o216 (.node (o344 p) (.node o600 .nil .nil) .nil) (.node o472 .nil .nil))) (.node o120 (.node o184 (.node o312 (.node o568 .nil .nil) .nil) (.node o440 .nil .nil)) (.node o248 (.node o376 .nil .nil) (.node o504 .nil .nil)))))) (.node c13 (.node o20 (.node o36 (.node o68 (.node (o132 p) (.node o260 (.node o516 .nil .nil) .nil) (.node o388 .nil .nil)) (.node o196 (.node o324 (.node (o580 p) .nil .nil) .nil) (.node o452 .nil .nil))) (.node o100 (.node (o164 p) (.node (o292 p) (.node o548 .nil .nil) .nil) (.node o420 .nil .nil)) (.node o228 (.node o356 (.node o612 .nil .nil) .nil) (.node o484 .nil .nil)))) (.node o52 (.node o84 (.node o148 (.node o276 (.node o532 .nil .nil) .nil) (.node o404 .nil .nil)) (.node (o212 p) (.node o340 (.node o596 .nil .nil) .nil) (.node o468 .nil .nil))) (.node o116 (.node o180 (.node (o308 p) (.node (o564 p) .nil .nil) .nil) (.node o436 .nil .nil)) (.node o244 (.node (o372 p) .nil .nil) (.node o500 .nil .nil))))) (.node o28 (.node o44 (.node (o76 p) (.node o140 (.node o268 (.node o524 .nil .nil) .nil) (.node o396 .nil .nil)) (.node (o204 p) (.node (o332 p) (.node o588 .nil .nil) .nil) (.node o460 .nil .nil))) (.node o108 (.node o172 (.node o300 (.node o556 .nil .nil) .nil) (.node o428 .nil .nil)) (.node (o236 p) (.node o364 (.node (o620 P) .nil .nil) .nil) (.node o492 .nil .nil)))) (.node (o60 p) (.node o92 (.node o156 (.node o284 (.node o540 .nil .nil) .nil) (.node o412 .nil .nil)) (.node o220 (.node o348 (.node o604 .nil .nil) .nil) (.node (o476 p) .nil .nil))) (.node o124 (.node o188 (.node o316 (.node o572 .nil .nil) .nil) (.node o444 .nil .nil)) (.node (o252 p) (.node o380 .nil .nil) (.node o508 .nil .nil))))))) (.node (boot_o_6 P) (.node (boot_o_10 P) (.node o18 (.node o34 (.node o66 (.node (o130 p) (.node o258 (.node o514 .nil .nil) .nil) (.node o386 .nil .nil)) (.node o194 (.node o322 (.node (o578 p) .nil .nil) .nil) (.node (o450 p) .nil .nil))) (.node o98 (.node o162 (.node o290 (.node o546 .nil .nil) .nil) (.node o418 .nil .nil)) (.node (o226 p) (.node o354 (.node o610 .nil .nil) .nil) (.node o482 .nil .nil)))) (.node (o50 P) (.node o82 (.node o146 (.node o274 (.node o530 .nil .nil) .nil) (.node o402 .nil .nil)) (.node o210 (.node o338 (.node o594 .nil .nil) .nil) (.node (o466 P) .nil .nil))) (.node (o114 P) (.node o178 (.node (o306 p) (.node o562 .nil .nil) .nil) (.node o434 .nil .nil)) (.node o242 (.node o370 .nil .nil) (.node o498 .nil .nil))))) (.node o26 (.node (o42 P) (.node (o74 p) (.node o138 (.node (o266 p) (.node o522 .nil .nil) .nil) (.node o394 .nil .nil)) (.node (o202 p) (.node o330 (.node o586 .nil .nil) .nil) (.node o458 .nil .nil))) (.node o106 (.node o170 (.node o298 (.node o554 .nil .nil) .nil) (.node o426 .nil .nil)) (.node o234 (.node o362 (.node (o618 p) .nil .nil) .nil) (.node o490 .nil .nil)))) (.node o58 (.node (o90 p) (.node o154 (.node o282 (.node (o538 p) .nil .nil) .nil) (.node o410 .nil .nil)) (.node o218 (.node (o346 p) (.node (o602 P) .nil .nil) .nil) (.node (o474 p) .nil .nil))) (.node o122 (.node o186 (.node o314 (.node o570 .nil .nil) .nil) (.node o442 .nil .nil)) (.node (o250 p) (.node o378 .nil .nil) (.node o506 .nil .nil)))))) (.node o14 (.node o22 (.node (o38 p) (.node o70 (.node o134 (.node o262 (.node o518 .nil .nil) .nil) (.node o390 .nil .nil)) (.node o198 (.node o326 (.node o582 .nil .nil) .nil) (.node o454 .nil .nil))) (.node (o102 p) (.node (o166 p) (.node (o294 p) (.node (o550 p) .nil .nil) .nil) (.node o422 .nil .nil)) (.node o230 (.node (o358 p) (.node o614 .nil .nil) .nil) (.node (o486 p) .nil .nil)))) (.node o54 (.node o86 (.node o150 (.node (o278 p) (.node o534 .nil .nil) .nil) (.node o406 .nil .nil)) (.node (o214 p) (.node o342 (.node o598 .nil .nil) .nil) (.node o470 .nil .nil))) (.node o118 (.node o182 (.node o310 (.node (o566 p) .nil .nil) .nil) (.node o438 .nil .nil)) (.node o246 (.node (o374 p) .nil .nil) (.node o502 .nil .nil))))) (.node o30 (.node o46 (.node o78 (.node o142 (.node o270 (.node (o526 p) .nil .nil) .nil) (.node (o398 P) .nil .nil)) (.node o206 (.node (o334 p) (.node o590 .nil .nil) .nil) (.node (o462 p) .nil .nil))) (.node o110 (.node (o174 p) (.node o302 (.node o558 .nil .nil) .nil) (.node o430 .nil .nil)) (.node (o238 p) (.node o366 (.node o622 .nil .nil) .nil) (.node o494 .nil .nil)))) (.node (o62 p) (.node o94 (.node o158 (.node o286 (.node o542 .nil .nil) .nil) (.node (o414 p) .nil .nil)) (.node o222 (.node o350 (.node o606 .nil .nil) .nil) (.node o478 .nil .nil))) (.node o126 (.node o190 (.node (o318 p) (.node o574 .nil .nil) .nil) (.node o446 .nil .nil)) (.node o254 (.node o382 .nil .nil) (.node o510 .nil .nil)))))))))
noncomputable def g14 (P : Params) : Obj := dc (en P n245 165 (.str n207 1194) :: (gRest P).take 80) 81
noncomputable def c14 : Obj := fl .none (cAll.take 180)
noncomputable def T14 (p : Program) (P : Params) : BT := (.node (boot_o_0 P) (.node (boot_o_1 P) (.node (g14 P) (.node (boot_o_7 P) (.node o15 (.node o31 (.node o63 (.node o127 (.node o255 (.node o511 .nil .nil) .nil) (.node (o383 P) (.node (o639 p) .nil .nil) .nil)) (.node o191 (.node o319 (.node o575 .nil .nil) .nil) (.node o447 .nil .nil))) (.node (o95 p) (.node (o159 p) (.node (o287 p) (.node (o543 p) .nil .nil) .nil) (.node o415 (.node o671 .nil .nil) .nil)) (.node o223 (.node o351 (.node o607 .nil .nil) .nil) (.node (o479 p) .nil .nil)))) (.node o47 (.node o79 (.node o143 (.node (o271 p) (.node o527 .nil .nil) .nil) (.node o399 (.node o655 .nil .nil) .nil)) (.node (o207 p) (.node o335 (.node o591 .nil .nil) .nil) (.node o463 .nil .nil))) (.node (o111 p) (.node o175 (.node o303 (.node (o559 p) .nil .nil) .nil) (.node o431 .nil .nil)) (.node o239 (.node (o367 p) (.node o623 .nil .nil) .nil) (.node o495 .nil .nil))))) (.node o23 (.node o39 (.node o71 (.node o135 (.node o263 (.node (o519 p) .nil .nil) .nil) (.node o391 (.node o647 .nil .nil) .nil)) (.node o199 (.node (o327 p) (.node (o583 p) .nil .nil) .nil) (.node (o455 p) .nil .nil))) (.node o103 (.node o167 (.node o295 (.node o551 .nil .nil) .nil) (.node (o423 p) (.node (o679 p) .nil .nil) .nil)) (.node (o231 p) (.node o359 (.node o615 .nil .nil) .nil) (.node o487 .nil .nil)))) (.node o55 (.node o87 (.node o151 (.node o279 (.node o535 .nil .nil) .nil) (.node (o407 p) (.node (o663 p) .nil .nil) .nil)) (.node o215 (.node o343 (.node (o599 p) .nil .nil) .nil) (.node o471 .nil .nil))) (.node o119 (.node (o183 p) (.node (o311 p) (.node o567 .nil .nil) .nil) (.node o439 .nil .nil)) (.node o247 (.node o375 (.node o631 .nil .nil) .nil) (.node o503 .nil .nil)))))) (.node o11 (.node (o19 p) (.node (o35 p) (.node o67 (.node o131 (.node (o259 p) (.node o515 .nil .nil) .nil) (.node o387 (.node o643 .nil .nil) .nil)) (.node (o195 p) (.node o323 (.node o579 .nil .nil) .nil) (.node o451 .nil .nil))) (.node o99 (.node o163 (.node o291 (.node o547 .nil .nil) .nil) (.node o419 (.node o675 .nil .nil) .nil)) (.node o227 (.node o355 (.node (o611 p) .nil .nil) .nil) (.node o483 .nil .nil)))) (.node o51 (.node (o83 p) (.node o147 (.node o275 (.node (o531 p) .nil .nil) .nil) (.node o403 (.node o659 .nil .nil) .nil)) (.node o211 (.node (o339 p) (.node o595 .nil .nil) .nil) (.node o467 .nil .nil))) (.node o115 (.node o179 (.node o307 (.node o563 .nil .nil) .nil) (.node o435 .nil .nil)) (.node (o243 p) (.node o371 (.node o627 .nil .nil) .nil) (.node o499 .nil .nil))))) (.node o27 (.node o43 (.node o75 (.node (o139 p) (.node o267 (.node o523 .nil .nil) .nil) (.node (o395 p) (.node o651 .nil .nil) .nil)) (.node o203 (.node o331 (.node (o587 P) .nil .nil) .nil) (.node o459 .nil .nil))) (.node o107 (.node (o171 p) (.node (o299 p) (.node o555 .nil .nil) .nil) (.node o427 .nil .nil)) (.node o235 (.node o363 (.node o619 .nil .nil) .nil) (.node (o491 p) .nil .nil)))) (.node o59 (.node o91 (.node o155 (.node o283 (.node o539 .nil .nil) .nil) (.node o411 (.node o667 .nil .nil) .nil)) (.node (o219 p) (.node o347 (.node o603 .nil .nil) .nil) (.node o475 .nil .nil))) (.node (o123 p) (.node o187 (.node o315 (.node o571 .nil .nil) .nil) (.node (o443 p) .nil .nil)) (.node o251 (.node (o379 p) (.node o635 .nil .nil) .nil) (.node (o507 p) .nil .nil))))))) (.node (boot_o_5 P) (.node (boot_o_9 P) (.node o17 (.node (o33 p) (.node o65 (.node o129 (.node (o257 p) (.node o513 .nil .nil) .nil) (.node o385 (.node o641 .nil .nil) .nil)) (.node o193 (.node o321 (.node o577 .nil .nil) .nil) (.node o449 .nil .nil))) (.node (o97 p) (.node (o161 p) (.node o289 (.node (o545 p) .nil .nil) .nil) (.node o417 (.node o673 .nil .nil) .nil)) (.node o225 (.node o353 (.node o609 .nil .nil) .nil) (.node (o481 p) .nil .nil)))) (.node o49 (.node (o81 p) (.node o145 (.node (o273 p) (.node o529 .nil .nil) .nil) (.node o401 (.node o657 .nil .nil) .nil)) (.node (o209 p) (.node (o337 p) (.node o593 .nil .nil) .nil) (.node o465 .nil .nil))) (.node o113 (.node o177 (.node o305 (.node o561 .nil .nil) .nil) (.node (o433 P) .nil .nil)) (.node o241 (.node o369 (.node o625 .nil .nil) .nil) (.node o497 .nil .nil))))) (.node o25 (.node o41 (.node o73 (.node (o137 p) (.node o265 (.node (o521 p) .nil .nil) .nil) (.node (o393 p) (.node o649 .nil .nil) .nil)) (.node o201 (.node o329 (.node (o585 p) .nil .nil) .nil) (.node (o457 p) .nil .nil))) (.node o105 (.node (o169 p) (.node o297 (.node o553 .nil .nil) .nil) (.node (o425 P) .nil .nil)) (.node (o233 p) (.node o361 (.node o617 .nil .nil) .nil) (.node o489 .nil .nil)))) (.node o57 (.node o89 (.node o153 (.node o281 (.node o537 .nil .nil) .nil) (.node (o409 p) (.node (o665 p) .nil .nil) .nil)) (.node (o217 p) (.node o345 (.node o601 .nil .nil) .nil) (.node o473 .nil .nil))) (.node o121 (.node (o185 P) (.node (o313 p) (.node (o569 P) .nil .nil) .nil) (.node o441 .nil .nil)) (.node o249 (.node o377 (.node o633 .nil .nil) .nil) (.node (o505 p) .nil .nil)))))) (.node o13 (.node (o21 p) (.node o37 (.node o69 (.node o133 (.node o261 (.node o517 .nil .nil) .nil) (.node o389 (.node o645 .nil .nil) .nil)) (.node (o197 p) (.node (o325 p) (.node o581 .nil .nil) .nil) (.node o453 .nil .nil))) (.node o101 (.node o165 (.node o293 (.node o549 .nil .nil) .nil) (.node (o421 p) (.node (o677 p) .nil .nil) .nil)) (.node o229 (.node o357 (.node (o613 p) .nil .nil) .nil) (.node o485 .nil .nil)))) (.node o53 (.node o85 (.node (o149 P) (.node o277 (.node (o533 p) .nil .nil) .nil) (.node o405 (.node o661 .nil .nil) .nil)) (.node o213 (.node o341 (.node (o597 p) .nil .nil) .nil) (.node o469 .nil .nil))) (.node o117 (.node (o181 p) (.node o309 (.node o565 .nil .nil) .nil) (.node o437 .nil .nil)) (.node (o245 p) (.node o373 (.node o629 .nil .nil) .nil) (.node o501 .nil .nil))))) (.node o29 (.node o45 (.node o77 (.node (o141 P) (.node o269 (.node o525 .nil .nil) .nil) (.node o397 (.node o653 .nil .nil) .nil)) (.node o205 (.node o333 (.node o589 .nil .nil) .nil) (.node o461 .nil .nil))) (.node (o109 p) (.node o173 (.node (o301 p) (.node (o557 p) .nil .nil) .nil) (.node o429 .nil .nil)) (.node o237 (.node (o365 p) (.node o621 .nil .nil) .nil) (.node (o493 p) .nil .nil)))) (.node o61 (.node o93 (.node o157 (.node (o285 p) (.node o541 .nil .nil) .nil) (.node o413 (.node o669 .nil .nil) .nil)) (.node o221 (.node (o349 P) (.node o605 .nil .nil) .nil) (.node o477 .nil .nil))) (.node (o125 p) (.node o189 (.node o317 (.node o573 .nil .nil) .nil) (.node (o445 p) .nil .nil)) (.node o253 (.node (o381 p) (.node (o637 p) .nil .nil) .nil) (.node (o509 P) .nil .nil)))))))) (.node (boot_o_2 P) (.node (boot_o_4 P) (.node (boot_o_8 P) (.node o16 (.node o32 (.node (o64 P) (.node o128 (.node o256 (.node o512 .nil .nil) .nil) (.node o384 (.node o640 .nil .nil) .nil)) (.node o192 (.node (o320 p) (.node o576 .nil .nil) .nil) (.node (o448 p) .nil .nil))) (.node o96 (.node o160 (.node o288 (.node o544 .nil .nil) .nil) (.node (o416 p) (.node (o672 p) .nil .nil) .nil)) (.node (o224 p) (.node o352 (.node o608 .nil .nil) .nil) (.node o480 .nil .nil)))) (.node o48 (.node o80 (.node o144 (.node o272 (.node (o528 p) .nil .nil) .nil) (.node o400 (.node (o656 p) .nil .nil) .nil)) (.node o208 (.node o336 (.node o592 .nil .nil) .nil) (.node (o464 p) .nil .nil))) (.node o112 (.node (o176 p) (.node o304 (.node o560 .nil .nil) .nil) (.node o432 .nil .nil)) (.node o240 (.node o368 (.node o624 .nil .nil) .nil) (.node (o496 P) .nil .nil))))) (.node (o24 P) (.node (o40 p) (.node o72 (.node o136 (.node (o264 p) (.node o520 .nil .nil) .nil) (.node o392 (.node o648 .nil .nil) .nil)) (.node o200 (.node o328 (.node o584 .nil .nil) .nil) (.node o456 .nil .nil))) (.node (o104 p) (.node o168 (.node o296 (.node (o552 p) .nil .nil) .nil) (.node o424 .nil .nil)) (.node o232 (.node (o360 p) (.node (o616 p) .nil .nil) .nil) (.node (o488 p) .nil .nil)))) (.node o56 (.node (o88 p) (.node o152 (.node (o280 p) (.node (o536 p) .nil .nil) .nil) (.node o408 (.node o664 .nil .nil) .nil)) (.node o216 (.node (o344 p) (.node o600 .nil .nil) .nil) (.node o472 .nil .nil))) (.node o120 (.node o184 (.node o312 (.node o568 .nil .nil) .nil) (.node o440 .nil .nil)) (.node o248 (.node o376 (.node o632 .nil .nil) .nil) (.node o504 .nil .nil)))))) (.node c14 (.node o20 (.node o36 (.node o68 (.node (o132 p) (.node o260 (.node o516 .nil .nil) .nil) (.node o388 (.node (o644 p) .nil .nil) .nil)) (.node o196 (.node o324 (.node (o580 p) .nil .nil) .nil) (.node o452 .nil .nil))) (.node o100 (.node (o164 p) (.node (o292 p) (.node o548 .nil .nil) .nil) (.node o420 (.node o676 .nil .nil) .nil)) (.node o228 (.node o356 (.node o612 .nil .nil) .nil) (.node o484 .nil .nil)))) (.node o52 (.node o84 (.node o148 (.node o276 (.node o532 .nil .nil) .nil) (.node o404 (.node o660 .nil .nil) .nil)) (.node (o212 p) (.node o340 (.node o596 .nil .nil) .nil) (.node o468 .nil .nil))) (.node o116 (.node o180 (.node (o308 p) (.node (o564 p) .nil .nil) .nil) (.node o436 .nil .nil)) (.node o244 (.node (o372 p) (.node (o628 P) .nil .nil) .nil) (.node o500 .nil .nil))))) (.node o28 (.node o44 (.node (o76 p) (.node o140 (.node o268 (.node o524 .nil .nil) .nil) (.node o396 (.node o652 .nil .nil) .nil)) (.node (o204 p) (.node (o332 p) (.node o588 .nil .nil) .nil) (.node o460 .nil .nil))) (.node o108 (.node o172 (.node o300 (.node o556 .nil .nil) .nil) (.node o428 .nil .nil)) (.node (o236 p) (.node o364 (.node (o620 P) .nil .nil) .nil) (.node o492 .nil .nil)))) (.node (o60 p) (.node o92 (.node o156 (.node o284 (.node o540 .nil .nil) .nil) (.node o412 (.node o668 .nil .nil) .nil)) (.node o220 (.node o348 (.node o604 .nil .nil) .nil) (.node (o476 p) .nil .nil))) (.node o124 (.node o188 (.node o316 (.node o572 .nil .nil) .nil) (.node o444 .nil .nil)) (.node (o252 p) (.node o380 (.node o636 .nil .nil) .nil) (.node o508 .nil .nil))))))) (.node (boot_o_6 P) (.node (boot_o_10 P) (.node o18 (.node o34 (.node o66 (.node (o130 p) (.node o258 (.node o514 .nil .nil) .nil) (.node o386 (.node (o642 p) .nil .nil) .nil)) (.node o194 (.node o322 (.node (o578 p) .nil .nil) .nil) (.node (o450 p) .nil .nil))) (.node o98 (.node o162 (.node o290 (.node o546 .nil .nil) .nil) (.node o418 (.node o674 .nil .nil) .nil)) (.node (o226 p) (.node o354 (.node o610 .nil .nil) .nil) (.node o482 .nil .nil)))) (.node (o50 P) (.node o82 (.node o146 (.node o274 (.node o530 .nil .nil) .nil) (.node o402 (.node (o658 p) .nil .nil) .nil)) (.node o210 (.node o338 (.node o594 .nil .nil) .nil) (.node (o466 P) .nil .nil))) (.node (o114 P) (.node o178 (.node (o306 p) (.node o562 .nil .nil) .nil) (.node o434 .nil .nil)) (.node o242 (.node o370 (.node o626 .nil .nil) .nil) (.node o498 .nil .nil))))) (.node o26 (.node (o42 P) (.node (o74 p) (.node o138 (.node (o266 p) (.node o522 .nil .nil) .nil) (.node o394 (.node o650 .nil .nil) .nil)) (.node (o202 p) (.node o330 (.node o586 .nil .nil) .nil) (.node o458 .nil .nil))) (.node o106 (.node o170 (.node o298 (.node o554 .nil .nil) .nil) (.node o426 .nil .nil)) (.node o234 (.node o362 (.node (o618 p) .nil .nil) .nil) (.node o490 .nil .nil)))) (.node o58 (.node (o90 p) (.node o154 (.node o282 (.node (o538 p) .nil .nil) .nil) (.node o410 (.node o666 .nil .nil) .nil)) (.node o218 (.node (o346 p) (.node (o602 P) .nil .nil) .nil) (.node (o474 p) .nil .nil))) (.node o122 (.node o186 (.node o314 (.node o570 .nil .nil) .nil) (.node o442 .nil .nil)) (.node (o250 p) (.node o378 (.node o634 .nil .nil) .nil) (.node o506 .nil .nil)))))) (.node o14 (.node o22 (.node (o38 p) (.node o70 (.node o134 (.node o262 (.node o518 .nil .nil) .nil) (.node o390 (.node (o646 P) .nil .nil) .nil)) (.node o198 (.node o326 (.node o582 .nil .nil) .nil) (.node o454 .nil .nil))) (.node (o102 p) (.node (o166 p) (.node (o294 p) (.node (o550 p) .nil .nil) .nil) (.node o422 (.node o678 .nil .nil) .nil)) (.node o230 (.node (o358 p) (.node o614 .nil .nil) .nil) (.node (o486 p) .nil .nil)))) (.node o54 (.node o86 (.node o150 (.node (o278 p) (.node o534 .nil .nil) .nil) (.node o406 (.node o662 .nil .nil) .nil)) (.node (o214 p) (.node o342 (.node o598 .nil .nil) .nil) (.node o470 .nil .nil))) (.node o118 (.node o182 (.node o310 (.node (o566 p) .nil .nil) .nil) (.node o438 .nil .nil)) (.node o246 (.node (o374 p) (.node o630 .nil .nil) .nil) (.node o502 .nil .nil))))) (.node o30 (.node o46 (.node o78 (.node o142 (.node o270 (.node (o526 p) .nil .nil) .nil) (.node (o398 P) (.node o654 .nil .nil) .nil)) (.node o206 (.node (o334 p) (.node o590 .nil .nil) .nil) (.node (o462 p) .nil .nil))) (.node o110 (.node (o174 p) (.node o302 (.node o558 .nil .nil) .nil) (.node o430 .nil .nil)) (.node (o238 p) (.node o366 (.node o622 .nil .nil) .nil) (.node o494 .nil .nil)))) (.node (o62 p) (.node o94 (.node o158 (.node o286 (.node o542 .nil .nil) .nil) (.node (o414 p) (.node (o670 p) .nil .nil) .nil)) (.node o222 (.node o350 (.node o606 .nil .nil) .nil) (.node o478 .nil .nil))) (.node o126 (.node o190 (.node (o318 p) (.node o574 .nil .nil) .nil) (.node o446 .nil .nil)) (.node o254 (.node o382 (.node o638 .nil .nil) .nil) (.node o510 .nil .nil)))))))))
noncomputable def g15 (P : Params) : Obj := dc (en P n245 165 (.str n212 1247) :: (gRest P).take 85) 86
noncomputable def c15 : Obj := fl .none (cAll.take 195)
noncomputable def T15 (p : Program) (P : Params) : BT := (.node (boot_o_0 P) (.node (boot_o_1 P) (.node (g15 P) (.node (boot_o_7 P) (.node o15 (.node o31 (.node o63 (.node o127 (.node o255 (.node o511 .nil .nil) .nil) (.node (o383 P) (.node (o639 p) .nil .nil) .nil)) (.node o191 (.node o319 (.node o575 .nil .nil) .nil) (.node o447 (.node o703 .nil .nil) .nil))) (.node (o95 p) (.node (o159 p) (.node (o287 p) (.node (o543 p) .nil .nil) .nil) (.node o415 (.node o671 .nil .nil) .nil)) (.node o223 (.node o351 (.node o607 .nil .nil) .nil) (.node (o479 p) .nil .nil)))) (.node o47 (.node o79 (.node o143 (.node (o271 p) (.node o527 .nil .nil) .nil) (.node o399 (.node o655 .nil .nil) .nil)) (.node (o207 p) (.node o335 (.node o591 .nil .nil) .nil) (.node o463 .nil .nil))) (.node (o111 p) (.node o175 (.node o303 (.node (o559 p) .nil .nil) .nil) (.node o431 (.node o687 .nil .nil) .nil)) (.node o239 (.node (o367 p) (.node o623 .nil .nil) .nil) (.node o495 .nil .nil))))) (.node o23 (.node o39 (.node o71 (.node o135 (.node o263 (.node (o519 p) .nil .nil) .nil) (.node o391 (.node o647 .nil .nil) .nil)) (.node o199 (.node (o327 p) (.node (o583 p) .nil .nil) .nil) (.node (o455 p) (.node o711 .nil .nil) .nil))) (.node o103 (.node o167 (.node o295 (.node o551 .nil .nil) .nil) (.node (o423 p) (.node (o679 p) .nil .nil) .nil)) (.node (o231 p) (.node o359 (.node o615 .nil .nil) .nil) (.node o487 .nil .nil)))) (.node o55 (.node o87 (.node o151 (.node o279 (.node o535 .nil .nil) .nil) (.node (o407 p) (.node (o663 p) .nil .nil) .nil)) (.node o215 (.node o343 (.node (o599 p) .nil .nil) .nil) (.node o471 .nil .nil))) (.node o119 (.node (o183 p) (.node (o311 p) (.node o567 .nil .nil) .nil) (.node o439 (.node o695 .nil .nil) .nil)) (.node o247 (.node o375 (.node o631 .nil .nil) .nil) (.node o503 .nil .nil)))))) (.node o11 (.node (o19 p) (.node (o35 p) (.node o67 (.node o131 (.node (o259 p) (.node o515 .nil .nil) .nil) (.node o387 (.node o643 .nil .nil) .nil)) (.node (o195 p) (.node o323 (.node o579 .nil .nil) .nil) (.node o451 (.node (o707 p) .nil .nil) .nil))) (.node o99 (.node o163 (.node o291 (.node o547 .nil .nil) .nil) (.node o419 (.node o675 .nil .nil) .nil)) (.node o227 (.node o355 (.node (o611 p) .nil .nil) .nil) (.node o483 .nil .nil)))) (.node o51 (.node (o83 p) (.node o147 (.node o275 (.node (o531 p) .nil .nil) .nil) (.node o403 (.node o659 .nil .nil) .nil)) (.node o211 (.node (o339 p) (.node o595 .nil .nil) .nil) (.node o467 .nil .nil))) (.node o115 (.node o179 (.node o307 (.node o563 .nil .nil) .nil) (.node o435 (.node (o691 p) .nil .nil) .nil)) (.node (o243 p) (.node o371 (.node o627 .nil .nil) .nil) (.node o499 .nil .nil))))) (.node o27 (.node o43 (.node o75 (.node (o139 p) (.node o267 (.node o523 .nil .nil) .nil) (.node (o395 p) (.node o651 .nil .nil) .nil)) (.node o203 (.node o331 (.node (o587 P) .nil .nil) .nil) (.node o459 .nil .nil))) (.node o107 (.node (o171 p) (.node (o299 p) (.node o555 .nil .nil) .nil) (.node o427 (.node o683 .nil .nil) .nil)) (.node o235 (.node o363 (.node o619 .nil .nil) .nil) (.node (o491 p) .nil .nil)))) (.node o59 (.node o91 (.node o155 (.node o283 (.node o539 .nil .nil) .nil) (.node o411 (.node o667 .nil .nil) .nil)) (.node (o219 p) (.node o347 (.node o603 .nil .nil) .nil) (.node o475 .nil .nil))) (.node (o123 p) (.node o187 (.node o315 (.node o571 .nil .nil) .nil) (.node (o443 p) (.node o699 .nil .nil) .nil)) (.node o251 (.node (o379 p) (.node o635 .nil .nil) .nil) (.node (o507 p) .nil .nil))))))) (.node (boot_o_5 P) (.node (boot_o_9 P) (.node o17 (.node (o33 p) (.node o65 (.node o129 (.node (o257 p) (.node o513 .nil .nil) .nil) (.node o385 (.node o641 .nil .nil) .nil)) (.node o193 (.node o321 (.node o577 .nil .nil) .nil) (.node o449 (.node (o705 p) .nil .nil) .nil))) (.node (o97 p) (.node (o161 p) (.node o289 (.node (o545 p) .nil .nil) .nil) (.node o417 (.node o673 .nil .nil) .nil)) (.node o225 (.node o353 (.node o609 .nil .nil) .nil) (.node (o481 p) .nil .nil)))) (.node o49 (.node (o81 p) (.node o145 (.node (o273 p) (.node o529 .nil .nil) .nil) (.node o401 (.node o657 .nil .nil) .nil)) (.node (o209 p) (.node (o337 p) (.node o593 .nil .nil) .nil) (.node o465 .nil .nil))) (.node o113 (.node o177 (.node o305 (.node o561 .nil .nil) .nil) (.node (o433 P) (.node o689 .nil .nil) .nil)) (.node o241 (.node o369 (.node o625 .nil .nil) .nil) (.node o497 .nil .nil))))) (.node o25 (.node o41 (.node o73 (.node (o137 p) (.node o265 (.node (o521 p) .nil .nil) .nil) (.node (o393 p) (.node o649 .nil .nil) .nil)) (.node o201 (.node o329 (.node (o585 p) .nil .nil) .nil) (.node (o457 p) (.node o713 .nil .nil) .nil))) (.node o105 (.node (o169 p) (.node o297 (.node o553 .nil .nil) .nil) (.node (o425 P) (.node o681 .nil .nil) .nil)) (.node (o233 p) (.node o361 (.node o617 .nil .nil) .nil) (.node o489 .nil .nil)))) (.node o57 (.node o89 (.node o153 (.node o281 (.node o537 .nil .nil) .nil) (.node (o409 p) (.node (o665 p) .nil .nil) .nil)) (.node (o217 p) (.node o345 (.node o601 .nil .nil) .nil) (.node o473 .nil .nil))) (.node o121 (.node (o185 P) (.node (o313 p) (.node (o569 P) .nil .nil) .nil) (.node o441 (.node o697 .nil .nil) .nil)) (.node o249 (.node o377 (.node o633 .nil .nil) .nil) (.node (o505 p) .nil .nil)))))) (.node o13 (.node (o21 p) (.node o37 (.node o69 (.node o133 (.node o261 (.node o517 .nil .nil) .nil) (.node o389 (.node o645 .nil .nil) .nil)) (.node (o197 p) (.node (o325 p) (.node o581 .nil .nil) .nil) (.node o453 (.node o709 .nil .nil) .nil))) (.node o101 (.node o165 (.node o293 (.node o549 .nil .nil) .nil) (.node (o421 p) (.node (o677 p) .nil .nil) .nil)) (.node o229 (.node o357 (.node (o613 p) .nil .nil) .nil) (.node o485 .nil .nil)))) (.node o53 (.node o85 (.node (o149 P) (.node o277 (.node (o533 p) .nil .nil) .nil) (.node o405 (.node o661 .nil .nil) .nil)) (.node o213 (.node o341 (.node (o597 p) .nil .nil) .nil) (.node o469 .nil .nil))) (.node o117 (.node (o181 p) (.node o309 (.node o565 .nil .nil) .nil) (.node o437 (.node (o693 p) .nil .nil) .nil)) (.node (o245 p) (.node o373 (.node o629 .nil .nil) .nil) (.node o501 .nil .nil))))) (.node o29 (.node o45 (.node o77 (.node (o141 P) (.node o269 (.node o525 .nil .nil) .nil) (.node o397 (.node o653 .nil .nil) .nil)) (.node o205 (.node o333 (.node o589 .nil .nil) .nil) (.node o461 .nil .nil))) (.node (o109 p) (.node o173 (.node (o301 p) (.node (o557 p) .nil .nil) .nil) (.node o429 (.node o685 .nil .nil) .nil)) (.node o237 (.node (o365 p) (.node o621 .nil .nil) .nil) (.node (o493 p) .nil .nil)))) (.node o61 (.node o93 (.node o157 (.node (o285 p) (.node o541 .nil .nil) .nil) (.node o413 (.node o669 .nil .nil) .nil)) (.node o221 (.node (o349 P) (.node o605 .nil .nil) .nil) (.node o477 .nil .nil))) (.node (o125 p) (.node o189 (.node o317 (.node o573 .nil .nil) .nil) (.node (o445 p) (.node o701 .nil .nil) .nil)) (.node o253 (.node (o381 p) (.node (o637 p) .nil .nil) .nil) (.node (o509 P) .nil .nil)))))))) (.node (boot_o_2 P) (.node (boot_o_4 P) (.node (boot_o_8 P) (.node o16 (.node o32 (.node (o64 P) (.node o128 (.node o256 (.node o512 .nil .nil) .nil) (.node o384 (.node o640 .nil .nil) .nil)) (.node o192 (.node (o320 p) (.node o576 .nil .nil) .nil) (.node (o448 p) (.node o704 .nil .nil) .nil))) (.node o96 (.node o160 (.node o288 (.node o544 .nil .nil) .nil) (.node (o416 p) (.node (o672 p) .nil .nil) .nil)) (.node (o224 p) (.node o352 (.node o608 .nil .nil) .nil) (.node o480 .nil .nil)))) (.node o48 (.node o80 (.node o144 (.node o272 (.node (o528 p) .nil .nil) .nil) (.node o400 (.node (o656 p) .nil .nil) .nil)) (.node o208 (.node o336 (.node o592 .nil .nil) .nil) (.node (o464 p) .nil .nil))) (.node o112 (.node (o176 p) (.node o304 (.node o560 .nil .nil) .nil) (.node o432 (.node o688 .nil .nil) .nil)) (.node o240 (.node o368 (.node o624 .nil .nil) .nil) (.node (o496 P) .nil .nil))))) (.node (o24 P) (.node (o40 p) (.node o72 (.node o136 (.node (o264 p) (.node o520 .nil .nil) .nil) (.node o392 (.node o648 .nil .nil) .nil)) (.node o200 (.node o328 (.node o584 .nil .nil) .nil) (.node o456 (.node (o712 p) .nil .nil) .nil))) (.node (o104 p) (.node o168 (.node o296 (.node (o552 p) .nil .nil) .nil) (.node o424 (.node o680 .nil .nil) .nil)) (.node o232 (.node (o360 p) (.node (o616 p) .nil .nil) .nil) (.node (o488 p) .nil .nil)))) (.node o56 (.node (o88 p) (.node o152 (.node (o280 p) (.node (o536 p) .nil .nil) .nil) (.node o408 (.node o664 .nil .nil) .nil)) (.node o216 (.node (o344 p) (.node o600 .nil .nil) .nil) (.node o472 .nil .nil))) (.node o120 (.node o184 (.node o312 (.node o568 .nil .nil) .nil) (.node o440 (.node o696 .nil .nil) .nil)) (.node o248 (.node o376 (.node o632 .nil .nil) .nil) (.node o504 .nil .nil)))))) (.node c15 (.node o20 (.node o36 (.node o68 (.node (o132 p) (.node o260 (.node o516 .nil .nil) .nil) (.node o388 (.node (o644 p) .nil .nil) .nil)) (.node o196 (.node o324 (.node (o580 p) .nil .nil) .nil) (.node o452 (.node o708 .nil .nil) .nil))) (.node o100 (.node (o164 p) (.node (o292 p) (.node o548 .nil .nil) .nil) (.node o420 (.node o676 .nil .nil) .nil)) (.node o228 (.node o356 (.node o612 .nil .nil) .nil) (.node o484 .nil .nil)))) (.node o52 (.node o84 (.node o148 (.node o276 (.node o532 .nil .nil) .nil) (.node o404 (.node o660 .nil .nil) .nil)) (.node (o212 p) (.node o340 (.node o596 .nil .nil) .nil) (.node o468 .nil .nil))) (.node o116 (.node o180 (.node (o308 p) (.node (o564 p) .nil .nil) .nil) (.node o436 (.node o692 .nil .nil) .nil)) (.node o244 (.node (o372 p) (.node (o628 P) .nil .nil) .nil) (.node o500 .nil .nil))))) (.node o28 (.node o44 (.node (o76 p) (.node o140 (.node o268 (.node o524 .nil .nil) .nil) (.node o396 (.node o652 .nil .nil) .nil)) (.node (o204 p) (.node (o332 p) (.node o588 .nil .nil) .nil) (.node o460 .nil .nil))) (.node o108 (.node o172 (.node o300 (.node o556 .nil .nil) .nil) (.node o428 (.node (o684 p) .nil .nil) .nil)) (.node (o236 p) (.node o364 (.node (o620 P) .nil .nil) .nil) (.node o492 .nil .nil)))) (.node (o60 p) (.node o92 (.node o156 (.node o284 (.node o540 .nil .nil) .nil) (.node o412 (.node o668 .nil .nil) .nil)) (.node o220 (.node o348 (.node o604 .nil .nil) .nil) (.node (o476 p) .nil .nil))) (.node o124 (.node o188 (.node o316 (.node o572 .nil .nil) .nil) (.node o444 (.node (o700 p) .nil .nil) .nil)) (.node (o252 p) (.node o380 (.node o636 .nil .nil) .nil) (.node o508 .nil .nil))))))) (.node (boot_o_6 P) (.node (boot_o_10 P) (.node o18 (.node o34 (.node o66 (.node (o130 p) (.node o258 (.node o514 .nil .nil) .nil) (.node o386 (.node (o642 p) .nil .nil) .nil)) (.node o194 (.node o322 (.node (o578 p) .nil .nil) .nil) (.node (o450 p) (.node o706 .nil .nil) .nil))) (.node o98 (.node o162 (.node o290 (.node o546 .nil .nil) .nil) (.node o418 (.node o674 .nil .nil) .nil)) (.node (o226 p) (.node o354 (.node o610 .nil .nil) .nil) (.node o482 .nil .nil)))) (.node (o50 P) (.node o82 (.node o146 (.node o274 (.node o530 .nil .nil) .nil) (.node o402 (.node (o658 p) .nil .nil) .nil)) (.node o210 (.node o338 (.node o594 .nil .nil) .nil) (.node (o466 P) .nil .nil))) (.node (o114 P) (.node o178 (.node (o306 p) (.node o562 .nil .nil) .nil) (.node o434 (.node o690 .nil .nil) .nil)) (.node o242 (.node o370 (.node o626 .nil .nil) .nil) (.node o498 .nil .nil))))) (.node o26 (.node (o42 P) (.node (o74 p) (.node o138 (.node (o266 p) (.node o522 .nil .nil) .nil) (.node o394 (.node o650 .nil .nil) .nil)) (.node (o202 p) (.node o330 (.node o586 .nil .nil) .nil) (.node o458 (.node (o714 p) .nil .nil) .nil))) (.node o106 (.node o170 (.node o298 (.node o554 .nil .nil) .nil) (.node o426 (.node o682 .nil .nil) .nil)) (.node o234 (.node o362 (.node (o618 p) .nil .nil) .nil) (.node o490 .nil .nil)))) (.node o58 (.node (o90 p) (.node o154 (.node o282 (.node (o538 p) .nil .nil) .nil) (.node o410 (.node o666 .nil .nil) .nil)) (.node o218 (.node (o346 p) (.node (o602 P) .nil .nil) .nil) (.node (o474 p) .nil .nil))) (.node o122 (.node o186 (.node o314 (.node o570 .nil .nil) .nil) (.node o442 (.node (o698 p) .nil .nil) .nil)) (.node (o250 p) (.node o378 (.node o634 .nil .nil) .nil) (.node o506 .nil .nil)))))) (.node o14 (.node o22 (.node (o38 p) (.node o70 (.node o134 (.node o262 (.node o518 .nil .nil) .nil) (.node o390 (.node (o646 P) .nil .nil) .nil)) (.node o198 (.node o326 (.node o582 .nil .nil) .nil) (.node o454 (.node o710 .nil .nil) .nil))) (.node (o102 p) (.node (o166 p) (.node (o294 p) (.node (o550 p) .nil .nil) .nil) (.node o422 (.node o678 .nil .nil) .nil)) (.node o230 (.node (o358 p) (.node o614 .nil .nil) .nil) (.node (o486 p) .nil .nil)))) (.node o54 (.node o86 (.node o150 (.node (o278 p) (.node o534 .nil .nil) .nil) (.node o406 (.node o662 .nil .nil) .nil)) (.node (o214 p) (.node o342 (.node o598 .nil .nil) .nil) (.node o470 .nil .nil))) (.node o118 (.node o182 (.node o310 (.node (o566 p) .nil .nil) .nil) (.node o438 (.node o694 .nil .nil) .nil)) (.node o246 (.node (o374 p) (.node o630 .nil .nil) .nil) (.node o502 .nil .nil))))) (.node o30 (.node o46 (.node o78 (.node o142 (.node o270 (.node (o526 p) .nil .nil) .nil) (.node (o398 P) (.node o654 .nil .nil) .nil)) (.node o206 (.node (o334 p) (.node o590 .nil .nil) .nil) (.node (o462 p) .nil .nil))) (.node o110 (.node (o174 p) (.node o302 (.node o558 .nil .nil) .nil) (.node o430 (.node (o686 p) .nil .nil) .nil)) (.node (o238 p) (.node o366 (.node o622 .nil .nil) .nil) (.node o494 .nil .nil)))) (.node (o62 p) (.node o94 (.node o158 (.node o286 (.node o542 .nil .nil) .nil) (.node (o414 p) (.node (o670 p) .nil .nil) .nil)) (.node o222 (.node o350 (.node o606 .nil .nil) .nil) (.node o478 .nil .nil))) (.node o126 (.node o190 (.node (o318 p) (.node o574 .nil .nil) .nil) (.node o446 (.node o702 .nil .nil) .nil)) (.node o254 (.node o382 (.node o638 .nil .nil) .nil) (.node o510 .nil .nil)))))))))
noncomputable def g16 (P : Params) : Obj := dc (en P n245 165 (.str n222 1309) :: (gRest P).take 89) 90
noncomputable def c16 : Obj := fl .none (cAll.take 198)
noncomputable def T16 (p : Program) (P : Params) : BT := (.node (boot_o_0 P) (.node (boot_o_1 P) (.node (g16 P) (.node (boot_o_7 P) (.node o15 (.node o31 (.node o63 (.node o127 (.node o255 (.node o511 .nil .nil) .nil) (.node (o383 P) (.node (o639 p) .nil .nil) .nil)) (.node o191 (.node o319 (.node o575 .nil .nil) .nil) (.node o447 (.node o703 .nil .nil) .nil))) (.node (o95 p) (.node (o159 p) (.node (o287 p) (.node (o543 p) .nil .nil) .nil) (.node o415 (.node o671 .nil .nil) .nil)) (.node o223 (.node o351 (.node o607 .nil .nil) .nil) (.node (o479 p) (.node (o735 p) .nil .nil) .nil)))) (.node o47 (.node o79 (.node o143 (.node (o271 p) (.node o527 .nil .nil) .nil) (.node o399 (.node o655 .nil .nil) .nil)) (.node (o207 p) (.node o335 (.node o591 .nil .nil) .nil) (.node o463 (.node o719 .nil .nil) .nil))) (.node (o111 p) (.node o175 (.node o303 (.node (o559 p) .nil .nil) .nil) (.node o431 (.node o687 .nil .nil) .nil)) (.node o239 (.node (o367 p) (.node o623 .nil .nil) .nil) (.node o495 (.node o751 .nil .nil) .nil))))) (.node o23 (.node o39 (.node o71 (.node o135 (.node o263 (.node (o519 p) .nil .nil) .nil) (.node o391 (.node o647 .nil .nil) .nil)) (.node o199 (.node (o327 p) (.node (o583 p) .nil .nil) .nil) (.node (o455 p) (.node o711 .nil .nil) .nil))) (.node o103 (.node o167 (.node o295 (.node o551 .nil .nil) .nil) (.node (o423 p) (.node (o679 p) .nil .nil) .nil)) (.node (o231 p) (.node o359 (.node o615 .nil .nil) .nil) (.node o487 (.node o743 .nil .nil) .nil)))) (.node o55 (.node o87 (.node o151 (.node o279 (.node o535 .nil .nil) .nil) (.node (o407 p) (.node (o663 p) .nil .nil) .nil)) (.node o215 (.node o343 (.node (o599 p) .nil .nil) .nil) (.node o471 (.node o727 .nil .nil) .nil))) (.node o119 (.node (o183 p) (.node (o311 p) (.node o567 .nil .nil) .nil) (.node o439 (.node o695 .nil .nil) .nil)) (.node o247 (.node o375 (.node o631 .nil .nil) .nil) (.node o503 (.node o759 .nil .nil) .nil)))))) (.node o11 (.node (o19 p) (.node (o35 p) (.node o67 (.node o131 (.node (o259 p) (.node o515 .nil .nil) .nil) (.node o387 (.node o643 .nil .nil) .nil)) (.node (o195 p) (.node o323 (.node o579 .nil .nil) .nil) (.node o451 (.node (o707 p) .nil .nil) .nil))) (.node o99 (.node o163 (.node o291 (.node o547 .nil .nil) .nil) (.node o419 (.node o675 .nil .nil) .nil)) (.node o227 (.node o355 (.node (o611 p) .nil .nil) .nil) (.node o483 (.node o739 .nil .nil) .nil)))) (.node o51 (.node (o83 p) (.node o147 (.node o275 (.node (o531 p) .nil .nil) .nil) (.node o403 (.node o659 .nil .nil) .nil)) (.node o211 (.node (o339 p) (.node o595 .nil .nil) .nil) (.node o467 (.node o723 .nil .nil) .nil))) (.node o115 (.node o179 (.node o307 (.node o563 .nil .nil) .nil) (.node o435 (.node (o691 p) .nil .nil) .nil)) (.node (o243 p) (.node o371 (.node o627 .nil .nil) .nil) (.node o499 (.node o755 .nil .nil) .nil))))) (.node o27 (.node o43 (.node o75 (.node (o139 p) (.node o267 (.node o523 .nil .nil) .nil) (.node (o395 p) (.node o651 .nil .nil) .nil)) (.node o203 (.node o331 (.node (o587 P) .nil .nil) .nil) (.node o459 (.node o715 .nil .nil) .nil))) (.node o107 (.node (o171 p) (.node (o299 p) (.node o555 .nil .nil) .nil) (.node o427 (.node o683 .nil .nil) .nil)) (.node o235 (.node o363 (.node o619 .nil .nil) .nil) (.node (o491 p) (.node (o747 p) .nil .nil) .nil)))) (.node o59 (.node o91 (.node o155 (.node o283 (.node o539 .nil .nil) .nil) (.node o411 (.node o667 .nil .nil) .nil)) (.node (o219 p) (.node o347 (.node o603 .nil .nil) .nil) (.node o475 (.node o731 .nil .nil) .nil))) (.node (o123 p) (.node o187 (.node o315 (.node o571 .nil .nil) .nil) (.node (o443 p) (.node o699 .nil .nil) .nil)) (.node o251 (.node (o379 p) (.node o635 .nil .nil) .nil) (.node (o507 p) .nil .nil))))))) (.node (boot_o_5 P) (.node (boot_o_9 P) (.node o17 (.node (o33 p) (.node o65 (.node o129 (.node (o257 p) (.node o513 .nil .nil) .nil) (.node o385 (.node o641 .nil .nil) .nil)) (.node o193 (.node o321 (.node o577 .nil .nil) .nil) (.node o449 (.node (o705 p) .nil .nil) .nil))) (.node (o97 p) (.node (o161 p) (.node o289 (.node (o545 p) .nil .nil) .nil) (.node o417 (.node o673 .nil .nil) .nil)) (.node o225 (.node o353 (.node o609 .nil .nil) .nil) (.node (o481 p) (.node o737 .nil .nil) .nil)))) (.node o49 (.node (o81 p) (.node o145 (.node (o273 p) (.node o529 .nil .nil) .nil) (.node o401 (.node o657 .nil .nil) .nil)) (.node (o209 p) (.node (o337 p) (.node o593 .nil .nil) .nil) (.node o465 (.node o721 .nil .nil) .nil))) (.node o113 (.node o177 (.node o305 (.node o561 .nil .nil) .nil) (.node (o433 P) (.node o689 .nil .nil) .nil)) (.node o241 (.node o369 (.node o625 .nil .nil) .nil) (.node o497 (.node o753 .nil .nil) .nil))))) (.node o25 (.node o41 (.node o73 (.node (o137 p) (.node o265 (.node (o521 p) .nil .nil) .nil) (.node (o393 p) (.node o649 .nil .nil) .nil)) (.node o201 (.node o329 (.node (o585 p) .nil .nil) .nil) (.node (o457 p) (.node o713 .nil .nil) .nil))) (.node o105 (.node (o169 p) (.node o297 (.node o553 .nil .nil) .nil) (.node (o425 P) (.node o681 .nil .nil) .nil)) (.node (o233 p) (.node o361 (.node o617 .nil .nil) .nil) (.node o489 (.node o745 .nil .nil) .nil)))) (.node o57 (.node o89 (.node o153 (.node o281 (.node o537 .nil .nil) .nil) (.node (o409 p) (.node (o665 p) .nil .nil) .nil)) (.node (o217 p) (.node o345 (.node o601 .nil .nil) .nil) (.node o473 (.node o729 .nil .nil) .nil))) (.node o121 (.node (o185 P) (.node (o313 p) (.node (o569 P) .nil .nil) .nil) (.node o441 (.node o697 .nil .nil) .nil)) (.node o249 (.node o377 (.node o633 .nil .nil) .nil) (.node (o505 p) (.node o761 .nil .nil) .nil)))))) (.node o13 (.node (o21 p) (.node o37 (.node o69 (.node o133 (.node o261 (.node o517 .nil .nil) .nil) (.node o389 (.node o645 .nil .nil) .nil)) (.node (o197 p) (.node (o325 p) (.node o581 .nil .nil) .nil) (.node o453 (.node o709 .nil .nil) .nil))) (.node o101 (.node o165 (.node o293 (.node o549 .nil .nil) .nil) (.node (o421 p) (.node (o677 p) .nil .nil) .nil)) (.node o229 (.node o357 (.node (o613 p) .nil .nil) .nil) (.node o485 (.node o741 .nil .nil) .nil)))) (.node o53 (.node o85 (.node (o149 P) (.node o277 (.node (o533 p) .nil .nil) .nil) (.node o405 (.node o661 .nil .nil) .nil)) (.node o213 (.node o341 (.node (o597 p) .nil .nil) .nil) (.node o469 (.node o725 .nil .nil) .nil))) (.node o117 (.node (o181 p) (.node o309 (.node o565 .nil .nil) .nil) (.node o437 (.node (o693 p) .nil .nil) .nil)) (.node (o245 p) (.node o373 (.node o629 .nil .nil) .nil) (.node o501 (.node o757 .nil .nil) .nil))))) (.node o29 (.node o45 (.node o77 (.node (o141 P) (.node o269 (.node o525 .nil .nil) .nil) (.node o397 (.node o653 .nil .nil) .nil)) (.node o205 (.node o333 (.node o589 .nil .nil) .nil) (.node o461 (.node (o717 P) .nil .nil) .nil))) (.node (o109 p) (.node o173 (.node (o301 p) (.node (o557 p) .nil .nil) .nil) (.node o429 (.node o685 .nil .nil) .nil)) (.node o237 (.node (o365 p) (.node o621 .nil .nil) .nil) (.node (o493 p) (.node (o749 p) .nil .nil) .nil)))) (.node o61 (.node o93 (.node o157 (.node (o285 p) (.node o541 .nil .nil) .nil) (.node o413 (.node o669 .nil .nil) .nil)) (.node o221 (.node (o349 P) (.node o605 .nil .nil) .nil) (.node o477 (.node (o733 p) .nil .nil) .nil))) (.node (o125 p) (.node o189 (.node o317 (.node o573 .nil .nil) .nil) (.node (o445 p) (.node o701 .nil .nil) .nil)) (.node o253 (.node (o381 p) (.node (o637 p) .nil .nil) .nil) (.node (o509 P) .nil .nil)))))))) (.node (boot_o_2 P) (.node (boot_o_4 P) (.node (boot_o_8 P) (.node o16 (.node o32 (.node (o64 P) (.node o128 (.node o256 (.node o512 .nil .nil) .nil) (.node o384 (.node o640 .nil .nil) .nil)) (.node o192 (.node (o320 p) (.node o576 .nil .nil) .nil) (.node (o448 p) (.node o704 .nil .nil) .nil))) (.node o96 (.node o160 (.node o288 (.node o544 .nil .nil) .nil) (.node (o416 p) (.node (o672 p) .nil .nil) .nil)) (.node (o224 p) (.node o352 (.node o608 .nil .nil) .nil) (.node o480 (.node o736 .nil .nil) .nil)))) (.node o48 (.node o80 (.node o144 (.node o272 (.node (o528 p) .nil .nil) .nil) (.node o400 (.node (o656 p) .nil .nil) .nil)) (.node o208 (.node o336 (.node o592 .nil .nil) .nil) (.node (o464 p) (.node o720 .nil .nil) .nil))) (.node o112 (.node (o176 p) (.node o304 (.node o560 .nil .nil) .nil) (.node o432 (.node o688 .nil .nil) .nil)) (.node o240 (.node o368 (.node o624 .nil .nil) .nil) (.node (o496 P) (.node (o752 p) .nil .nil) .nil))))) (.node (o24 P) (.node (o40 p) (.node o72 (.node o136 (.node (o264 p) (.node o520 .nil .nil) .nil) (.node o392 (.node o648 .nil .nil) .nil)) (.node o200 (.node o328 (.node o584 .nil .nil) .nil) (.node o456 (.node (o712 p) .nil .nil) .nil))) (.node (o104 p) (.node o168 (.node o296 (.node (o552 p) .nil .nil) .nil) (.node o424 (.node o680 .nil .nil) .nil)) (.node o232 (.node (o360 p) (.node (o616 p) .nil .nil) .nil) (.node (o488 p) (.node o744 .nil .nil) .nil)))) (.node o56 (.node (o88 p) (.node o152 (.node (o280 p) (.node (o536 p) .nil .nil) .nil) (.node o408 (.node o664 .nil .nil) .nil)) (.node o216 (.node (o344 p) (.node o600 .nil .nil) .nil) (.node o472 (.node (o728 p) .nil .nil) .nil))) (.node o120 (.node o184 (.node o312 (.node o568 .nil .nil) .nil) (.node o440 (.node o696 .nil .nil) .nil)) (.node o248 (.node o376 (.node o632 .nil .nil) .nil) (.node o504 (.node o760 .nil .nil) .nil)))))) (.node c16 (.node o20 (.node o36 (.node o68 (.node (o132 p) (.node o260 (.node o516 .nil .nil) .nil) (.node o388 (.node (o644 p) .nil .nil) .nil)) (.node o196 (.node o324 (.node (o580 p) .nil .nil) .nil) (.node o452 (.node o708 .nil .nil) .nil))) (.node o100 (.node (o164 p) (.node (o292 p) (.node o548 .nil .nil) .nil) (.node o420 (.node o676 .nil .nil) .nil)) (.node o228 (.node o356 (.node o612 .nil .nil) .nil) (.node o484 (.node (o740 p) .nil .nil) .nil)))) (.node o52 (.node o84 (.node o148 (.node o276 (.node o532 .nil .nil) .nil) (.node o404 (.node o660 .nil .nil) .nil)) (.node (o212 p) (.node o340 (.node o596 .nil .nil) .nil) (.node o468 (.node o724 .nil .nil) .nil))) (.node o116 (.node o180 (.node (o308 p) (.node (o564 p) .nil .nil) .nil) (.node o436 (.node o692 .nil .nil) .nil)) (.node o244 (.node (o372 p) (.node (o628 P) .nil .nil) .nil) (.node o500 (.node (o756 P) .nil .nil) .nil))))) (.node o28 (.node o44 (.node (o76 p) (.node o140 (.node o268 (.node o524 .nil .nil) .nil) (.node o396 (.node o652 .nil .nil) .nil)) (.node (o204 p) (.node (o332 p) (.node o588 .nil .nil) .nil) (.node o460 (.node o716 .nil .nil) .nil))) (.node o108 (.node o172 (.node o300 (.node o556 .nil .nil) .nil) (.node o428 (.node (o684 p) .nil .nil) .nil)) (.node (o236 p) (.node o364 (.node (o620 P) .nil .nil) .nil) (.node o492 (.node o748 .nil .nil) .nil)))) (.node (o60 p) (.node o92 (.node o156 (.node o284 (.node o540 .nil .nil) .nil) (.node o412 (.node o668 .nil .nil) .nil)) (.node o220 (.node o348 (.node o604 .nil .nil) .nil) (.node (o476 p) (.node o732 .nil .nil) .nil))) (.node o124 (.node o188 (.node o316 (.node o572 .nil .nil) .nil) (.node o444 (.node (o700 p) .nil .nil) .nil)) (.node (o252 p) (.node o380 (.node o636 .nil .nil) .nil) (.node o508 .nil .nil))))))) (.node (boot_o_6 P) (.node (boot_o_10 P) (.node o18 (.node o34 (.node o66 (.node (o130 p) (.node o258 (.node o514 .nil .nil) .nil) (.node o386 (.node (o642 p) .nil .nil) .nil)) (.node o194 (.node o322 (.node (o578 p) .nil .nil) .nil) (.node (o450 p) (.node o706 .nil .nil) .nil))) (.node o98 (.node o162 (.node o290 (.node o546 .nil .nil) .nil) (.node o418 (.node o674 .nil .nil) .nil)) (.node (o226 p) (.node o354 (.node o610 .nil .nil) .nil) (.node o482 (.node o738 .nil .nil) .nil)))) (.node (o50 P) (.node o82 (.node o146 (.node o274 (.node o530 .nil .nil) .nil) (.node o402 (.node (o658 p) .nil .nil) .nil)) (.node o210 (.node o338 (.node o594 .nil .nil) .nil) (.node (o466 P) (.node o722 .nil .nil) .nil))) (.node (o114 P) (.node o178 (.node (o306 p) (.node o562 .nil .nil) .nil) (.node o434 (.node o690 .nil .nil) .nil)) (.node o242 (.node o370 (.node o626 .nil .nil) .nil) (.node o498 (.node (o754 p) .nil .nil) .nil))))) (.node o26 (.node (o42 P) (.node (o74 p) (.node o138 (.node (o266 p) (.node o522 .nil .nil) .nil) (.node o394 (.node o650 .nil .nil) .nil)) (.node (o202 p) (.node o330 (.node o586 .nil .nil) .nil) (.node o458 (.node (o714 p) .nil .nil) .nil))) (.node o106 (.node o170 (.node o298 (.node o554 .nil .nil) .nil) (.node o426 (.node o682 .nil .nil) .nil)) (.node o234 (.node o362 (.node (o618 p) .nil .nil) .nil) (.node o490 (.node o746 .nil .nil) .nil)))) (.node o58 (.node (o90 p) (.node o154 (.node o282 (.node (o538 p) .nil .nil) .nil) (.node o410 (.node o666 .nil .nil) .nil)) (.node o218 (.node (o346 p) (.node (o602 P) .nil .nil) .nil) (.node (o474 p) (.node o730 .nil .nil) .nil))) (.node o122 (.node o186 (.node o314 (.node o570 .nil .nil) .nil) (.node o442 (.node (o698 p) .nil .nil) .nil)) (.node (o250 p) (.node o378 (.node o634 .nil .nil) .nil) (.node o506 .nil .nil)))))) (.node o14 (.node o22 (.node (o38 p) (.node o70 (.node o134 (.node o262 (.node o518 .nil .nil) .nil) (.node o390 (.node (o646 P) .nil .nil) .nil)) (.node o198 (.node o326 (.node o582 .nil .nil) .nil) (.node o454 (.node o710 .nil .nil) .nil))) (.node (o102 p) (.node (o166 p) (.node (o294 p) (.node (o550 p) .nil .nil) .nil) (.node o422 (.node o678 .nil .nil) .nil)) (.node o230 (.node (o358 p) (.node o614 .nil .nil) .nil) (.node (o486 p) (.node (o742 p) .nil .nil) .nil)))) (.node o54 (.node o86 (.node o150 (.node (o278 p) (.node o534 .nil .nil) .nil) (.node o406 (.node o662 .nil .nil) .nil)) (.node (o214 p) (.node o342 (.node o598 .nil .nil) .nil) (.node o470 (.node (o726 p) .nil .nil) .nil))) (.node o118 (.node o182 (.node o310 (.node (o566 p) .nil .nil) .nil) (.node o438 (.node o694 .nil .nil) .nil)) (.node o246 (.node (o374 p) (.node o630 .nil .nil) .nil) (.node o502 (.node o758 .nil .nil) .nil))))) (.node o30 (.node o46 (.node o78 (.node o142 (.node o270 (.node (o526 p) .nil .nil) .nil) (.node (o398 P) (.node o654 .nil .nil) .nil)) (.node o206 (.node (o334 p) (.node o590 .nil .nil) .nil) (.node (o462 p) (.node o718 .nil .nil) .nil))) (.node o110 (.node (o174 p) (.node o302 (.node o558 .nil .nil) .nil) (.node o430 (.node (o686 p) .nil .nil) .nil)) (.node (o238 p) (.node o366 (.node o622 .nil .nil) .nil) (.node o494 (.node o750 .nil .nil) .nil)))) (.node (o62 p) (.node o94 (.node o158 (.node o286 (.node o542 .nil .nil) .nil) (.node (o414 p) (.node (o670 p) .nil .nil) .nil)) (.node o222 (.node o350 (.node o606 .nil .nil) .nil) (.node o478 (.node o734 .nil .nil) .nil))) (.node o126 (.node o190 (.node (o318 p) (.node o574 .nil .nil) .nil) (.node o446 (.node o702 .nil .nil) .nil)) (.node o254 (.node o382 (.node o638 .nil .nil) .nil) (.node o510 .nil .nil)))))))))
noncomputable def g17 (P : Params) : Obj := dc (en P n245 165 (.str n236 1386) :: (gRest P).take 91) 92
noncomputable def c17 : Obj := fl .none (cAll.take 204)
noncomputable def T17 (p : Program) (P : Params) : BT := (.node (boot_o_0 P) (.node (boot_o_1 P) (.node (g17 P) (.node (boot_o_7 P) (.node o15 (.node o31 (.node o63 (.node o127 (.node o255 (.node o511 .nil .nil) (.node o767 .nil .nil)) (.node (o383 P) (.node (o639 p) .nil .nil) .nil)) (.node o191 (.node o319 (.node o575 .nil .nil) .nil) (.node o447 (.node o703 .nil .nil) .nil))) (.node (o95 p) (.node (o159 p) (.node (o287 p) (.node (o543 p) .nil .nil) (.node o799 .nil .nil)) (.node o415 (.node o671 .nil .nil) .nil)) (.node o223 (.node o351 (.node o607 .nil .nil) .nil) (.node (o479 p) (.node (o735 p) .nil .nil) .nil)))) (.node o47 (.node o79 (.node o143 (.node (o271 p) (.node o527 .nil .nil) (.node (o783 p) .nil .nil)) (.node o399 (.node o655 .nil .nil) .nil)) (.node (o207 p) (.node o335 (.node o591 .nil .nil) .nil) (.node o463 (.node o719 .nil .nil) .nil))) (.node (o111 p) (.node o175 (.node o303 (.node (o559 p) .nil .nil) (.node o815 .nil .nil)) (.node o431 (.node o687 .nil .nil) .nil)) (.node o239 (.node (o367 p) (.node o623 .nil .nil) .nil) (.node o495 (.node o751 .nil .nil) .nil))))) (.node o23 (.node o39 (.node o71 (.node o135 (.node o263 (.node (o519 p) .nil .nil) (.node o775 .nil .nil)) (.node o391 (.node o647 .nil .nil) .nil)) (.node o199 (.node (o327 p) (.node (o583 p) .nil .nil) .nil) (.node (o455 p) (.node o711 .nil .nil) .nil))) (.node o103 (.node o167 (.node o295 (.node o551 .nil .nil) (.node o807 .nil .nil)) (.node (o423 p) (.node (o679 p) .nil .nil) .nil)) (.node (o231 p) (.node o359 (.node o615 .nil .nil) .nil) (.node o487 (.node o743 .nil .nil) .nil)))) (.node o55 (.node o87 (.node o151 (.node o279 (.node o535 .nil .nil) (.node o791 .nil .nil)) (.node (o407 p) (.node (o663 p) .nil .nil) .nil)) (.node o215 (.node o343 (.node (o599 p) .nil .nil) .nil) (.node o471 (.node o727 .nil .nil) .nil))) (.node o119 (.node (o183 p) (.node (o311 p) (.node o567 .nil .nil) .nil) (.node o439 (.node o695 .nil .nil) .nil)) (.node o247 (.node o375 (.node o631 .nil .nil) .nil) (.node o503 (.node o759 .nil .nil) .nil)))))) (.node o11 (.node (o19 p) (.node (o35 p) (.node o67 (.node o131 (.node (o259 p) (.node o515 .nil .nil) (.node o771 .nil .nil)) (.node o387 (.node o643 .nil .nil) .nil)) (.node (o195 p) (.node o323 (.node o579 .nil .nil) .nil) (.node o451 (.node (o707 p) .nil .nil) .nil))) (.node o99 (.node o163 (.node o291 (.node o547 .nil .nil) (.node o803 .nil .nil)) (.node o419 (.node o675 .nil .nil) .nil)) (.node o227 (.node o355 (.node (o611 p) .nil .nil) .nil) (.node o483 (.node o739 .nil .nil) .nil)))) (.node o51 (.node (o83 p) (.node o147 (.node o275 (.node (o531 p) .nil .nil) (.node o787 .nil .nil)) (.node o403 (.node o659 .nil .nil) .nil)) (.node o211 (.node (o339 p) (.node o595 .nil .nil) .nil) (.node o467 (.node o723 .nil .nil) .nil))) (.node o115 (.node o179 (.node o307 (.node o563 .nil .nil) .nil) (.node o435 (.node (o691 p) .nil .nil) .nil)) (.node (o243 p) (.node o371 (.node o627 .nil .nil) .nil) (.node o499 (.node o755 .nil .nil) .nil))))) (.node o27 (.node o43 (.node o75 (.node (o139 p) (.node o267 (.node o523 .nil .nil) (.node o779 .nil .nil)) (.node (o395 p) (.node o651 .nil .nil) .nil)) (.node o203 (.node o331 (.node (o587 P) .nil .nil) .nil) (.node o459 (.node o715 .nil .nil) .nil))) (.node o107 (.node (o171 p) (.node (o299 p) (.node o555 .nil .nil) (.node o811 .nil .nil)) (.node o427 (.node o683 .nil .nil) .nil)) (.node o235 (.node o363 (.node o619 .nil .nil) .nil) (.node (o491 p) (.node (o747 p) .nil .nil) .nil)))) (.node o59 (.node o91 (.node o155 (.node o283 (.node o539 .nil .nil) (.node (o795 p) .nil .nil)) (.node o411 (.node o667 .nil .nil) .nil)) (.node (o219 p) (.node o347 (.node o603 .nil .nil) .nil) (.node o475 (.node o731 .nil .nil) .nil))) (.node (o123 p) (.node o187 (.node o315 (.node o571 .nil .nil) .nil) (.node (o443 p) (.node o699 .nil .nil) .nil)) (.node o251 (.node (o379 p) (.node o635 .nil .nil) .nil) (.node (o507 p) (.node o763 .nil .nil) .nil))))))) (.node (boot_o_5 P) (.node (boot_o_9 P) (.node o17 (.node (o33 p) (.node o65 (.node o129 (.node (o257 p) (.node o513 .nil .nil) (.node o769 .nil .nil)) (.node o385 (.node o641 .nil .nil) .nil)) (.node o193 (.node o321 (.node o577 .nil .nil) .nil) (.node o449 (.node (o705 p) .nil .nil) .nil))) (.node (o97 p) (.node (o161 p) (.node o289 (.node (o545 p) .nil .nil) (.node o801 .nil .nil)) (.node o417 (.node o673 .nil .nil) .nil)) (.node o225 (.node o353 (.node o609 .nil .nil) .nil) (.node (o481 p) (.node o737 .nil .nil) .nil)))) (.node o49 (.node (o81 p) (.node o145 (.node (o273 p) (.node o529 .nil .nil) (.node o785 .nil .nil)) (.node o401 (.node o657 .nil .nil) .nil)) (.node (o209 p) (.node (o337 p) (.node o593 .nil .nil) .nil) (.node o465 (.node o721 .nil .nil) .nil))) (.node o113 (.node o177 (.node o305 (.node o561 .nil .nil) .nil) (.node (o433 P) (.node o689 .nil .nil) .nil)) (.node o241 (.node o369 (.node o625 .nil .nil) .nil) (.node o497 (.node o753 .nil .nil) .nil))))) (.node o25 (.node o41 (.node o73 (.node (o137 p) (.node o265 (.node (o521 p) .nil .nil) (.node o777 .nil .nil)) (.node (o393 p) (.node o649 .nil .nil) .nil)) (.node o201 (.node o329 (.node (o585 p) .nil .nil) .nil) (.node (o457 p) (.node o713 .nil .nil) .nil))) (.node o105 (.node (o169 p) (.node o297 (.node o553 .nil .nil) (.node o809 .nil .nil)) (.node (o425 P) (.node o681 .nil .nil) .nil)) (.node (o233 p) (.node o361 (.node o617 .nil .nil) .nil) (.node o489 (.node o745 .nil .nil) .nil)))) (.node o57 (.node o89 (.node o153 (.node o281 (.node o537 .nil .nil) (.node o793 .nil .nil)) (.node (o409 p) (.node (o665 p) .nil .nil) .nil)) (.node (o217 p) (.node o345 (.node o601 .nil .nil) .nil) (.node o473 (.node o729 .nil .nil) .nil))) (.node o121 (.node (o185 P) (.node (o313 p) (.node (o569 P) .nil .nil) .nil) (.node o441 (.node o697 .nil .nil) .nil)) (.node o249 (.node o377 (.node o633 .nil .nil) .nil) (.node (o505 p) (.node o761 .nil .nil) .nil)))))) (.node o13 (.node (o21 p) (.node o37 (.node o69 (.node o133 (.node o261 (.node o517 .nil .nil) (.node o773 .nil .nil)) (.node o389 (.node o645 .nil .nil) .nil)) (.node (o197 p) (.node (o325 p) (.node o581 .nil .nil) .nil) (.node o453 (.node o709 .nil .nil) .nil))) (.node o101 (.node o165 (.node o293 (.node o549 .nil .nil) (.node o805 .nil .nil)) (.node (o421 p) (.node (o677 p) .nil .nil) .nil)) (.node o229 (.node o357 (.node (o613 p) .nil .nil) .nil) (.node o485 (.node o741 .nil .nil) .nil)))) (.node o53 (.node o85 (.node (o149 P) (.node o277 (.node (o533 p) .nil .nil) (.node o789 .nil .nil)) (.node o405 (.node o661 .nil .nil) .nil)) (.node o213 (.node o341 (.node (o597 p) .nil .nil) .nil) (.node o469 (.node o725 .nil .nil) .nil))) (.node o117 (.node (o181 p) (.node o309 (.node o565 .nil .nil) .nil) (.node o437 (.node (o693 p) .nil .nil) .nil)) (.node (o245 p) (.node o373 (.node o629 .nil .nil) .nil) (.node o501 (.node o757 .nil .nil) .nil))))) (.node o29 (.node o45 (.node o77 (.node (o141 P) (.node o269 (.node o525 .nil .nil) (.node (o781 p) .nil .nil)) (.node o397 (.node o653 .nil .nil) .nil)) (.node o205 (.node o333 (.node o589 .nil .nil) .nil) (.node o461 (.node (o717 P) .nil .nil) .nil))) (.node (o109 p) (.node o173 (.node (o301 p) (.node (o557 p) .nil .nil) (.node o813 .nil .nil)) (.node o429 (.node o685 .nil .nil) .nil)) (.node o237 (.node (o365 p) (.node o621 .nil .nil) .nil) (.node (o493 p) (.node (o749 p) .nil .nil) .nil)))) (.node o61 (.node o93 (.node o157 (.node (o285 p) (.node o541 .nil .nil) (.node (o797 p) .nil .nil)) (.node o413 (.node o669 .nil .nil) .nil)) (.node o221 (.node (o349 P) (.node o605 .nil .nil) .nil) (.node o477 (.node (o733 p) .nil .nil) .nil))) (.node (o125 p) (.node o189 (.node o317 (.node o573 .nil .nil) .nil) (.node (o445 p) (.node o701 .nil .nil) .nil)) (.node o253 (.node (o381 p) (.node (o637 p) .nil .nil) .nil) (.node (o509 P) (.node o765 .nil .nil) .nil)))))))) (.node (boot_o_2 P) (.node (boot_o_4 P) (.node (boot_o_8 P) (.node o16 (.node o32 (.node (o64 P) (.node o128 (.node o256 (.node o512 .nil .nil) (.node o768 .nil .nil)) (.node o384 (.node o640 .nil .nil) .nil)) (.node o192 (.node (o320 p) (.node o576 .nil .nil) .nil) (.node (o448 p) (.node o704 .nil .nil) .nil))) (.node o96 (.node o160 (.node o288 (.node o544 .nil .nil) (.node (o800 p) .nil .nil)) (.node (o416 p) (.node (o672 p) .nil .nil) .nil)) (.node (o224 p) (.node o352 (.node o608 .nil .nil) .nil) (.node o480 (.node o736 .nil .nil) .nil)))) (.node o48 (.node o80 (.node o144 (.node o272 (.node (o528 p) .nil .nil) (.node o784 .nil .nil)) (.node o400 (.node (o656 p) .nil .nil) .nil)) (.node o208 (.node o336 (.node o592 .nil .nil) .nil) (.node (o464 p) (.node o720 .nil .nil) .nil))) (.node o112 (.node (o176 p) (.node o304 (.node o560 .nil .nil) (.node (o816 p) .nil .nil)) (.node o432 (.node o688 .nil .nil) .nil)) (.node o240 (.node o368 (.node o624 .nil .nil) .nil) (.node (o496 P) (.node (o752 p) .nil .nil) .nil))))) (.node (o24 P) (.node (o40 p) (.node o72 (.node o136 (.node (o264 p) (.node o520 .nil .nil) (.node (o776 p) .nil .nil)) (.node o392 (.node o648 .nil .nil) .nil)) (.node o200 (.node o328 (.node o584 .nil .nil) .nil) (.node o456 (.node (o712 p) .nil .nil) .nil))) (.node (o104 p) (.node o168 (.node o296 (.node (o552 p) .nil .nil) (.node o808 .nil .nil)) (.node o424 (.node o680 .nil .nil) .nil)) (.node o232 (.node (o360 p) (.node (o616 p) .nil .nil) .nil) (.node (o488 p) (.node o744 .nil .nil) .nil)))) (.node o56 (.node (o88 p) (.node o152 (.node (o280 p) (.node (o536 p) .nil .nil) (.node o792 .nil .nil)) (.node o408 (.node o664 .nil .nil) .nil)) (.node o216 (.node (o344 p) (.node o600 .nil .nil) .nil) (.node o472 (.node (o728 p) .nil .nil) .nil))) (.node o120 (.node o184 (.node o312 (.node o568 .nil .nil) .nil) (.node o440 (.node o696 .nil .nil) .nil)) (.node o248 (.node o376 (.node o632 .nil .nil) .nil) (.node o504 (.node o760 .nil .nil) .nil)))))) (.node c17 (.node o20 (.node o36 (.node o68 (.node (o132 p) (.node o260 (.node o516 .nil .nil) (.node o772 .nil .nil)) (.node o388 (.node (o644 p) .nil .nil) .nil)) (.node o196 (.node o324 (.node (o580 p) .nil .nil) .nil) (.node o452 (.node o708 .nil .nil) .nil))) (.node o100 (.node (o164 p) (.node (o292 p) (.node o548 .nil .nil) (.node (o804 P) .nil .nil)) (.node o420 (.node o676 .nil .nil) .nil)) (.node o228 (.node o356 (.node o612 .nil .nil) .nil) (.node o484 (.node (o740 p) .nil .nil) .nil)))) (.node o52 (.node o84 (.node o148 (.node o276 (.node o532 .nil .nil) (.node (o788 p) .nil .nil)) (.node o404 (.node o660 .nil .nil) .nil)) (.node (o212 p) (.node o340 (.node o596 .nil .nil) .nil) (.node o468 (.node o724 .nil .nil) .nil))) (.node o116 (.node o180 (.node (o308 p) (.node (o564 p) .nil .nil) .nil) (.node o436 (.node o692 .nil .nil) .nil)) (.node o244 (.node (o372 p) (.node (o628 P) .nil .nil) .nil) (.node o500 (.node (o756 P) .nil .nil) .nil))))) (.node o28 (.node o44 (.node (o76 p) (.node o140 (.node o268 (.node o524 .nil .nil) (.node o780 .nil .nil)) (.node o396 (.node o652 .nil .nil) .nil)) (.node (o204 p) (.node (o332 p) (.node o588 .nil .nil) .nil) (.node o460 (.node o716 .nil .nil) .nil))) (.node o108 (.node o172 (.node o300 (.node o556 .nil .nil) (.node o812 .nil .nil)) (.node o428 (.node (o684 p) .nil .nil) .nil)) (.node (o236 p) (.node o364 (.node (o620 P) .nil .nil) .nil) (.node o492 (.node o748 .nil .nil) .nil)))) (.node (o60 p) (.node o92 (.node o156 (.node o284 (.node o540 .nil .nil) (.node o796 .nil .nil)) (.node o412 (.node o668 .nil .nil) .nil)) (.node o220 (.node o348 (.node o604 .nil .nil) .nil) (.node (o476 p) (.node o732 .nil .nil) .nil))) (.node o124 (.node o188 (.node o316 (.node o572 .nil .nil) .nil) (.node o444 (.node (o700 p) .nil .nil) .nil)) (.node (o252 p) (.node o380 (.node o636 .nil .nil) .nil) (.node o508 (.node (o764 P) .nil .nil) .nil))))))) (.node (boot_o_6 P) (.node (boot_o_10 P) (.node o18 (.node o34 (.node o66 (.node (o130 p) (.node o258 (.node o514 .nil .nil) (.node o770 .nil .nil)) (.node o386 (.node (o642 p) .nil .nil) .nil)) (.node o194 (.node o322 (.node (o578 p) .nil .nil) .nil) (.node (o450 p) (.node o706 .nil .nil) .nil))) (.node o98 (.node o162 (.node o290 (.node o546 .nil .nil) (.node (o802 p) .nil .nil)) (.node o418 (.node o674 .nil .nil) .nil)) (.node (o226 p) (.node o354 (.node o610 .nil .nil) .nil) (.node o482 (.node o738 .nil .nil) .nil)))) (.node (o50 P) (.node o82 (.node o146 (.node o274 (.node o530 .nil .nil) (.node o786 .nil .nil)) (.node o402 (.node (o658 p) .nil .nil) .nil)) (.node o210 (.node o338 (.node o594 .nil .nil) .nil) (.node (o466 P) (.node o722 .nil .nil) .nil))) (.node (o114 P) (.node o178 (.node (o306 p) (.node o562 .nil .nil) .nil) (.node o434 (.node o690 .nil .nil) .nil)) (.node o242 (.node o370 (.node o626 .nil .nil) .nil) (.node o498 (.node (o754 p) .nil .nil) .nil))))) (.node o26 (.node (o42 P) (.node (o74 p) (.node o138 (.node (o266 p) (.node o522 .nil .nil) (.node o778 .nil .nil)) (.node o394 (.node o650 .nil .nil) .nil)) (.node (o202 p) (.node o330 (.node o586 .nil .nil) .nil) (.node o458 (.node (o714 p) .nil .nil) .nil))) (.node o106 (.node o170 (.node o298 (.node o554 .nil .nil) (.node o810 .nil .nil)) (.node o426 (.node o682 .nil .nil) .nil)) (.node o234 (.node o362 (.node (o618 p) .nil .nil) .nil) (.node o490 (.node o746 .nil .nil) .nil)))) (.node o58 (.node (o90 p) (.node o154 (.node o282 (.node (o538 p) .nil .nil) (.node o794 .nil .nil)) (.node o410 (.node o666 .nil .nil) .nil)) (.node o218 (.node (o346 p) (.node (o602 P) .nil .nil) .nil) (.node (o474 p) (.node o730 .nil .nil) .nil))) (.node o122 (.node o186 (.node o314 (.node o570 .nil .nil) .nil) (.node o442 (.node (o698 p) .nil .nil) .nil)) (.node (o250 p) (.node o378 (.node o634 .nil .nil) .nil) (.node o506 (.node o762 .nil .nil) .nil)))))) (.node o14 (.node o22 (.node (o38 p) (.node o70 (.node o134 (.node o262 (.node o518 .nil .nil) (.node (o774 p) .nil .nil)) (.node o390 (.node (o646 P) .nil .nil) .nil)) (.node o198 (.node o326 (.node o582 .nil .nil) .nil) (.node o454 (.node o710 .nil .nil) .nil))) (.node (o102 p) (.node (o166 p) (.node (o294 p) (.node (o550 p) .nil .nil) (.node o806 .nil .nil)) (.node o422 (.node o678 .nil .nil) .nil)) (.node o230 (.node (o358 p) (.node o614 .nil .nil) .nil) (.node (o486 p) (.node (o742 p) .nil .nil) .nil)))) (.node o54 (.node o86 (.node o150 (.node (o278 p) (.node o534 .nil .nil) (.node (o790 p) .nil .nil)) (.node o406 (.node o662 .nil .nil) .nil)) (.node (o214 p) (.node o342 (.node o598 .nil .nil) .nil) (.node o470 (.node (o726 p) .nil .nil) .nil))) (.node o118 (.node o182 (.node o310 (.node (o566 p) .nil .nil) .nil) (.node o438 (.node o694 .nil .nil) .nil)) (.node o246 (.node (o374 p) (.node o630 .nil .nil) .nil) (.node o502 (.node o758 .nil .nil) .nil))))) (.node o30 (.node o46 (.node o78 (.node o142 (.node o270 (.node (o526 p) .nil .nil) (.node o782 .nil .nil)) (.node (o398 P) (.node o654 .nil .nil) .nil)) (.node o206 (.node (o334 p) (.node o590 .nil .nil) .nil) (.node (o462 p) (.node o718 .nil .nil) .nil))) (.node o110 (.node (o174 p) (.node o302 (.node o558 .nil .nil) (.node (o814 p) .nil .nil)) (.node o430 (.node (o686 p) .nil .nil) .nil)) (.node (o238 p) (.node o366 (.node o622 .nil .nil) .nil) (.node o494 (.node o750 .nil .nil) .nil)))) (.node (o62 p) (.node o94 (.node o158 (.node o286 (.node o542 .nil .nil) (.node o798 .nil .nil)) (.node (o414 p) (.node (o670 p) .nil .nil) .nil)) (.node o222 (.node o350 (.node o606 .nil .nil) .nil) (.node o478 (.node o734 .nil .nil) .nil))) (.node o126 (.node o190 (.node (o318 p) (.node o574 .nil .nil) .nil) (.node o446 (.node o702 .nil .nil) .nil)) (.node o254 (.node o382 (.node o638 .nil .nil) .nil) (.node o510 (.node o766 .nil .nil) .nil)))))))))
noncomputable def g18 (P : Params) : Obj := dc (en P n245 165 (.str n236 1386) :: (gRest P).take 96) 97
noncomputable def c18 : Obj := fl .none (cAll.take 216)
noncomputable def T18 (p : Program) (P : Params) : BT := (.node (boot_o_0 P) (.node (boot_o_1 P) (.node (g18 P) (.node (boot_o_7 P) (.node o15 (.node o31 (.node o63 (.node o127 (.node o255 (.node o511 .nil .nil) (.node o767 .nil .nil)) (.node (o383 P) (.node (o639 p) .nil .nil) .nil)) (.node o191 (.node o319 (.node o575 .nil .nil) (.node o831 .nil .nil)) (.node o447 (.node o703 .nil .nil) .nil))) (.node (o95 p) (.node (o159 p) (.node (o287 p) (.node (o543 p) .nil .nil) (.node o799 .nil .nil)) (.node o415 (.node o671 .nil .nil) .nil)) (.node o223 (.node o351 (.node o607 .nil .nil) .nil) (.node (o479 p) (.node (o735 p) .nil .nil) .nil)))) (.node o47 (.node o79 (.node o143 (.node (o271 p) (.node o527 .nil .nil) (.node (o783 p) .nil .nil)) (.node o399 (.node o655 .nil .nil) .nil)) (.node (o207 p) (.node o335 (.node o591 .nil .nil) .nil) (.node o463 (.node o719 .nil .nil) .nil))) (.node (o111 p) (.node o175 (.node o303 (.node (o559 p) .nil .nil) (.node o815 .nil .nil)) (.node o431 (.node o687 .nil .nil) .nil)) (.node o239 (.node (o367 p) (.node o623 .nil .nil) .nil) (.node o495 (.node o751 .nil .nil) .nil))))) (.node o23 (.node o39 (.node o71 (.node o135 (.node o263 (.node (o519 p) .nil .nil) (.node o775 .nil .nil)) (.node o391 (.node o647 .nil .nil) .nil)) (.node o199 (.node (o327 p) (.node (o583 p) .nil .nil) (.node (o839 p) .nil .nil)) (.node (o455 p) (.node o711 .nil .nil) .nil))) (.node o103 (.node o167 (.node o295 (.node o551 .nil .nil) (.node o807 .nil .nil)) (.node (o423 p) (.node (o679 p) .nil .nil) .nil)) (.node (o231 p) (.node o359 (.node o615 .nil .nil) .nil) (.node o487 (.node o743 .nil .nil) .nil)))) (.node o55 (.node o87 (.node o151 (.node o279 (.node o535 .nil .nil) (.node o791 .nil .nil)) (.node (o407 p) (.node (o663 p) .nil .nil) .nil)) (.node o215 (.node o343 (.node (o599 p) .nil .nil) .nil) (.node o471 (.node o727 .nil .nil) .nil))) (.node o119 (.node (o183 p) (.node (o311 p) (.node o567 .nil .nil) (.node o823 .nil .nil)) (.node o439 (.node o695 .nil .nil) .nil)) (.node o247 (.node o375 (.node o631 .nil .nil) .nil) (.node o503 (.node o759 .nil .nil) .nil)))))) (.node o11 (.node (o19 p) (.node (o35 p) (.node o67 (.node o131 (.node (o259 p) (.node o515 .nil .nil) (.node o771 .nil .nil)) (.node o387 (.node o643 .nil .nil) .nil)) (.node (o195 p) (.node o323 (.node o579 .nil .nil) (.node o835 .nil .nil)) (.node o451 (.node (o707 p) .nil .nil) .nil))) (.node o99 (.node o163 (.node o291 (.node o547 .nil .nil) (.node o803 .nil .nil)) (.node o419 (.node o675 .nil .nil) .nil)) (.node o227 (.node o355 (.node (o611 p) .nil .nil) .nil) (.node o483 (.node o739 .nil .nil) .nil)))) (.node o51 (.node (o83 p) (.node o147 (.node o275 (.node (o531 p) .nil .nil) (.node o787 .nil .nil)) (.node o403 (.node o659 .nil .nil) .nil)) (.node o211 (.node (o339 p) (.node o595 .nil .nil) .nil) (.node o467 (.node o723 .nil .nil) .nil))) (.node o115 (.node o179 (.node o307 (.node o563 .nil .nil) (.node o819 .nil .nil)) (.node o435 (.node (o691 p) .nil .nil) .nil)) (.node (o243 p) (.node o371 (.node o627 .nil .nil) .nil) (.node o499 (.node o755 .nil .nil) .nil))))) (.node o27 (.node o43 (.node o75 (.node (o139 p) (.node o267 (.node o523 .nil .nil) (.node o779 .nil .nil)) (.node (o395 p) (.node o651 .nil .nil) .nil)) (.node o203 (.node o331 (.node (o587 P) .nil .nil) .nil) (.node o459 (.node o715 .nil .nil) .nil))) (.node o107 (.node (o171 p) (.node (o299 p) (.node o555 .nil .nil) (.node o811 .nil .nil)) (.node o427 (.node o683 .nil .nil) .nil)) (.node o235 (.node o363 (.node o619 .nil .nil) .nil) (.node (o491 p) (.node (o747 p) .nil .nil) .nil)))) (.node o59 (.node o91 (.node o155 (.node o283 (.node o539 .nil .nil) (.node (o795 p) .nil .nil)) (.node o411 (.node o667 .nil .nil) .nil)) (.node (o219 p) (.node o347 (.node o603 .nil .nil) .nil) (.node o475 (.node o731 .nil .nil) .nil))) (.node (o123 p) (.node o187 (.node o315 (.node o571 .nil .nil) (.node (o827 p) .nil .nil)) (.node (o443 p) (.node o699 .nil .nil) .nil)) (.node o251 (.node (o379 p) (.node o635 .nil .nil) .nil) (.node (o507 p) (.node o763 .nil .nil) .nil))))))) (.node (boot_o_5 P) (.node (boot_o_9 P) (.node o17 (.node (o33 p) (.node o65 (.node o129 (.node (o257 p) (.node o513 .nil .nil) (.node o769 .nil .nil)) (.node o385 (.node o641 .nil .nil) .nil)) (.node o193 (.node o321 (.node o577 .nil .nil) (.node o833 .nil .nil)) (.node o449 (.node (o705 p) .nil .nil) .nil))) (.node (o97 p) (.node (o161 p) (.node o289 (.node (o545 p) .nil .nil) (.node o801 .nil .nil)) (.node o417 (.node o673 .nil .nil) .nil)) (.node o225 (.node o353 (.node o609 .nil .nil) .nil) (.node (o481 p) (.node o737 .nil .nil) .nil)))) (.node o49 (.node (o81 p) (.node o145 (.node (o273 p) (.node o529 .nil .nil) (.node o785 .nil .nil)) (.node o401 (.node o657 .nil .nil) .nil)) (.node (o209 p) (.node (o337 p) (.node o593 .nil .nil) .nil) (.node o465 (.node o721 .nil .nil) .nil))) (.node o113 (.node o177 (.node o305 (.node o561 .nil .nil) (.node o817 .nil .nil)) (.node (o433 P) (.node o689 .nil .nil) .nil)) (.node o241 (.node o369 (.node o625 .nil .nil) .nil) (.node o497 (.node o753 .nil .nil) .nil))))) (.node o25 (.node o41 (.node o73 (.node (o137 p) (.node o265 (.node (o521 p) .nil .nil) (.node o777 .nil .nil)) (.node (o393 p) (.node o649 .nil .nil) .nil)) (.node o201 (.node o329 (.node (o585 p) .nil .nil) (.node (o841 p) .nil .nil)) (.node (o457 p) (.node o713 .nil .nil) .nil))) (.node o105 (.node (o169 p) (.node o297 (.node o553 .nil .nil) (.node o809 .nil .nil)) (.node (o425 P) (.node o681 .nil .nil) .nil)) (.node (o233 p) (.node o361 (.node o617 .nil .nil) .nil) (.node o489 (.node o745 .nil .nil) .nil)))) (.node o57 (.node o89 (.node o153 (.node o281 (.node o537 .nil .nil) (.node o793 .nil .nil)) (.node (o409 p) (.node (o665 p) .nil .nil) .nil)) (.node (o217 p) (.node o345 (.node o601 .nil .nil) .nil) (.node o473 (.node o729 .nil .nil) .nil))) (.node o121 (.node (o185 P) (.node (o313 p) (.node (o569 P) .nil .nil) (.node o825 .nil .nil)) (.node o441 (.node o697 .nil .nil) .nil)) (.node o249 (.node o377 (.node o633 .nil .nil) .nil) (.node (o505 p) (.node o761 .nil .nil) .nil)))))) (.node o13 (.node (o21 p) (.node o37 (.node o69 (.node o133 (.node o261 (.node o517 .nil .nil) (.node o773 .nil .nil)) (.node o389 (.node o645 .nil .nil) .nil)) (.node (o197 p) (.node (o325 p) (.node o581 .nil .nil) (.node o837 .nil .nil)) (.node o453 (.node o709 .nil .nil) .nil))) (.node o101 (.node o165 (.node o293 (.node o549 .nil .nil) (.node o805 .nil .nil)) (.node (o421 p) (.node (o677 p) .nil .nil) .nil)) (.node o229 (.node o357 (.node (o613 p) .nil .nil) .nil) (.node o485 (.node o741 .nil .nil) .nil)))) (.node o53 (.node o85 (.node (o149 P) (.node o277 (.node (o533 p) .nil .nil) (.node o789 .nil .nil)) (.node o405 (.node o661 .nil .nil) .nil)) (.node o213 (.node o341 (.node (o597 p) .nil .nil) .nil) (.node o469 (.node o725 .nil .nil) .nil))) (.node o117 (.node (o181 p) (.node o309 (.node o565 .nil .nil) (.node o821 .nil .nil)) (.node o437 (.node (o693 p) .nil .nil) .nil)) (.node (o245 p) (.node o373 (.node o629 .nil .nil) .nil) (.node o501 (.node o757 .nil .nil) .nil))))) (.node o29 (.node o45 (.node o77 (.node (o141 P) (.node o269 (.node o525 .nil .nil) (.node (o781 p) .nil .nil)) (.node o397 (.node o653 .nil .nil) .nil)) (.node o205 (.node o333 (.node o589 .nil .nil) .nil) (.node o461 (.node (o717 P) .nil .nil) .nil))) (.node (o109 p) (.node o173 (.node (o301 p) (.node (o557 p) .nil .nil) (.node o813 .nil .nil)) (.node o429 (.node o685 .nil .nil) .nil)) (.node o237 (.node (o365 p) (.node o621 .nil .nil) .nil) (.node (o493 p) (.node (o749 p) .nil .nil) .nil)))) (.node o61 (.node o93 (.node o157 (.node (o285 p) (.node o541 .nil .nil) (.node (o797 p) .nil .nil)) (.node o413 (.node o669 .nil .nil) .nil)) (.node o221 (.node (o349 P) (.node o605 .nil .nil) .nil) (.node o477 (.node (o733 p) .nil .nil) .nil))) (.node (o125 p) (.node o189 (.node o317 (.node o573 .nil .nil) (.node (o829 p) .nil .nil)) (.node (o445 p) (.node o701 .nil .nil) .nil)) (.node o253 (.node (o381 p) (.node (o637 p) .nil .nil) .nil) (.node (o509 P) (.node o765 .nil .nil) .nil)))))))) (.node (boot_o_2 P) (.node (boot_o_4 P) (.node (boot_o_8 P) (.node o16 (.node o32 (.node (o64 P) (.node o128 (.node o256 (.node o512 .nil .nil) (.node o768 .nil .nil)) (.node o384 (.node o640 .nil .nil) .nil)) (.node o192 (.node (o320 p) (.node o576 .nil .nil) (.node o832 .nil .nil)) (.node (o448 p) (.node o704 .nil .nil) .nil))) (.node o96 (.node o160 (.node o288 (.node o544 .nil .nil) (.node (o800 p) .nil .nil)) (.node (o416 p) (.node (o672 p) .nil .nil) .nil)) (.node (o224 p) (.node o352 (.node o608 .nil .nil) .nil) (.node o480 (.node o736 .nil .nil) .nil)))) (.node o48 (.node o80 (.node o144 (.node o272 (.node (o528 p) .nil .nil) (.node o784 .nil .nil)) (.node o400 (.node (o656 p) .nil .nil) .nil)) (.node o208 (.node o336 (.node o592 .nil .nil) .nil) (.node (o464 p) (.node o720 .nil .nil) .nil))) (.node o112 (.node (o176 p) (.node o304 (.node o560 .nil .nil) (.node (o816 p) .nil .nil)) (.node o432 (.node o688 .nil .nil) .nil)) (.node o240 (.node o368 (.node o624 .nil .nil) .nil) (.node (o496 P) (.node (o752 p) .nil .nil) .nil))))) (.node (o24 P) (.node (o40 p) (.node o72 (.node o136 (.node (o264 p) (.node o520 .nil .nil) (.node (o776 p) .nil .nil)) (.node o392 (.node o648 .nil .nil) .nil)) (.node o200 (.node o328 (.node o584 .nil .nil) (.node o840 .nil .nil)) (.node o456 (.node (o712 p) .nil .nil) .nil))) (.node (o104 p) (.node o168 (.node o296 (.node (o552 p) .nil .nil) (.node o808 .nil .nil)) (.node o424 (.node o680 .nil .nil) .nil)) (.node o232 (.node (o360 p) (.node (o616 p) .nil .nil) .nil) (.node (o488 p) (.node o744 .nil .nil) .nil)))) (.node o56 (.node (o88 p) (.node o152 (.node (o280 p) (.node (o536 p) .nil .nil) (.node o792 .nil .nil)) (.node o408 (.node o664 .nil .nil) .nil)) (.node o216 (.node (o344 p) (.node o600 .nil .nil) .nil) (.node o472 (.node (o728 p) .nil .nil) .nil))) (.node o120 (.node o184 (.node o312 (.node o568 .nil .nil) (.node (o824 p) .nil .nil)) (.node o440 (.node o696 .nil .nil) .nil)) (.node o248 (.node o376 (.node o632 .nil .nil) .nil) (.node o504 (.node o760 .nil .nil) .nil)))))) (.node c18 (.node o20 (.node o36 (.node o68 (.node (o132 p) (.node o260 (.node o516 .nil .nil) (.node o772 .nil .nil)) (.node o388 (.node (o644 p) .nil .nil) .nil)) (.node o196 (.node o324 (.node (o580 p) .nil .nil) (.node (o836 p) .nil .nil)) (.node o452 (.node o708 .nil .nil) .nil))) (.node o100 (.node (o164 p) (.node (o292 p) (.node o548 .nil .nil) (.node (o804 P) .nil .nil)) (.node o420 (.node o676 .nil .nil) .nil)) (.node o228 (.node o356 (.node o612 .nil .nil) .nil) (.node o484 (.node (o740 p) .nil .nil) .nil)))) (.node o52 (.node o84 (.node o148 (.node o276 (.node o532 .nil .nil) (.node (o788 p) .nil .nil)) (.node o404 (.node o660 .nil .nil) .nil)) (.node (o212 p) (.node o340 (.node o596 .nil .nil) .nil) (.node o468 (.node o724 .nil .nil) .nil))) (.node o116 (.node o180 (.node (o308 p) (.node (o564 p) .nil .nil) (.node o820 .nil .nil)) (.node o436 (.node o692 .nil .nil) .nil)) (.node o244 (.node (o372 p) (.node (o628 P) .nil .nil) .nil) (.node o500 (.node (o756 P) .nil .nil) .nil))))) (.node o28 (.node o44 (.node (o76 p) (.node o140 (.node o268 (.node o524 .nil .nil) (.node o780 .nil .nil)) (.node o396 (.node o652 .nil .nil) .nil)) (.node (o204 p) (.node (o332 p) (.node o588 .nil .nil) .nil) (.node o460 (.node o716 .nil .nil) .nil))) (.node o108 (.node o172 (.node o300 (.node o556 .nil .nil) (.node o812 .nil .nil)) (.node o428 (.node (o684 p) .nil .nil) .nil)) (.node (o236 p) (.node o364 (.node (o620 P) .nil .nil) .nil) (.node o492 (.node o748 .nil .nil) .nil)))) (.node (o60 p) (.node o92 (.node o156 (.node o284 (.node o540 .nil .nil) (.node o796 .nil .nil)) (.node o412 (.node o668 .nil .nil) .nil)) (.node o220 (.node o348 (.node o604 .nil .nil) .nil) (.node (o476 p) (.node o732 .nil .nil) .nil))) (.node o124 (.node o188 (.node o316 (.node o572 .nil .nil) (.node o828 .nil .nil)) (.node o444 (.node (o700 p) .nil .nil) .nil)) (.node (o252 p) (.node o380 (.node o636 .nil .nil) .nil) (.node o508 (.node (o764 P) .nil .nil) .nil))))))) (.node (boot_o_6 P) (.node (boot_o_10 P) (.node o18 (.node o34 (.node o66 (.node (o130 p) (.node o258 (.node o514 .nil .nil) (.node o770 .nil .nil)) (.node o386 (.node (o642 p) .nil .nil) .nil)) (.node o194 (.node o322 (.node (o578 p) .nil .nil) (.node (o834 p) .nil .nil)) (.node (o450 p) (.node o706 .nil .nil) .nil))) (.node o98 (.node o162 (.node o290 (.node o546 .nil .nil) (.node (o802 p) .nil .nil)) (.node o418 (.node o674 .nil .nil) .nil)) (.node (o226 p) (.node o354 (.node o610 .nil .nil) .nil) (.node o482 (.node o738 .nil .nil) .nil)))) (.node (o50 P) (.node o82 (.node o146 (.node o274 (.node o530 .nil .nil) (.node o786 .nil .nil)) (.node o402 (.node (o658 p) .nil .nil) .nil)) (.node o210 (.node o338 (.node o594 .nil .nil) .nil) (.node (o466 P) (.node o722 .nil .nil) .nil))) (.node (o114 P) (.node o178 (.node (o306 p) (.node o562 .nil .nil) (.node o818 .nil .nil)) (.node o434 (.node o690 .nil .nil) .nil)) (.node o242 (.node o370 (.node o626 .nil .nil) .nil) (.node o498 (.node (o754 p) .nil .nil) .nil))))) (.node o26 (.node (o42 P) (.node (o74 p) (.node o138 (.node (o266 p) (.node o522 .nil .nil) (.node o778 .nil .nil)) (.node o394 (.node o650 .nil .nil) .nil)) (.node (o202 p) (.node o330 (.node o586 .nil .nil) .nil) (.node o458 (.node (o714 p) .nil .nil) .nil))) (.node o106 (.node o170 (.node o298 (.node o554 .nil .nil) (.node o810 .nil .nil)) (.node o426 (.node o682 .nil .nil) .nil)) (.node o234 (.node o362 (.node (o618 p) .nil .nil) .nil) (.node o490 (.node o746 .nil .nil) .nil)))) (.node o58 (.node (o90 p) (.node o154 (.node o282 (.node (o538 p) .nil .nil) (.node o794 .nil .nil)) (.node o410 (.node o666 .nil .nil) .nil)) (.node o218 (.node (o346 p) (.node (o602 P) .nil .nil) .nil) (.node (o474 p) (.node o730 .nil .nil) .nil))) (.node o122 (.node o186 (.node o314 (.node o570 .nil .nil) (.node o826 .nil .nil)) (.node o442 (.node (o698 p) .nil .nil) .nil)) (.node (o250 p) (.node o378 (.node o634 .nil .nil) .nil) (.node o506 (.node o762 .nil .nil) .nil)))))) (.node o14 (.node o22 (.node (o38 p) (.node o70 (.node o134 (.node o262 (.node o518 .nil .nil) (.node (o774 p) .nil .nil)) (.node o390 (.node (o646 P) .nil .nil) .nil)) (.node o198 (.node o326 (.node o582 .nil .nil) (.node o838 .nil .nil)) (.node o454 (.node o710 .nil .nil) .nil))) (.node (o102 p) (.node (o166 p) (.node (o294 p) (.node (o550 p) .nil .nil) (.node o806 .nil .nil)) (.node o422 (.node o678 .nil .nil) .nil)) (.node o230 (.node (o358 p) (.node o614 .nil .nil) .nil) (.node (o486 p) (.node (o742 p) .nil .nil) .nil)))) (.node o54 (.node o86 (.node o150 (.node (o278 p) (.node o534 .nil .nil) (.node (o790 p) .nil .nil)) (.node o406 (.node o662 .nil .nil) .nil)) (.node (o214 p) (.node o342 (.node o598 .nil .nil) .nil) (.node o470 (.node (o726 p) .nil .nil) .nil))) (.node o118 (.node o182 (.node o310 (.node (o566 p) .nil .nil) (.node (o822 p) .nil .nil)) (.node o438 (.node o694 .nil .nil) .nil)) (.node o246 (.node (o374 p) (.node o630 .nil .nil) .nil) (.node o502 (.node o758 .nil .nil) .nil))))) (.node o30 (.node o46 (.node o78 (.node o142 (.node o270 (.node (o526 p) .nil .nil) (.node o782 .nil .nil)) (.node (o398 P) (.node o654 .nil .nil) .nil)) (.node o206 (.node (o334 p) (.node o590 .nil .nil) .nil) (.node (o462 p) (.node o718 .nil .nil) .nil))) (.node o110 (.node (o174 p) (.node o302 (.node o558 .nil .nil) (.node (o814 p) .nil .nil)) (.node o430 (.node (o686 p) .nil .nil) .nil)) (.node (o238 p) (.node o366 (.node o622 .nil .nil) .nil) (.node o494 (.node o750 .nil .nil) .nil)))) (.node (o62 p) (.node o94 (.node o158 (.node o286 (.node o542 .nil .nil) (.node o798 .nil .nil)) (.node (o414 p) (.node (o670 p) .nil .nil) .nil)) (.node o222 (.node o350 (.node o606 .nil .nil) .nil) (.node o478 (.node o734 .nil .nil) .nil))) (.node o126 (.node o190 (.node (o318 p) (.node o574 .nil .nil) (.node o830 .nil .nil)) (.node o446 (.node o702 .nil .nil) .nil)) (.node o254 (.node o382 (.node o638 .nil .nil) .nil) (.node o510 (.node o766 .nil .nil) .nil)))))))))
theorem p0 : Piece 0 7 331 T0 15 187 ⟨0, 0, 0, 0⟩ T1 48 245 ⟨9, 0, 19, 91⟩ := fun w => by kernel_rfl
theorem p1 : Piece 7 6 386 T1 48 245 ⟨9, 0, 19, 91⟩ T2 105 326 ⟨45, 0, 46, 82⟩ := fun w => by kernel_rfl
theorem p2 : Piece 13 3 341 T2 105 326 ⟨45, 0, 46, 82⟩ T3 147 396 ⟨52, 0, 88, 103⟩ := fun w => by kernel_rfl
theorem p3 : Piece 16 2 372 T3 147 396 ⟨52, 0, 88, 103⟩ T4 198 461 ⟨108, 0, 111, 30⟩ := fun w => by kernel_rfl
theorem p4 : Piece 18 15 398 T4 198 461 ⟨108, 0, 111, 30⟩ T5 274 579 ⟨199, 0, 205, 15⟩ := fun w => by kernel_rfl
theorem p5 : Piece 33 15 384 T5 274 579 ⟨199, 0, 205, 15⟩ T6 347 696 ⟨281, 0, 281, 8⟩ := fun w => by kernel_rfl
theorem p6 : Piece 48 5 379 T6 347 696 ⟨281, 0, 281, 8⟩ T7 396 766 ⟨312, 0, 312, 10⟩ := fun w => by kernel_rfl
theorem p7 : Piece 53 1 291 T7 396 766 ⟨312, 0, 312, 10⟩ T8 431 815 ⟨313, 0, 325, 16⟩ := fun w => by kernel_rfl
theorem p8 : Piece 54 3 377 T8 431 815 ⟨313, 0, 325, 16⟩ T9 482 887 ⟨352, 0, 355, 41⟩ := fun w => by kernel_rfl
theorem p9 : Piece 57 8 380 T9 482 887 ⟨352, 0, 355, 41⟩ T10 529 966 ⟨386, 0, 387, 77⟩ := fun w => by kernel_rfl
theorem p10 : Piece 65 7 197 T10 529 966 ⟨386, 0, 387, 77⟩ T11 567 1027 ⟨432, 0, 432, 8⟩ := fun w => by kernel_rfl
theorem p11 : Piece 72 3 298 T11 567 1027 ⟨432, 0, 432, 8⟩ T12 600 1080 ⟨455, 0, 455, 8⟩ := fun w => by kernel_rfl
theorem p12 : Piece 75 1 251 T12 600 1080 ⟨455, 0, 455, 8⟩ T13 626 1115 ⟨456, 0, 462, 100⟩ := fun w => by kernel_rfl
theorem p13 : Piece 76 6 392 T13 626 1115 ⟨456, 0, 462, 100⟩ T14 680 1196 ⟨506, 0, 506, 8⟩ := fun w => by kernel_rfl
theorem p14 : Piece 82 6 171 T14 680 1196 ⟨506, 0, 506, 8⟩ T15 715 1249 ⟨547, 0, 547, 8⟩ := fun w => by kernel_rfl
theorem p15 : Piece 88 5 384 T15 715 1249 ⟨547, 0, 547, 8⟩ T16 762 1317 ⟨570, 0, 570, 9⟩ := fun w => by kernel_rfl
theorem p16 : Piece 93 3 395 T16 762 1317 ⟨570, 0, 570, 9⟩ T17 817 1394 ⟨595, 0, 596, 35⟩ := fun w => by kernel_rfl
theorem p17 : Piece 96 5 128 T17 817 1394 ⟨595, 0, 596, 35⟩ T18 842 1428 ⟨618, 0, 651, 66⟩ := fun w => by kernel_rfl
noncomputable abbrev PW : Program := PySem.Challenge.pw_nu0202_01
abbrev tpos : Pos := ⟨0, 0, 0, 0⟩
abbrev SegT := (String → Option Builtin) → Program → World → Nat → Option Value → Nat → Nat → SharedT → Thread → Option (Flow × SharedT × Code × Pos)
noncomputable def PieceG (sr : SegT) (tb : String → Option Builtin) (p : Program) (a n steps : Nat) (T : Program → Params → BT) (sz tk : Nat) (pos : Pos) (T' : Program → Params → BT) (sz' tk' : Nat) (pos' : Pos) : Prop :=
  ∀ w : World, (fun os : OsState => sr tb p w 11 (some (.ref 6)) 1 steps ⟨T p w.params, sz, {}, Array.mk [], boot_drawn, tk, os⟩
      (piecesOf ((p.main.body.drop a).take n) (env p) (cE p) pos [topFrame tpos])) =
    fun os => some (.next, ⟨T' p w.params, sz', {}, Array.mk [], boot_drawn, tk', os⟩, cE p, pos')
theorem conv {a n steps : Nat} {T : Program → Params → BT} {sz tk : Nat} {pos : Pos} {T' : Program → Params → BT} {sz' tk' : Nat} {pos' : Pos} (h : Piece a n steps T sz tk pos T' sz' tk' pos') :
    PieceG segRunT treeTable PW a n steps T sz tk pos T' sz' tk' pos' := by
  rewrite [PySem.W.Fast.te10110043849684766642, PySem.W.Fast.te14364793385576792824]
  exact h
noncomputable def hp (T : Program → Params → BT) (sz : Nat) (P : Params) : Heap := absHeap (T PW P) sz {}
theorem seg_of {a n steps : Nat} {T : Program → Params → BT} {sz tk : Nat} {pos : Pos} {T' : Program → Params → BT} {sz' tk' : Nat} {pos' : Pos} (h : Piece a n steps T sz tk pos T' sz' tk' pos') (w : World) (os : OsState) :
    segRun treeTable PW w 11 (some (.ref 6)) 1 steps ⟨hp T sz w.params, Array.mk [], boot_drawn, tk, os⟩ (piecesOf ((PW.main.body.drop a).take n) (env PW) (cE PW) pos [topFrame tpos]) =
      some (.next, ⟨hp T' sz' w.params, Array.mk [], boot_drawn, tk', os⟩, cE PW, pos') :=
  segRun_of (congrFun (conv h w) os)
theorem app_of {a n steps : Nat} {T : Program → Params → BT} {sz tk : Nat} {pos : Pos} {T' : Program → Params → BT} {sz' tk' : Nat} {pos' : Pos} (h : Piece a n steps T sz tk pos T' sz' tk' pos') {w : World} {os : OsState} {N : Nat} {rest : List Stmt} {r : Shared}
    (k : topRun treeTable PW w 11 (some (.ref 6)) N ⟨hp T' sz' w.params, Array.mk [], boot_drawn, tk', os⟩ (restOf rest (env PW) (cE PW) pos' [topFrame tpos]) = some r) :
    topRun treeTable PW w 11 (some (.ref 6)) (steps + N) ⟨hp T sz w.params, Array.mk [], boot_drawn, tk, os⟩ (restOf ((PW.main.body.drop a).take n ++ rest) (env PW) (cE PW) pos [topFrame tpos]) = some r :=
  piece_app (seg_of h w os) k
theorem blk_split : behindTheImports PW = (PW.main.body.drop 0).take 7 ++ ((PW.main.body.drop 7).take 6 ++ ((PW.main.body.drop 13).take 3 ++ ((PW.main.body.drop 16).take 2 ++ ((PW.main.body.drop 18).take 15 ++ ((PW.main.body.drop 33).take 15 ++ ((PW.main.body.drop 48).take 5 ++ ((PW.main.body.drop 53).take 1 ++ ((PW.main.body.drop 54).take 3 ++ ((PW.main.body.drop 57).take 8 ++ ((PW.main.body.drop 65).take 7 ++ ((PW.main.body.drop 72).take 3 ++ ((PW.main.body.drop 75).take 1 ++ ((PW.main.body.drop 76).take 6 ++ ((PW.main.body.drop 82).take 6 ++ ((PW.main.body.drop 88).take 5 ++ ((PW.main.body.drop 93).take 3 ++ ((PW.main.body.drop 96).take 5 ++ ([])))))))))))))))))) := by kernel_rfl
noncomputable def Ha (P : Params) : Heap := ⟨Array.mk [boot_o_0 P, boot_o_1 P, boot_o_2 P, boot_o_3 P, boot_o_4 P, boot_o_5 P, boot_o_6 P, boot_o_7 P, boot_o_8 P, boot_o_9 P, boot_o_10 P, o11, c0, o13, o14], {}⟩
theorem pre : ∀ w : World, (fun os : OsState => topGo treeTable PW w 11 (some (.ref 6)) 12 ⟨boot_heap w.params, Array.mk [], boot_drawn, boot_toks, os⟩ (topStub PW)) =
    fun os => some (⟨Ha w.params, Array.mk [], boot_drawn, 187, os⟩, ⟨denote treeTable (cE PW), cE PW, tpos, [topFrame tpos]⟩) := by
  intro w
  rewrite [PySem.W.Fast.te15667345088766844465, PySem.W.Fast.te14364793385576792824, PySem.W.Fast.te11892475500146522536]
  kernel_rfl
theorem blk : ∀ w : World, (fun os : OsState => segRun treeTable PW w 11 (some (.ref 6)) 1 1 ⟨Ha w.params, Array.mk [], boot_drawn, 187, os⟩ (blockOf (behindTheImports PW) (env PW) (cE PW) tpos [topFrame tpos])) =
    fun os => some (.next, ⟨hp T0 15 w.params, Array.mk [], boot_drawn, 187, os⟩, cE PW, tpos) := by
  intro w
  kernel_rfl
noncomputable def H1 (P : Params) : Heap := hp T18 842 P
theorem fin_ (w : World) (os : OsState) : topRun treeTable PW w 11 (some (.ref 6)) 2 ⟨hp T18 842 w.params, Array.mk [], boot_drawn, 1428, os⟩ (restOf [] (env PW) (cE PW) ⟨618, 0, 651, 66⟩ [topFrame tpos]) = some ⟨H1 w.params, Array.mk [], boot_drawn, 1428, os⟩ := by
  kernel_rfl
theorem run_ (w : World) (os : OsState) : topRun treeTable PW w 11 (some (.ref 6)) (12 + (1 + (331 + (386 + (341 + (372 + (398 + (384 + (379 + (291 + (377 + (380 + (197 + (298 + (251 + (392 + (171 + (384 + (395 + (128 + 2)))))))))))))))))))) ⟨boot_heap w.params, Array.mk [], boot_drawn, boot_toks, os⟩ (topStub PW) = some ⟨H1 w.params, Array.mk [], boot_drawn, 1428, os⟩ :=
  go_top (congrFun (pre w) os) (piece_block (congrFun (blk w) os) (blk_split ▸ app_of p0 (app_of p1 (app_of p2 (app_of p3 (app_of p4 (app_of p5 (app_of p6 (app_of p7 (app_of p8 (app_of p9 (app_of p10 (app_of p11 (app_of p12 (app_of p13 (app_of p14 (app_of p15 (app_of p16 (app_of p17 (fin_ w os))))))))))))))))))))
theorem open_ : ∀ w : World, (fencedOpening treeTable PW w 11800).map (fun s => (s.heap, s.gens, s.drawn, s.toks)) = some (boot_heap w.params, Array.mk [], boot_drawn, boot_toks) :=
  boot_open (by kernel_rfl) (by decide) (fun _ => rfl)
theorem size_ : ∀ w : World, ((boot_heap w.params).isNs mainGlobals && (Array.mk ([] : List GenState)).size == 0, (boot_heap w.params).objs.size, (boot_heap w.params).nsMap mainGlobals "__annotations__") = (true, 11, some (.ref 6)) := by
  intro w
  kernel_rfl
noncomputable def keep : List Nat := [0, 2, 3, 4, 5, 6, 7, 8, 9, 10, 11, 12, 13, 15, 16, 17, 18, 19, 20, 21, 22, 24, 25, 26, 27, 28, 29, 30, 31, 32, 33, 34, 35, 36, 38, 39, 40, 41, 42, 43, 44, 45, 46, 48, 49, 51, 52, 53, 54, 55, 56, 57, 58, 60, 61, 62, 63, 64, 65, 66, 67, 68, 69, 70, 72, 73, 75, 76, 77, 78, 79, 80, 82, 83, 84, 85, 86, 88, 90, 91, 92, 93, 95, 96, 97, 98, 99, 100]
noncomputable def K0 (p : Program) (P : Params) : Frag := [(0, boot_o_0 P), (1, boot_o_1 P), (2, boot_o_2 P), (3, g18 P), (4, boot_o_4 P), (5, boot_o_5 P), (6, boot_o_6 P), (7, boot_o_7 P), (9, boot_o_9 P), (10, boot_o_10 P), (34, o34), (35, o35 p), (42, o42 P), (43, o43), (55, o55), (61, o61), (62, o62 p), (64, o64 P), (65, o65), (75, o75), (76, o76 p), (82, o82), (83, o83 p), (89, o89), (90, o90 p), (96, o96), (97, o97 p), (103, o103), (104, o104 p), (110, o110), (111, o111 p), (124, o124), (125, o125 p), (131, o131), (132, o132 p), (141, o141 P), (142, o142), (154, o154), (160, o160), (161, o161 p)]
noncomputable def K1 (p : Program) (P : Params) : Frag := [(185, o185 P), (186, o186), (208, o208), (209, o209 p), (213, o213), (214, o214 p), (225, o225), (226, o226 p), (244, o244), (245, o245 p), (265, o265), (266, o266 p), (272, o272), (273, o273 p), (279, o279), (280, o280 p), (286, o286), (287, o287 p), (359, o359), (360, o360 p), (366, o366), (367, o367 p), (373, o373), (374, o374 p), (383, o383 P), (384, o384), (394, o394), (395, o395 p), (408, o408), (409, o409 p), (425, o425 P), (426, o426), (438, o438), (444, o444), (445, o445 p), (463, o463), (464, o464 p), (466, o466 P), (467, o467), (480, o480)]
noncomputable def K2 (p : Program) (P : Params) : Frag := [(481, o481 p), (487, o487), (488, o488 p), (492, o492), (493, o493 p), (506, o506), (507, o507 p), (509, o509 P), (510, o510), (520, o520), (521, o521 p), (527, o527), (528, o528 p), (532, o532), (533, o533 p), (544, o544), (545, o545 p), (551, o551), (552, o552 p), (558, o558), (559, o559 p), (565, o565), (566, o566 p), (579, o579), (580, o580 p), (587, o587 P), (588, o588), (598, o598), (599, o599 p), (612, o612), (613, o613 p), (620, o620 P), (621, o621), (638, o638), (639, o639 p), (646, o646 P), (647, o647), (657, o657), (658, o658 p), (664, o664)]
noncomputable def K3 (p : Program) (P : Params) : Frag := [(665, o665 p), (685, o685), (686, o686 p), (692, o692), (693, o693 p), (699, o699), (700, o700 p), (713, o713), (714, o714 p), (727, o727), (728, o728 p), (734, o734), (735, o735 p), (756, o756 P), (757, o757), (769, o769), (775, o775), (776, o776 p), (782, o782), (783, o783 p), (804, o804 P), (805, o805), (815, o815), (816, o816 p), (817, o817), (823, o823), (824, o824 p), (828, o828), (829, o829 p), (835, o835), (836, o836 p), (840, o840), (841, o841 p)]
noncomputable def KK (p : Program) (P : Params) : Frag := K0 p P ++ K1 p P ++ K2 p P ++ K3 p P
noncomputable def KA : List Addr := [0, 1, 2, 3, 4, 5, 6, 7, 9, 10, 34, 35, 42, 43, 55, 61, 62, 64, 65, 75, 76, 82, 83, 89, 90, 96, 97, 103, 104, 110, 111, 124, 125, 131, 132, 141, 142, 154, 160, 161, 185, 186, 208, 209, 213, 214, 225, 226, 244, 245, 265, 266, 272, 273, 279, 280, 286, 287, 359, 360, 366, 367, 373, 374, 383, 384, 394, 395, 408, 409, 425, 426, 438, 444, 445, 463, 464, 466, 467, 480, 481, 487, 488, 492, 493, 506, 507, 509, 510, 520, 521, 527, 528, 532, 533, 544, 545, 551, 552, 558, 559, 565, 566, 579, 580, 587, 588, 598, 599, 612, 613, 620, 621, 638, 639, 646, 647, 657, 658, 664, 665, 685, 686, 692, 693, 699, 700, 713, 714, 727, 728, 734, 735, 756, 757, 769, 775, 776, 782, 783, 804, 805, 815, 816, 817, 823, 824, 828, 829, 835, 836, 840, 841]
noncomputable def Hl (p : Program) (P : Params) : Heap := ⟨Array.mk [boot_o_0 P, boot_o_1 P, boot_o_2 P, g18 P, boot_o_4 P, boot_o_5 P, boot_o_6 P, boot_o_7 P, boot_o_8 P, boot_o_9 P, boot_o_10 P, o11, c18, o13, o14, o15, o16, o17, o18, o19 p, o20, o21 p, o22, o23, o24 P, o25, o26, o27, o28, o29, o30, o31, o32, o33 p, o34, o35 p, o36, o37, o38 p, o39, o40 p, o41, o42 P, o43, o44, o45, o46, o47, o48, o49, o50 P, o51, o52, o53, o54, o55, o56, o57, o58, o59, o60 p, o61, o62 p, o63, o64 P, o65, o66, o67, o68, o69, o70, o71, o72, o73, o74 p, o75, o76 p, o77, o78, o79, o80, o81 p, o82, o83 p, o84, o85, o86, o87, o88 p, o89, o90 p, o91, o92, o93, o94, o95 p, o96, o97 p, o98, o99, o100, o101, o102 p, o103, o104 p, o105, o106, o107, o108, o109 p, o110, o111 p, o112, o113, o114 P, o115, o116, o117, o118, o119, o120, o121, o122, o123 p, o124, o125 p, o126, o127, o128, o129, o130 p, o131, o132 p, o133, o134, o135, o136, o137 p, o138, o139 p, o140, o141 P, o142, o143, o144, o145, o146, o147, o148, o149 P, o150, o151, o152, o153, o154, o155, o156, o157, o158, o159 p, o160, o161 p, o162, o163, o164 p, o165, o166 p, o167, o168, o169 p, o170, o171 p, o172, o173, o174 p, o175, o176 p, o177, o178, o179, o180, o181 p, o182, o183 p, o184, o185 P, o186, o187, o188, o189, o190, o191, o192, o193, o194, o195 p, o196, o197 p, o198, o199, o200, o201, o202 p, o203, o204 p, o205, o206, o207 p, o208, o209 p, o210, o211, o212 p, o213, o214 p, o215, o216, o217 p, o218, o219 p, o220, o221, o222, o223, o224 p, o225, o226 p, o227, o228, o229, o230, o231 p, o232, o233 p, o234, o235, o236 p, o237, o238 p, o239, o240, o241, o242, o243 p, o244, o245 p, o246, o247, o248, o249, o250 p, o251, o252 p, o253, o254, o255, o256, o257 p, o258, o259 p, o260, o261, o262, o263, o264 p, o265, o266 p, o267, o268, o269, o270, o271 p, o272, o273 p, o274, o275, o276, o277, o278 p, o279, o280 p, o281, o282, o283, o284, o285 p, o286, o287 p, o288, o289, o290, o291, o292 p, o293, o294 p, o295, o296, o297, o298, o299 p, o300, o301 p, o302, o303, o304, o305, o306 p, o307, o308 p, o309, o310, o311 p, o312, o313 p, o314, o315, o316, o317, o318 p, o319, o320 p, o321, o322, o323, o324, o325 p, o326, o327 p, o328, o329, o330, o331, o332 p, o333, o334 p, o335, o336, o337 p, o338, o339 p, o340, o341, o342, o343, o344 p, o345, o346 p, o347, o348, o349 P, o350, o351, o352, o353, o354, o355, o356, o357, o358 p, o359, o360 p, o361, o362, o363, o364, o365 p, o366, o367 p, o368, o369, o370, o371, o372 p, o373, o374 p, o375, o376, o377, o378, o379 p, o380, o381 p, o382, o383 P, o384, o385, o386, o387, o388, o389, o390, o391, o392, o393 p, o394, o395 p, o396, o397, o398 P, o399, o400, o401, o402, o403, o404, o405, o406, o407 p, o408, o409 p, o410, o411, o412, o413, o414 p, o415, o416 p, o417, o418, o419, o420, o421 p, o422, o423 p, o424, o425 P, o426, o427, o428, o429, o430, o431, o432, o433 P, o434, o435, o436, o437, o438, o439, o440, o441, o442, o443 p, o444, o445 p, o446, o447, o448 p, o449, o450 p, o451, o452, o453, o454, o455 p, o456, o457 p, o458, o459, o460, o461, o462 p, o463, o464 p, o465, o466 P, o467, o468, o469, o470, o471, o472, o473, o474 p, o475, o476 p, o477, o478, o479 p, o480, o481 p, o482, o483, o484, o485, o486 p, o487, o488 p, o489, o490, o491 p, o492, o493 p, o494, o495, o496 P, o497, o498, o499, o500, o501, o502, o503, o504, o505 p, o506, o507 p, o508, o509 P, o510, o511, o512, o513, o514, o515, o516, o517, o518, o519 p, o520, o521 p, o522, o523, o524, o525, o526 p, o527, o528 p, o529, o530, o531 p, o532, o533 p, o534, o535, o536 p, o537, o538 p, o539, o540, o541, o542, o543 p, o544, o545 p, o546, o547, o548, o549, o550 p, o551, o552 p, o553, o554, o555, o556, o557 p, o558, o559 p, o560, o561, o562, o563, o564 p, o565, o566 p, o567, o568, o569 P, o570, o571, o572, o573, o574, o575, o576, o577, o578 p, o579, o580 p, o581, o582, o583 p, o584, o585 p, o586, o587 P, o588, o589, o590, o591, o592, o593, o594, o595, o596, o597 p, o598, o599 p, o600, o601, o602 P, o603, o604, o605, o606, o607, o608, o609, o610, o611 p, o612, o613 p, o614, o615, o616 p, o617, o618 p, o619, o620 P, o621, o622, o623, o624, o625, o626, o627, o628 P, o629, o630, o631, o632, o633, o634, o635, o636, o637 p, o638, o639 p, o640, o641, o642 p, o643, o644 p, o645, o646 P, o647, o648, o649, o650, o651, o652, o653, o654, o655, o656 p, o657, o658 p, o659, o660, o661, o662, o663 p, o664, o665 p, o666, o667, o668, o669, o670 p, o671, o672 p, o673, o674, o675, o676, o677 p, o678, o679 p, o680, o681, o682, o683, o684 p, o685, o686 p, o687, o688, o689, o690, o691 p, o692, o693 p, o694, o695, o696, o697, o698 p, o699, o700 p, o701, o702, o703, o704, o705 p, o706, o707 p, o708, o709, o710, o711, o712 p, o713, o714 p, o715, o716, o717 P, o718, o719, o720, o721, o722, o723, o724, o725, o726 p, o727, o728 p, o729, o730, o731, o732, o733 p, o734, o735 p, o736, o737, o738, o739, o740 p, o741, o742 p, o743, o744, o745, o746, o747 p, o748, o749 p, o750, o751, o752 p, o753, o754 p, o755, o756 P, o757, o758, o759, o760, o761, o762, o763, o764 P, o765, o766, o767, o768, o769, o770, o771, o772, o773, o774 p, o775, o776 p, o777, o778, o779, o780, o781 p, o782, o783 p, o784, o785, o786, o787, o788 p, o789, o790 p, o791, o792, o793, o794, o795 p, o796, o797 p, o798, o799, o800 p, o801, o802 p, o803, o804 P, o805, o806, o807, o808, o809, o810, o811, o812, o813, o814 p, o815, o816 p, o817, o818, o819, o820, o821, o822 p, o823, o824 p, o825, o826, o827 p, o828, o829 p, o830, o831, o832, o833, o834 p, o835, o836 p, o837, o838, o839 p, o840, o841 p], {}⟩
theorem hl (p : Program) (P : Params) : absHeap (T18 p P) 842 {} = Hl p P := by kernel_rfl
noncomputable def ss (p : Program) (P : Params) (os : OsState) : Shared := ⟨Hl p P, Array.mk [], boot_drawn, 1428, os⟩
noncomputable abbrev vw (p : Program) : Program := view p keep
noncomputable abbrev Xt (p : Program) (s : Shared) : Bool := xlAt (vw p) [] s && recOk [] s
theorem la (P : Params) (os : OsState) : (fun (p : Program) => (staticsOk (importedModules p.main.body) (boot_heap P) (ss p P os).heap && namesBound p (ss p P os).heap && gensDone (ss p P os) && laidKept (boot_heap P) (ss p P os).heap)) PW = (fun (p : Program) => true) PW := by
  kernel_rfl
theorem l1 (P : Params) (os : OsState) : (fun (p : Program) => seen ((recsOf (vw p)).map (·.name)) (ownsOf (vw p)) [] { ss p P os with gens := #[] }) PW = (fun (p : Program) => expectedOf (vw p)) PW := by
  unfold expectedOf; rewrite [PySem.W.Fast.te5160383126252970620, PySem.W.Fast.te3399658132070893891, PySem.W.Fast.te5991557255702980513]; kernel_rfl
theorem l2 (P : Params) (os : OsState) : (fun (p : Program) => (ss p P os).heap.bltView) PW = (fun (p : Program) => bltViewBooted) PW := by
  kernel_rfl
theorem l3 (P : Params) (os : OsState) : (fun (p : Program) => ((ss p P os).heap.keysOk (looseW (vw p) []) ((recsOf (vw p)).map (·.name)) ((litsOf (vw p)).map (·.1)) ((clssOf (vw p) (looseW (vw p) [])).map (·.name)) && (ss p P os).heap.accountedOkI (importedModules p.main.body) && (ss p P os).heap.isNs mainGlobals && (ss p P os).heap.isNs builtinsNs && tablesOk (vw p) (ss p P os).heap && Xt p (ss p P os) && (if true then (ss p P os).gens.size == 0 else !leftWithCleanup (ss p P os).gens))) PW = (fun (p : Program) => true) PW := by
  rewrite [PySem.W.Fast.te10880121769531294198, PySem.W.Fast.te821141287760084731, PySem.W.Fast.te3399658132070893891, PySem.W.Fast.te7409074990110511671, PySem.W.Fast.te13664370479719496447, PySem.W.Fast.te14722251495701143533, PySem.W.Fast.te10994771534591457954]; kernel_rfl
theorem l4 (P : Params) (os : OsState) : (fun (p : Program) => tabsOk (vw p) (ss p P os)) PW = (fun (p : Program) => true) PW := by
  rewrite [PySem.W.Fast.te479339242167458305]; kernel_rfl
theorem l5 (P : Params) (os : OsState) : (fun (p : Program) => pinSeenD (vw p) (drecsOf (vw p)) (ss p P os)) PW = (fun (p : Program) => pinGoodD (drecsOf (vw p))) PW := by
  rewrite [PySem.W.Fast.te16090120013241838585, PySem.W.Fast.te3247288618530077131]; kernel_rfl
theorem l6 (P : Params) (os : OsState) : (fun (p : Program) => plainSeenE (vw p) (looseW (vw p) []) (ss p P os)) PW = (fun (p : Program) => plainGoodE (vw p) (looseW (vw p) [])) PW := by
  unfold plainGoodE; rewrite [PySem.W.Fast.te2386780881361962483, PySem.W.Fast.te821141287760084731, PySem.W.Fast.te210736558901404530]; kernel_rfl
theorem l7 (P : Params) (os : OsState) : (fun (p : Program) => plainSeenD (vw p) [] (ss p P os)) PW = (fun (p : Program) => plainGoodD (vw p) []) PW := by
  unfold plainGoodD; rewrite [PySem.W.Fast.te11698064438423848299, PySem.W.Fast.te4354255287344443571]; kernel_rfl
theorem l8 (P : Params) (os : OsState) : (fun (p : Program) => wideSeen (vw p) (ss p P os)) PW = (fun (p : Program) => wideGood (vw p)) PW := by
  unfold wideGood; rewrite [PySem.W.Fast.te7317090234206586261, PySem.W.Fast.te694669760492028198]; kernel_rfl
theorem l9 (P : Params) (os : OsState) : (fun (p : Program) => clsSeenW (vw p) [] (ss p P os)) PW = (fun (p : Program) => clsGoodW (vw p) []) PW := by
  unfold clsGoodW; rewrite [PySem.W.Fast.te7369524293546568484, PySem.W.Fast.te1571739515156823405]; kernel_rfl
theorem lk (P : Params) (os : OsState) : (fun (p : Program) => KA.map (ss p P os).heap.get?) PW = (fun (p : Program) => (KK p P).map fun x => some x.2) PW := by
  kernel_rfl
noncomputable def Yf (s : Shared) : List (Option Obj) := KA.map s.heap.get?
noncomputable def Ya (w : World) : List (Option Obj) := (KK PW w.params).map fun x => some x.2
theorem looks_ (w : World) : (fun os : OsState => ((staticsOk (importedModules PW.main.body) (boot_heap w.params) (Hl PW w.params) && namesBound PW (Hl PW w.params) && gensDone ⟨Hl PW w.params, Array.mk [], boot_drawn, 1428, os⟩ && laidKept (boot_heap w.params) (Hl PW w.params)),
        openSeen (vw PW) [] (importedModules PW.main.body) (Xt PW) true ⟨Hl PW w.params, Array.mk [], boot_drawn, 1428, os⟩, Yf ⟨Hl PW w.params, Array.mk [], boot_drawn, 1428, os⟩)) = fun _ => (true, openGood (vw PW) [], Ya w) := by
  funext os
  refine looks_pair (la w.params os) (looks_pair ?_ (lk w.params os))
  exact looks_pair (l1 w.params os) (looks_pair (l2 w.params os) (looks_pair (l3 w.params os) (looks_pair (l4 w.params os) (looks_pair (l5 w.params os) (looks_pair (l6 w.params os) (looks_pair (l7 w.params os) (looks_pair (l8 w.params os) (l9 w.params os))))))))
theorem left : LeftO PW (vw PW) [] (Xt PW) Yf Ya 11800 :=
  LeftO.of_pieces open_ size_ (fun w os => by have h := run_ w os; rw [H1, hp, hl] at h; exact h) (by decide) looks_
theorem kk_keys (P : Params) : KA = (KK PW P).map (·.1) := by kernel_rfl
noncomputable abbrev RW : OpenRow := PySem.Challenge.rw_nu0202_01.row
theorem tw_ : RW.prog.tablesWhole = true := by
  unfold Program.tablesWhole TablesWhole.wProgram TablesWhole.holds; rewrite [PySem.W.Fast.te6116379765354995101, PySem.W.Fast.te15985051520779696433]; kernel_rfl
theorem head (d : DefRec) (kwd : List (Str × PySem.Expr)) (hdef : defOf (vw PW) RW.name = some (d, kwd)) (hp : RW.prog.theDef RW.name = some (d.params, d.body, d.scope)) (hk : kwWritten? d.params.kwonlyargs d.params.kw_defaults = some kwd)
    (k1 : RW.wellSaid = true)
    (hw : RW.toRowW.promised) (walk : WalkO (vw PW) [] (XL (vw PW) []) (fun w h => (KK PW w.params).In h) RW.toRowW d kwd fun f vs => PySem.call f vs) : RW.Holds := by
  refine holds_open (r := RW) (q := vw PW) (loose := []) (Xt := Xt PW) (XP := XL (vw PW) []) (Yf := Yf) (Ya := Ya) (YP := fun w h => (KK PW w.params).In h) (N := 11800) left
    (fun w s e => Frag.in_of (kk_keys w.params) e) (fun w h h' x k => x.keeps k) (fun s e => xl_of s (Bool.and_eq_true_iff.mp e).1) XL.keeps hdef hp hk (fun s e => recFacts_of (Bool.and_eq_true_iff.mp e).2) (by rfl) k1 ?_ ⟨rfl, rfl, rfl, rfl, rfl, ?_⟩ hw walk
  · decide +kernel
  · exact tw_
end Mine
open PySem.Calls
namespace Ly
open Mine (PW KK vw fB fA fS st me)
noncomputable def nv : Value → Value
  | .int i _ => .int i 0
  | .str x _ => .str x 0
  | .float b _ => .float b 0
  | .bytes b _ => .bytes b 0
  | v => v
inductive O where
  | list (xs : List Value)
  | tup (xs : List Value)
  | dict (kvs : List (Int × Value))
  | inst (C : Addr) (fs : List (Str × Value))
  | cell (v : Option Value)
  | ns (m : List (Str × Value))
  | raw (o : Obj)
abbrev AH := Addr → Option O
noncomputable def lk (m : List (Str × Value)) (x : Str) : Option Value := (m.find? fun p => p.1 == x).map (·.2)
noncomputable def putF (n : Str) (v : Value) : List (Str × Value) → List (Str × Value)
  | [] => [(n, v)]
  | p :: r => if p.1 == n then (p.1, v) :: r else p :: putF n v r
noncomputable def upd (H : AH) (a : Addr) (o : O) : AH := fun x => if x = a then some o else H x
theorem upd_self (H : AH) (a : Addr) (o : O) : upd H a o a = some o := if_pos rfl
theorem upd_ne (H : AH) {a x : Addr} (o : O) (h : x ≠ a) : upd H a o x = H x := if_neg h
noncomputable def FsOf (w : World) : List DictEntry → List (Str × Value) → Prop
  | [], [] => True
  | e :: es, p :: fs => (∃ t, e.key = .str p.1 t) ∧ e.hash = PyData.keyHash w.params p.1 ∧ nv e.val = p.2 ∧ FsOf w es fs
  | _, _ => False
noncomputable def OAt (w : World) (h : Heap) (dx : Addr → Addr) (a : Addr) : O → Prop
  | .list xs => ∃ (vs : List Value) (n : Nat), h.get? a = some (listOf vs.toArray n) ∧ vs.map nv = xs
  | .tup xs => ∃ vs : List Value, IsTup h a vs.toArray ∧ vs.map nv = xs
  | .dict kvs => ∃ ks : List (Int × Value), h.DictOf (intKind PW w) a ks ∧ ks.map (fun p => (p.1, nv p.2)) = kvs
  | .inst C fs => ∃ (es : List DictEntry) (n : Nat), h.get? a = some (instObj C (dx a)) ∧ h.get? (dx a) = some (dictOf es n) ∧ FsOf w es fs
  | .cell v => ∃ u, h.IsCell a u ∧ u.map nv = v
  | .ns m => ∃ mr, h.Ns a mr ∧ ∀ x, (mr x).map nv = lk m x
  | .raw o => h.get? a = some o
structure Rd (w : World) (b : Heap) (H : AH) (h : Heap) (dx : Addr → Addr) : Prop where
  keep : ∀ c o, b.get? c = some o → h.get? c = some o
  off : ∀ a o, H a = some o → b.get? a = none
  cell : ∀ a o, H a = some o → OAt w h dx a o
  boff : ∀ a C fs, H a = some (.inst C fs) → b.get? (dx a) = none
  doff : ∀ a C fs, H a = some (.inst C fs) → H (dx a) = none
  inj : ∀ a a' C fs C' fs', H a = some (.inst C fs) → H a' = some (.inst C' fs') → dx a = dx a' → a = a'
noncomputable def Rl (w : World) (b : Heap) (H : AH) (h : Heap) : Prop := ∃ dx, Rd w b H h dx
theorem OAt.mono {w : World} {h h' : Heap} {dx : Addr → Addr} {a : Addr} {o : O} (x : OAt w h dx a o) (h1 : ∀ ob, h.get? a = some ob → h'.get? a = some ob)
    (h2 : (∃ C fs, o = .inst C fs) → ∀ ob, h.get? (dx a) = some ob → h'.get? (dx a) = some ob) : OAt w h' dx a o := by
  cases o with
  | list xs => obtain ⟨vs, n, e, r⟩ := x; exact ⟨vs, n, h1 _ e, r⟩
  | tup xs => obtain ⟨vs, ⟨ob, e, r'⟩, r⟩ := x; exact ⟨vs, ⟨ob, h1 _ e, r'⟩, r⟩
  | dict kvs => obtain ⟨ks, ⟨ob, es, ep, e, r'⟩, r⟩ := x; exact ⟨ks, ⟨ob, es, ep, h1 _ e, r'⟩, r⟩
  | inst C fs => obtain ⟨es, n, e1, e2, r⟩ := x; exact ⟨es, n, h1 _ e1, h2 ⟨_, _, rfl⟩ _ e2, r⟩
  | cell v => obtain ⟨u, ⟨ob, e, r'⟩, r⟩ := x; exact ⟨u, ⟨ob, h1 _ e, r'⟩, r⟩
  | ns m => obtain ⟨mr, ⟨ob, es, ep, e, r'⟩, r⟩ := x; exact ⟨mr, ⟨ob, es, ep, h1 _ e, r'⟩, r⟩
  | raw ob => exact h1 _ x
theorem OAt.some {w : World} {h : Heap} {dx : Addr → Addr} {a : Addr} {o : O} (x : OAt w h dx a o) : ∃ ob, h.get? a = some ob := by
  cases o with
  | list xs => obtain ⟨vs, n, e, r⟩ := x; exact ⟨_, e⟩
  | tup xs => obtain ⟨vs, ⟨ob, e, r'⟩, r⟩ := x; exact ⟨_, e⟩
  | dict kvs => obtain ⟨ks, ⟨ob, es, ep, e, r'⟩, r⟩ := x; exact ⟨_, e⟩
  | inst C fs => obtain ⟨es, n, e1, e2, r⟩ := x; exact ⟨_, e1⟩
  | cell v => obtain ⟨u, ⟨ob, e, r'⟩, r⟩ := x; exact ⟨_, e⟩
  | ns m => obtain ⟨mr, ⟨ob, es, ep, e, r'⟩, r⟩ := x; exact ⟨_, e⟩
  | raw ob => exact ⟨_, x⟩
theorem OAt.dx {w : World} {h : Heap} {dx dx' : Addr → Addr} {a : Addr} {o : O} (x : OAt w h dx a o) (e : (∃ C fs, o = .inst C fs) → dx' a = dx a) : OAt w h dx' a o := by
  cases o with
  | inst C fs => obtain ⟨es, n, e1, e2, r⟩ := x; rw [← e ⟨_, _, rfl⟩] at e1 e2; exact ⟨es, n, e1, e2, r⟩
  | _ => exact x
section
variable {w : World} {b h h' : Heap} {H : AH} {dx : Addr → Addr}
theorem Rd.lt (R : Rd w b H h dx) {a : Addr} {o : O} (e : H a = some o) : a < h.objs.size := by
  obtain ⟨ob, q⟩ := (R.cell a o e).some
  exact Heap.lt_size q
theorem Rd.dlt (R : Rd w b H h dx) {a C : Addr} {fs : List (Str × Value)} (e : H a = some (.inst C fs)) : dx a < h.objs.size := by
  obtain ⟨_, _, _, q, _⟩ := R.cell a _ e
  exact Heap.lt_size q
theorem Rd.fresh (R : Rd w b H h dx) : H h.objs.size = none := by
  cases q : H h.objs.size with
  | none => rfl
  | some o => exact absurd (R.lt q) (Nat.lt_irrefl _)
theorem Rd.bfresh (R : Rd w b H h dx) : b.get? h.objs.size = none := by
  cases q : b.get? h.objs.size with
  | none => rfl
  | some o => exact absurd (Heap.lt_size (R.keep _ _ q)) (Nat.lt_irrefl _)
theorem Rd.sub {H' : AH} (R : Rd w b H h dx) (s : ∀ a o, H' a = some o → H a = some o) : Rd w b H' h dx where
  keep := R.keep
  off a o e := R.off a o (s a o e)
  cell a o e := R.cell a o (s a o e)
  boff a C fs e := R.boff a C fs (s _ _ e)
  doff a C fs e := by
    cases q : H' (dx a) with
    | none => rfl
    | some o => have := s _ _ q; rw [R.doff a C fs (s _ _ e)] at this; cases this
  inj a a' C fs C' fs' e e' := R.inj a a' C fs C' fs' (s _ _ e) (s _ _ e')
theorem Rd.chg (R : Rd w b H h dx) (k : ∀ c o, b.get? c = some o → h'.get? c = some o) (kc : ∀ a o, H a = some o → OAt w h' dx a o) : Rd w b H h' dx :=
  ⟨k, R.off, kc, R.boff, R.doff, R.inj⟩
theorem Rd.grow (R : Rd w b H h dx) (k : ∀ c o, h.get? c = some o → h'.get? c = some o) : Rd w b H h' dx :=
  R.chg (fun c o e => k _ _ (R.keep c o e)) fun a o e => (R.cell a o e).mono (fun _ q => k _ _ q) fun _ _ q => k _ _ q
theorem Rd.put (R : Rd w b H h dx) {a : Addr} {o : O} (hni : ∀ C fs, o ≠ .inst C fs) (ha : ∀ a' C fs, H a' = some (.inst C fs) → dx a' ≠ a) (hb : b.get? a = none) (ho : OAt w h dx a o) : Rd w b (upd H a o) h dx := by
  have key : ∀ x C fs, upd H a o x = some (.inst C fs) → x ≠ a ∧ H x = some (.inst C fs) := by
    intro x C fs e
    by_cases q : x = a
    · subst q; rw [upd_self] at e; exact absurd (Option.some.inj e) (hni C fs)
    · rw [upd_ne _ _ q] at e; exact ⟨q, e⟩
  refine ⟨R.keep, fun x ob e => ?_, fun x ob e => ?_, fun x C fs e => R.boff x C fs (key _ _ _ e).2, fun x C fs e => ?_, fun x x' C fs C' fs' e e' => R.inj x x' C fs C' fs' (key _ _ _ e).2 (key _ _ _ e').2⟩
  · by_cases q : x = a
    · rw [q]; exact hb
    · rw [upd_ne _ _ q] at e; exact R.off x ob e
  · by_cases q : x = a
    · subst q; rw [upd_self] at e; cases e; exact ho
    · rw [upd_ne _ _ q] at e; exact R.cell x ob e
  · rw [upd_ne _ _ (ha x C fs (key _ _ _ e).2)]; exact R.doff x C fs (key _ _ _ e).2
theorem Rd.push (R : Rd w b H h dx) {ob : Obj} {o : O} (hni : ∀ C fs, o ≠ .inst C fs) (ho : OAt w (h.push ob) dx h.objs.size o) : Rd w b (upd H h.objs.size o) (h.push ob) dx :=
  (R.grow fun _ _ e => Heap.get?_push_of_some _ e).put hni (fun _ _ _ e z => absurd (z ▸ R.dlt e) (Nat.lt_irrefl _)) R.bfresh ho
theorem Rd.turn (R : Rd w b H h dx) {c : Addr} {o o' : O} (hc : H c = some o) (hni' : ∀ C fs, o' ≠ .inst C fs) (hs : ∀ a ob, a ≠ c → h.get? a = some ob → h'.get? a = some ob) (ho : OAt w h' dx c o') : Rd w b (upd H c o') h' dx := by
  have hH : ∀ x ob, (fun x => if x = c then none else H x : AH) x = some ob → x ≠ c ∧ H x = some ob := by
    intro x ob e
    by_cases q : x = c
    · simp [q] at e
    · simp [q] at e; exact ⟨q, e⟩
  have R1 : Rd w b (fun x => if x = c then none else H x) h dx := R.sub fun x ob e => (hH x ob e).2
  have R2 : Rd w b (fun x => if x = c then none else H x) h' dx := by
    refine R1.chg (fun x ob e => hs x ob ?_ (R.keep x ob e)) fun x ob e => ?_
    · rintro rfl; rw [R.off _ _ hc] at e; cases e
    · obtain ⟨q, e⟩ := hH x ob e
      refine (R.cell x ob e).mono (fun _ z => hs x _ q z) ?_
      rintro ⟨C, fs, rfl⟩ _ z
      refine hs (dx x) _ ?_ z
      rintro y
      have := R.doff x C fs e
      rw [y, hc] at this; cases this
  have R3 := R2.put (a := c) (o := o') hni' (fun x C fs e => by
    obtain ⟨q, e⟩ := hH x _ e
    intro y
    have := R.doff x C fs e
    rw [y, hc] at this; cases this) (R.off _ _ hc) ho
  have : upd (fun x => if x = c then none else H x) c o' = upd H c o' := by
    funext x; unfold upd; by_cases q : x = c <;> simp [q]
  rwa [this] at R3
theorem Rd.pushI (R : Rd w b H h dx) (C : Addr) : Rd w b (upd H (h.objs.size + 1) (.inst C [])) ((h.push emptyDict).push (instObj C h.objs.size)) (fun a => if a = h.objs.size + 1 then h.objs.size else dx a) := by
  have hk : ∀ c o, h.get? c = some o → ((h.push emptyDict).push (instObj C h.objs.size)).get? c = some o := fun c o e => Heap.get?_push_of_some _ (Heap.get?_push_of_some _ e)
  have hH1 : H (h.objs.size + 1) = none := by
    cases q : H (h.objs.size + 1) with
    | none => rfl
    | some o => exact absurd (R.lt q) (Nat.not_lt.mpr (Nat.le_succ _))
  have hne : ∀ a o, H a = some o → a ≠ h.objs.size + 1 := fun a o e z => by rw [z, hH1] at e; cases e
  have key : ∀ x ob, upd H (h.objs.size + 1) (.inst C []) x = some ob → (x = h.objs.size + 1 ∧ ob = .inst C []) ∨ (x ≠ h.objs.size + 1 ∧ H x = some ob) := by
    intro x ob e
    by_cases q : x = h.objs.size + 1
    · subst q; rw [upd_self] at e; exact .inl ⟨rfl, (Option.some.inj e).symm⟩
    · rw [upd_ne _ _ q] at e; exact .inr ⟨q, e⟩
  have b0 : ∀ n, h.objs.size ≤ n → b.get? n = none := fun n hn => by
    cases q : b.get? n with
    | none => rfl
    | some o => exact absurd (Heap.lt_size (R.keep _ _ q)) (Nat.not_lt.mpr hn)
  refine ⟨fun c o e => hk _ _ (R.keep c o e), fun a o e => ?_, fun a o e => ?_, fun a D gs e => ?_, fun a D gs e => ?_, fun a a' D gs D' gs' e e' => ?_⟩
  · rcases key a o e with ⟨rfl, _⟩ | ⟨_, e⟩
    · exact b0 _ (Nat.le_succ _)
    · exact R.off a o e
  · rcases key a o e with ⟨rfl, rfl⟩ | ⟨q, e⟩
    · refine ⟨[], 0, ?_, ?_, trivial⟩
      · simp only [if_true]
        have := Heap.get?_push_size (o := instObj C h.objs.size) (h.push emptyDict) rfl
        rw [Heap.size_push] at this; exact this
      · simp only [if_true]
        exact Heap.get?_push_of_some _ (Heap.get?_push_size _ rfl)
    · exact ((R.cell a o e).mono (fun _ z => hk _ _ z) fun _ _ z => hk _ _ z).dx fun _ => if_neg q
  · rcases key a _ e with ⟨rfl, _⟩ | ⟨q, e⟩
    · simp only [if_true]; exact b0 _ (Nat.le_refl _)
    · simp only [if_neg q]; exact R.boff a D gs e
  · rcases key a _ e with ⟨rfl, _⟩ | ⟨q, e⟩
    · simp only [if_true]
      rw [upd_ne _ _ (Nat.ne_of_lt (Nat.lt_succ_self _))]
      exact R.fresh
    · simp only [if_neg q]
      rw [upd_ne]
      · exact R.doff a D gs e
      · exact Nat.ne_of_lt (Nat.lt_succ_of_lt (R.dlt e))
  · rcases key a _ e with ⟨rfl, _⟩ | ⟨q, e⟩ <;> rcases key a' _ e' with ⟨rfl, _⟩ | ⟨q', e'⟩
    · intro _; rfl
    · simp only [if_true, if_neg q']; intro z; exact absurd (z ▸ R.dlt e') (Nat.lt_irrefl _)
    · simp only [if_true, if_neg q]; intro z; exact absurd (z ▸ R.dlt e) (Nat.lt_irrefl _)
    · simp only [if_neg q, if_neg q']; exact R.inj a a' D gs D' gs' e e'
end
section
open Classical
noncomputable def frz (h : Heap) (S : Addr → Prop) : Heap := hideAll h ((List.range h.objs.size).filter fun a => decide (S a))
theorem frz_own {h : Heap} {S : Addr → Prop} {a : Addr} (x : S a) : (frz h S).get? a = none := by
  cases q : (frz h S).get? a with
  | none => rfl
  | some o =>
    have := of_hideAll _ q
    have l := Heap.lt_size this
    unfold frz at q
    rw [hideAll_none _ (List.mem_filter.mpr ⟨List.mem_range.mpr l, decide_eq_true x⟩)] at q
    cases q
theorem frz_get {h : Heap} {S : Addr → Prop} {a : Addr} {o : Obj} (x : ¬ S a) (e : h.get? a = some o) : (frz h S).get? a = some o :=
  hideAll_get _ e fun q => x (of_decide_eq_true (List.mem_filter.mp q).2)
theorem of_frz {h : Heap} {S : Addr → Prop} {a : Addr} {o : Obj} (e : (frz h S).get? a = some o) : h.get? a = some o := of_hideAll _ e
end
noncomputable def ownd (H : AH) (dx : Addr → Addr) (a : Addr) : Prop := (∃ o, H a = some o) ∨ ∃ c C fs, H c = some (.inst C fs) ∧ dx c = a
section
variable {w : World} {b b' h h' : Heap} {H : AH} {dx : Addr → Addr}
theorem Rd.frz (R : Rd w b H h dx) : Rd w (frz h (ownd H dx)) H h dx :=
  ⟨fun _ _ e => of_frz e, fun _ o e => frz_own (.inl ⟨o, e⟩), R.cell, fun _ _ _ e => frz_own (.inr ⟨_, _, _, e, rfl⟩), R.doff, R.inj⟩
theorem Rd.sub_frz (R : Rd w b H h dx) (c : Addr) (o : Obj) (e : b.get? c = some o) : (Ly.frz h (ownd H dx)).get? c = some o := by
  refine frz_get ?_ (R.keep c o e)
  rintro (⟨o', q⟩ | ⟨c', C, fs, q, rfl⟩)
  · rw [R.off _ _ q] at e; cases e
  · rw [R.boff _ _ _ q] at e; cases e
theorem Rd.weak (R : Rd w b' H h dx) (k : ∀ c o, b.get? c = some o → b'.get? c = some o) : Rd w b H h dx := by
  have no : ∀ a, b'.get? a = none → b.get? a = none := fun a e => by
    cases q : b.get? a with
    | none => rfl
    | some o => rw [k _ _ q] at e; cases e
  exact ⟨fun c o e => R.keep _ _ (k c o e), fun a o e => no _ (R.off a o e), R.cell, fun a C fs e => no _ (R.boff a C fs e), R.doff, R.inj⟩
end
structure Base (w : World) (b : Heap) : Prop where
  k : (KK PW w.params).In b
  g : ∃ mg, b.Ns mainGlobals mg
  bi : ∃ mb, b.Ns builtinsNs mb ∧ ∀ x : Str, x ≠ "__name__" → mb x = bootBuiltins x
  lim : b.NoLimit
theorem Base.keeps {w : World} {b b' : Heap} (B : Base w b) (k : ∀ c o, b.get? c = some o → b'.get? c = some o) : Base w b' where
  k := B.k.keeps k
  g := let ⟨mg, h⟩ := B.g; ⟨mg, h.keeps k⟩
  bi := let ⟨mb, h, e⟩ := B.bi; ⟨mb, h.keeps k, e⟩
  lim := B.lim.keeps k
structure Room (A : Around) (k : Nat) : Prop where
  handled : A.handled = none
  depth : A.depth + 4 * k < recursionLimit
  units : A.units + 40 * k < cLine
abbrev Lc := List (Str × Value)
noncomputable def Fl (w : World) (b : Heap) (env : Env) (H : AH) (m : Lc) (h : Heap) : Prop := H env.locals = none ∧ Rl w b (upd H env.locals (.ns m)) h
noncomputable def Ends {α : Type} (w : World) (b : Heap) (env : Env) (s : Shared) (Q : α → AH → Lc → Prop) (v : α) (s' : Shared) : Prop :=
  ∃ H' m' h' t', s' = { s with heap := h', toks := t' } ∧ Fl w b env H' m' h' ∧ Q v H' m'
noncomputable def AW {α : Type} (w : World) (k : Nat) (env : Env) (t : Sem α) (Q : α → AH → Lc → Prop) (H : AH) (m : Lc) : Prop :=
  ∀ (A : Around) (s : Shared) (b : Heap) (E : Value → Shared → Prop), Room A k → Base w b → Fl w b env H m s.heap → wpAny (model PW w) A t (Ends w b env s Q) E s
noncomputable def EV (w : World) (k : Nat) (env : Env) (e : Expr) (Q : Value → AH → Lc → Prop) : AH → Lc → Prop := AW w k env (eval e env) fun v => Q (nv v)
noncomputable def EX (w : World) (k : Nat) (env : Env) (l : List Stmt) (Q : Flow → AH → Lc → Prop) : AH → Lc → Prop := AW w k env (execs l env) Q
noncomputable def E1 (w : World) (k : Nat) (env : Env) (st : Stmt) (Q : Flow → AH → Lc → Prop) : AH → Lc → Prop := AW w k env (exec st env) Q
noncomputable def Done (w : World) (b : Heap) (s : Shared) (Q : Value → AH → Prop) (v : Value) (s' : Shared) : Prop :=
  ∃ H' h' t', s' = { s with heap := h', toks := t' } ∧ Rl w b H' h' ∧ Q (nv v) H'
noncomputable def Tri (w : World) (k : Nat) (f : Value) (args : List Value) (Q : Value → AH → Prop) (H : AH) : Prop :=
  ∀ (A : Around) (s : Shared) (b : Heap) (E : Value → Shared → Prop) (vs : List Value), Room A k → Base w b → Rl w b H s.heap → vs.map nv = args → wpAny (model PW w) A (call f vs) (Done w b s Q) E s
section
variable {w : World} {k : Nat} {env : Env} {b : Heap} {H : AH} {m : Lc} {h : Heap} {A : Around} {s : Shared} {E : Value → Shared → Prop}
theorem Ends.mk {α : Type} {Q : α → AH → Lc → Prop} {v : α} {h' : Heap} {t' : Nat} (f : Fl w b env H m h') (q : Q v H m) : Ends w b env s Q v { s with heap := h', toks := t' } := ⟨H, m, h', t', rfl, f, q⟩
theorem Ends.over {α β : Type} {Q : α → AH → Lc → Prop} {Q' : β → AH → Lc → Prop} {s' s'' : Shared} {u : β} {h' : Heap} {t' : Nat} (e : s' = { s with heap := h', toks := t' }) (x : Ends w b env s' Q' u s'') : Ends w b env s Q' u s'' := by
  obtain ⟨H', m', h2, t2, rfl, r⟩ := x
  subst e
  exact ⟨H', m', h2, t2, rfl, r⟩
theorem AW.seq {α β : Type} {t : Sem α} {f : α → Sem β} {Q : α → AH → Lc → Prop} {Q' : β → AH → Lc → Prop} (hr : Room A k) (hb : Base w b) (hf : Fl w b env H m s.heap) (h1 : AW w k env t Q H m)
    (h2 : ∀ v H' m', Q v H' m' → AW w k env (f v) Q' H' m') : wpAny (model PW w) A t (fun v s' => wpAny (model PW w) A (f v) (Ends w b env s Q') E s') E s := by
  refine wpAny_mono (h1 A s b E hr hb hf) (fun v s' x => ?_) fun _ _ x => x
  obtain ⟨H', m', h', t', rfl, hf', q⟩ := x
  exact wpAny_mono (h2 v H' m' q A _ b E hr hb hf') (fun u s'' y => y.over (Q := Q) rfl) fun _ _ x => x
theorem AW.mono {α : Type} {t : Sem α} {Q Q' : α → AH → Lc → Prop} (h1 : AW w k env t Q H m) (h2 : ∀ v H' m', Q v H' m' → Q' v H' m') : AW w k env t Q' H m := fun A s b E hr hb hf =>
  wpAny_mono (h1 A s b E hr hb hf) (fun _ _ x => let ⟨H', m', h', t', e, f, q⟩ := x; ⟨H', m', h', t', e, f, h2 _ _ _ q⟩) fun _ _ x => x
theorem Rl.sub {H' : AH} (R : Rl w b H h) (x : ∀ a o, H' a = some o → H a = some o) : Rl w b H' h := let ⟨dx, R⟩ := R; ⟨dx, R.sub x⟩
theorem Fl.call (F : Fl w b env H m h) (B : Base w b) : ∃ b', Base w b' ∧ Rl w b' H h ∧ ∀ H' h', Rl w b' H' h' → Fl w b env H' m h' := by
  obtain ⟨h0, dx, R⟩ := F
  have hs : ∀ a o, H a = some o → upd H env.locals (.ns m) a = some o := fun a o e => by
    rw [upd_ne]; exact e
    rintro rfl; rw [h0] at e; cases e
  have R1 : Rd w b H h dx := R.sub hs
  have oL := R.cell env.locals _ (upd_self ..)
  obtain ⟨mr, ⟨ob, es, ep, e, r⟩, r'⟩ := oL
  have nL : ¬ ownd H dx env.locals := by
    rintro (⟨o, q⟩ | ⟨c, C, fs, q, z⟩)
    · rw [h0] at q; cases q
    · have := R.doff c C fs (hs _ _ q)
      rw [z, upd_self] at this; cases this
  have eL : (frz h (ownd H dx)).get? env.locals = some ob := frz_get nL e
  refine ⟨_, B.keeps R1.sub_frz, ⟨dx, R1.frz⟩, fun H' h' x => ?_⟩
  obtain ⟨dx', R'⟩ := x
  have hL : H' env.locals = none := by
    cases q : H' env.locals with
    | none => rfl
    | some o => have := R'.off _ _ q; rw [eL] at this; cases this
  refine ⟨hL, dx', (R'.weak R1.sub_frz).put (fun C fs z => by cases z) (fun a C fs q z => ?_) (R.off _ _ (upd_self ..)) ⟨mr, ⟨ob, es, ep, R'.keep _ _ eL, r⟩, r'⟩⟩
  have := R'.boff a C fs q
  rw [z, eL] at this; cases this
end
theorem nv_int {v : Value} {i : Int} (h : nv v = .int i 0) : ∃ t, v = .int i t := by cases v <;> simp [nv] at h; subst h; exact ⟨_, rfl⟩
theorem nv_str {v : Value} {x : Str} (h : nv v = .str x 0) : ∃ t, v = .str x t := by cases v <;> simp [nv] at h; subst h; exact ⟨_, rfl⟩
theorem nv_ref {v : Value} {a : Addr} (h : nv v = .ref a) : v = .ref a := by cases v <;> simp [nv] at h; subst h; rfl
theorem nv_none {v : Value} (h : nv v = .none) : v = .none := by cases v <;> simp [nv] at h; rfl
theorem nv_bool {v : Value} {b : Bool} (h : nv v = .bool b) : v = .bool b := by cases v <;> simp [nv] at h; subst h; rfl
theorem nv_bi {v : Value} {i : String} (h : nv v = .builtin i) : v = .builtin i := by cases v <;> simp [nv] at h; subst h; rfl
theorem nv_ty {v : Value} {i : String} (h : nv v = .type i) : v = .type i := by cases v <;> simp [nv] at h; subst h; rfl
theorem nv_handed (v : Value) : handedIn (nv v) = handedIn v := by cases v <;> rfl
section
variable {w : World} {k : Nat} {env : Env} {b : Heap} {H : AH} {m : Lc} {h : Heap} {A : Around} {s : Shared} {E : Value → Shared → Prop} {Q : Value → AH → Lc → Prop}
theorem Fl.ns (F : Fl w b env H m h) : ∃ mr, h.Ns env.locals mr ∧ ∀ x, (mr x).map nv = lk m x := by
  obtain ⟨_, dx, R⟩ := F
  exact R.cell _ _ (upd_self ..)
theorem Fl.at_ (F : Fl w b env H m h) {a : Addr} {o : O} (e : H a = some o) : ∃ dx, Rd w b (upd H env.locals (.ns m)) h dx ∧ OAt w h dx a o := by
  obtain ⟨h0, dx, R⟩ := F
  refine ⟨dx, R, R.cell a o ?_⟩
  rw [upd_ne]; exact e
  rintro rfl; rw [h0] at e; cases e
theorem Fl.keep (F : Fl w b env H m h) (c : Addr) (o : Obj) (e : b.get? c = some o) : h.get? c = some o := by
  obtain ⟨_, dx, R⟩ := F
  exact R.keep c o e
theorem ev_loc {x : Str} {pos : Pos} {v : Value} (hv : lk m x = some v) (q : Q v H m) (hk : env.scope.kind = .function) (hl : env.kindOf x = some .local) (hd : (x == ("__debug__" : Str)) = false) : EV w k env (.Name x pos) Q H m := by
  intro A s b E hr hb hf
  obtain ⟨mr, hn, e⟩ := hf.ns
  have e' := e x
  rw [hv] at e'
  obtain ⟨u, hu, rfl⟩ := Option.map_eq_some_iff.mp e'
  exact wpAny_Name (wpAny_loadName_local hk hl hn hu ⟨H, m, s.heap, s.toks, rfl, hf, q⟩) hd
theorem ev_cell {x : Str} {pos : Pos} {c : Addr} {v : Value} (hc : env.cells.lookup x = some c) (hv : H c = some (.cell (some v))) (q : Q v H m) (hk : env.scope.kind = .function) (hl : env.kindOf x = some .cell) (hd : (x == ("__debug__" : Str)) = false) : EV w k env (.Name x pos) Q H m := by
  intro A s b E hr hb hf
  obtain ⟨dx, R, u, hu, e⟩ := hf.at_ hv
  obtain ⟨u, rfl, rfl⟩ := Option.map_eq_some_iff.mp e
  exact wpAny_Name (wpAny_loadName_cell hk hl hc hu ⟨H, m, s.heap, s.toks, rfl, hf, q⟩) hd
theorem ev_free {x : Str} {pos : Pos} {c : Addr} {v : Value} (hc : env.cells.lookup x = some c) (hv : H c = some (.cell (some v))) (q : Q v H m) (hk : env.scope.kind = .function) (hl : env.kindOf x = some .free) (hd : (x == ("__debug__" : Str)) = false) (hn : (x == ("__classdict__" : Str)) = false) : EV w k env (.Name x pos) Q H m := by
  intro A s b E hr hb hf
  obtain ⟨dx, R, u, hu, e⟩ := hf.at_ hv
  obtain ⟨u, rfl, rfl⟩ := Option.map_eq_some_iff.mp e
  exact wpAny_Name (wpAny_loadName_free hk hl hc hu ⟨H, m, s.heap, s.toks, rfl, hf, q⟩ hn) hd
theorem ev_glob {x : Str} {pos : Pos} {v : Value} (e : nsIn (KK PW w.params) mainGlobals x = some (some v)) (q : Q (nv v) H m) (hk : env.scope.kind = .function) (hl : env.kindOf x = some .globalImplicit) (hg : env.globals = mainGlobals) (hd : (x == ("__debug__" : Str)) = false) : EV w k env (.Name x pos) Q H m := by
  intro A s b E hr hb hf
  obtain ⟨mg, hm⟩ := hb.g
  exact Name_function_global hk hl (loadGlobal_global (by rw [hg]; exact hm.keeps hf.keep) (mg_of hb.k hm e) ⟨H, m, s.heap, s.toks, rfl, hf, q⟩) hd
theorem ev_bi {x : Str} {pos : Pos} {v : Value} (e : nsIn (KK PW w.params) mainGlobals x = some none) (hv : bootBuiltins x = some v) (q : Q (nv v) H m) (hk : env.scope.kind = .function) (hl : env.kindOf x = some .globalImplicit) (hg : env.globals = mainGlobals) (hgb : env.builtins = builtinsNs) (hn : x ≠ "__name__") (hd : (x == ("__debug__" : Str)) = false) : EV w k env (.Name x pos) Q H m := by
  intro A s b E hr hb hf
  obtain ⟨mg, hm⟩ := hb.g
  obtain ⟨mb, hmb, eb⟩ := hb.bi
  exact Name_function_global hk hl (loadGlobal_builtin (by rw [hg]; exact hm.keeps hf.keep) (mg_none_of hb.k hm e) (by rw [hgb]; exact hmb.keeps hf.keep) ((eb x hn).trans hv) ⟨H, m, s.heap, s.toks, rfl, hf, q⟩) hd
theorem ev_int {i : Int} {n : Nat} {pos : Pos} (q : Q (.int i 0) H m) : EV w k env (.Constant (.int i) n pos) Q H m := fun A s b E hr hb hf => wpAny_Constant_int ⟨H, m, s.heap, _, rfl, hf, q⟩
theorem ev_str {x : Str} {n : Nat} {pos : Pos} (q : Q (.str x 0) H m) : EV w k env (.Constant (.str x) n pos) Q H m := fun A s b E hr hb hf => wpAny_Constant_str ⟨H, m, s.heap, _, rfl, hf, q⟩
theorem ev_none {n : Nat} {pos : Pos} (q : Q .none H m) : EV w k env (.Constant .none n pos) Q H m := fun A s b E hr hb hf => wpAny_Constant_none ⟨H, m, s.heap, s.toks, rfl, hf, q⟩
theorem ev_bool {x : Bool} {n : Nat} {pos : Pos} (q : Q (.bool x) H m) : EV w k env (.Constant (.bool x) n pos) Q H m := fun A s b E hr hb hf => wpAny_Constant_bool ⟨H, m, s.heap, s.toks, rfl, hf, q⟩
end
theorem FsOf.length {w : World} : ∀ {es : List DictEntry} {fs : List (Str × Value)}, FsOf w es fs → es.length = fs.length
  | [], [], _ => rfl
  | [], _ :: _, h => h.elim
  | _ :: _, [], h => h.elim
  | _ :: _, _ :: _, ⟨_, _, _, h⟩ => congrArg (· + 1) h.length
theorem FsOf.get {w : World} {x : Str} {v : Value} : ∀ {es : List DictEntry} {fs : List (Str × Value)}, FsOf w es fs → lk fs x = some v → ∃ u, getL x es = some (some u) ∧ nv u = v
  | [], [], _, e => by cases e
  | [], _ :: _, h, _ => h.elim
  | _ :: _, [], h, _ => h.elim
  | e :: es, p :: fs, ⟨⟨t, h1⟩, _, h3, h⟩, q => by
    have hk : e.key.isStr x = (p.1 == x) := by rw [h1]; rfl
    unfold getL
    rw [List.find?_cons, hk]
    unfold lk at q
    rw [List.find?_cons] at q
    cases hb : (p.1 == x) with
    | true => rw [hb] at q; cases q; exact ⟨_, rfl, h3⟩
    | false =>
      rw [hb] at q
      obtain ⟨u, g, n⟩ := h.get q
      refine ⟨u, ?_, n⟩
      unfold getL at g
      dsimp only
      split at g
      · rename_i e' he'; rw [he']; exact g
      · exfalso; split at g <;> cases g
theorem FsOf.noRef {w : World} : ∀ {es : List DictEntry} {fs : List (Str × Value)}, FsOf w es fs → es.any (·.refKey) = false
  | [], [], _ => rfl
  | [], _ :: _, h => h.elim
  | _ :: _, [], h => h.elim
  | e :: es, p :: fs, ⟨⟨t, h1⟩, _, _, h⟩ => by
    rw [List.any_cons, h.noRef, Bool.or_false]
    unfold DictEntry.refKey
    rw [h1]
theorem FsOf.miss {w : World} {x : Str} : ∀ {es : List DictEntry} {fs : List (Str × Value)}, FsOf w es fs → lk fs x = none → getL x es = some none
  | es, fs, h, q => by
    have nf : ∀ {es : List DictEntry} {fs : List (Str × Value)}, FsOf w es fs → lk fs x = none → es.find? (·.key.isStr x) = none := by
      intro es
      induction es with
      | nil => intro fs _ _; rfl
      | cons e es ih =>
        intro fs h q
        cases fs with
        | nil => exact h.elim
        | cons p fs =>
          obtain ⟨⟨t, h1⟩, _, _, h⟩ := h
          have hk : e.key.isStr x = (p.1 == x) := by rw [h1]; rfl
          unfold lk at q
          rw [List.find?_cons] at q ⊢
          rw [hk]
          cases hb : (p.1 == x) with
          | true => rw [hb] at q; cases q
          | false => rw [hb] at q; exact ih h q
    unfold getL
    rw [nf h q, h.noRef]
    rfl
theorem FsOf.put {w : World} {x : Str} {u : Value} {t : Nat} : ∀ {es : List DictEntry} {fs : List (Str × Value)}, FsOf w es fs → FsOf w (putL x (PyData.keyHash w.params x) (.str x t) u es) (putF x (nv u) fs)
  | [], [], _ => ⟨⟨t, rfl⟩, rfl, rfl, trivial⟩
  | [], _ :: _, h => h.elim
  | _ :: _, [], h => h.elim
  | e :: es, p :: fs, ⟨⟨t', h1⟩, h2, h3, h⟩ => by
    have hk : e.key.isStr x = (p.1 == x) := by rw [h1]; rfl
    unfold putL putF
    rw [hk]
    cases hb : (p.1 == x) with
    | true => exact ⟨⟨t', h1⟩, h2, rfl, h⟩
    | false => exact ⟨⟨t', h1⟩, h2, h3, h.put⟩
theorem putF_len (x : Str) (v : Value) : ∀ fs : List (Str × Value), (putF x v fs).length ≤ fs.length + 1
  | [] => Nat.le_refl _
  | p :: fs => by
    unfold putF
    split
    · simp
    · simp only [List.length_cons]; exact Nat.succ_le_succ (putF_len x v fs)
noncomputable def FieldOk (C : Addr) (x : Str) : Prop := ∀ P : Params, (plainGet (KK PW P) C x && hasDictIn (KK PW P) C && (match findIn (KK PW P) (.ref C) x with | some a => noGet (KK PW P) a | none => false)) = true
noncomputable def StoreOk (C : Addr) (x : Str) : Prop := ∀ P : Params, (findIn (KK PW P) (.ref C) "__setattr__" == some (some (.builtin "object.__setattr__")) && plainOver (KK PW P) C && (takerIn (KK PW P) C x == some none) && hasDictIn (KK PW P) C) = true
theorem split_all (h : Heap) (L d : Addr) (od : Obj) (e : h.get? d = some od) (hL : d ≠ L) : ∃ pre post : List (Addr × Obj), (∀ p ∈ pre, p.1 ≠ d) ∧ (∀ p ∈ post, p.1 ≠ d) ∧ (∀ p ∈ pre ++ (d, od) :: post, h.get? p.1 = some p.2 ∧ p.1 ≠ L) ∧
    ∀ a o, a ≠ L → a ≠ d → h.get? a = some o → (a, o) ∈ pre ++ (d, od) :: post := by
  let f (a : Addr) : Option (Addr × Obj) := if a = L then none else (h.get? a).map fun o => (a, o)
  have hf : ∀ a p, f a = some p → p.1 = a ∧ h.get? p.1 = some p.2 ∧ p.1 ≠ L := by
    intro a p q
    by_cases z : a = L
    · simp [f, z] at q
    · simp only [f, z, if_false] at q
      obtain ⟨o, ho, rfl⟩ := Option.map_eq_some_iff.mp q
      exact ⟨rfl, ho, z⟩
  refine ⟨((List.range h.objs.size).filter (fun a => a < d)).filterMap f, ((List.range h.objs.size).filter (fun a => d < a)).filterMap f, fun p hp => ?_, fun p hp => ?_, fun p hp => ?_, fun a o n1 n2 ea => ?_⟩
  · obtain ⟨a, ha, q⟩ := List.mem_filterMap.mp hp
    have := of_decide_eq_true (List.mem_filter.mp ha).2
    rw [(hf a p q).1]; exact Nat.ne_of_lt this
  · obtain ⟨a, ha, q⟩ := List.mem_filterMap.mp hp
    have := of_decide_eq_true (List.mem_filter.mp ha).2
    rw [(hf a p q).1]; exact Nat.ne_of_gt this
  · rcases List.mem_append.mp hp with hp | hp
    · obtain ⟨a, ha, q⟩ := List.mem_filterMap.mp hp
      exact (hf a p q).2
    · rcases List.mem_cons.mp hp with rfl | hp
      · exact ⟨e, hL⟩
      · obtain ⟨a, ha, q⟩ := List.mem_filterMap.mp hp
        exact (hf a p q).2
  · have q : f a = some (a, o) := by simp [f, n1, ea]
    have l := List.mem_range.mpr (Heap.lt_size ea)
    rcases Nat.lt_or_gt_of_ne n2 with z | z
    · exact List.mem_append_left _ (List.mem_filterMap.mpr ⟨a, List.mem_filter.mpr ⟨l, decide_eq_true z⟩, q⟩)
    · exact List.mem_append_right _ (.tail _ (List.mem_filterMap.mpr ⟨a, List.mem_filter.mpr ⟨l, decide_eq_true z⟩, q⟩))
theorem none_get (a : Addr) : (({} : Heap)).get? a = none := by unfold Heap.get?; simp
section
variable {w : World} {k : Nat} {env : Env} {b : Heap} {H : AH} {m : Lc} {h : Heap} {A : Around} {s : Shared} {E : Value → Shared → Prop} {Q : Value → AH → Lc → Prop}
theorem inst_at {dx : Addr → Addr} {x C : Addr} {fs : List (Str × Value)} (o : OAt w h dx x (.inst C fs)) : ∃ es n, h.get? (dx x) = some (dictOf es n) ∧ FsOf w es fs ∧ PySem.W.InstAt h x (instObj C (dx x)) C (some (dictOf es n)) := by
  obtain ⟨es, n, e1, e2, f⟩ := o
  exact ⟨es, n, e2, f, e1, rfl, rfl, e2⟩
theorem getattr_own {x C : Addr} {fs : List (Str × Value)} {name : Str} {v : Value} {expr : Bool} {Q' : Value → AH → Lc → Prop} (hx : H x = some (.inst C fs)) (ok : FieldOk C name) (hv : lk fs name = some v) (hh : handedIn v = true) (q : ∀ u, nv u = v → Q' u H m) : AW w k env (getAttr (.ref x) name expr) Q' H m := by
  intro A s b E hr hb hf
  obtain ⟨dx, R, oa⟩ := hf.at_ hx
  obtain ⟨es, n, e2, f, I⟩ := inst_at oa
  obtain ⟨u, g, rfl⟩ := f.get hv
  have o := ok w.params
  simp only [Bool.and_eq_true] at o
  obtain ⟨⟨o1, o2⟩, o3⟩ := o
  split at o3
  · rename_i a ha
    rw [nv_handed] at hh
    exact get_value (hb.k.keeps hf.keep) I (plainGet_of o1).1 (findObj_own o2 ha o3 g) hh ⟨H, m, s.heap, _, rfl, hf, q u rfl⟩
  · cases o3
theorem ev_attr {o : Expr} {name : Str} {pos : Pos} (h1 : EV w k env o (fun ov H m => ∃ x C fs v, ov = .ref x ∧ H x = some (.inst C fs) ∧ FieldOk C name ∧ lk fs name = some v ∧ handedIn v = true ∧ Q v H m) H m)
    (he : eval (.Attribute o name pos) env = (do
      let ov ← eval o env
      standAt pos.atName
      let r ← holding [ov] (getAttr ov name true)
      letTemporaryGo o ov r
      pure r) := by with_unfolding_all rfl) : EV w k env (.Attribute o name pos) Q H m := by
  intro A s b E hr hb hf
  refine Attribute_any_ (AW.seq hr hb hf h1 ?_) he
  rintro v H' m' ⟨x, C, fs, u, e, hx, ok, hv, hh, q⟩
  rw [nv_ref e]
  exact getattr_own hx ok hv hh fun u e => by rw [e]; exact q
theorem setattr_own {x C : Addr} {fs : List (Str × Value)} {name : Str} {v : Value} {Q' : Unit → AH → Lc → Prop} (hx : H x = some (.inst C fs)) (ok : StoreOk C name) (hz : fs.length < 900) (q : Q' () (upd H x (.inst C (putF name (nv v) fs))) m) : AW w k env (setAttr (.ref x) name v) Q' H m := by
  intro A s b E hr hb hf
  obtain ⟨dx, R, oa⟩ := hf.at_ hx
  obtain ⟨es, n, e2, f, I⟩ := inst_at oa
  have o := ok w.params
  simp only [Bool.and_eq_true, beq_iff_eq] at o
  obtain ⟨⟨⟨o1, o2⟩, o3⟩, o4⟩ := o
  have hxL : x ≠ env.locals := by rintro rfl; rw [hf.1] at hx; cases hx
  have hx' : upd H env.locals (.ns m) x = some (.inst C fs) := by rw [upd_ne _ _ hxL]; exact hx
  have dL : dx x ≠ env.locals := fun z => by
    have := R.doff _ _ _ hx'
    rw [z, upd_self] at this; cases this
  obtain ⟨mr, hn, em⟩ := hf.ns
  obtain ⟨pre, post, p1, p2, N, all⟩ := split_all s.heap env.locals (dx x) _ e2 dL
  have X := hb.k.keeps hf.keep
  have F0 : Fr ({} : Heap) env.locals s.heap mr := ⟨hn, (fun c o e => by rw [none_get] at e; cases e), Nat.zero_le _⟩
  have N0 : News ({} : Heap) env.locals s.heap (pre ++ (dx x, dictOf es n) :: post) := fun p hp => ⟨(N p hp).1, (N p hp).2, none_get _⟩
  have miss : (lookIn name (dictOf es n)).isSome = true := by
    rw [lookIn_dict]
    cases q : lk fs name with
    | none => rw [f.miss q]; rfl
    | some u => obtain ⟨u', g, _⟩ := f.get q; rw [g]; rfl
  refine set_plain X I o1 (osa_dict (s := { s with toks := s.toks + 1 }) F0 N0 X I rfl o2 o3 o4 miss p1 p2 (putName_dict ..) rfl ?_ fun h' F' N' => ?_)
  · have := (f.put (x := name) (u := v) (t := s.toks + 1)).length
    rw [this]
    have := putF_len name (nv v) fs
    omega
  · have keep : ∀ a ob, a ≠ env.locals → a ≠ dx x → s.heap.get? a = some ob → h'.get? a = some ob := fun a ob n1 n2 e => by
      have hm := all a ob n1 n2 e
      refine (N' (a, ob) ?_).1
      rcases List.mem_append.mp hm with z | z
      · exact List.mem_append_left _ z
      · rcases List.mem_cons.mp z with z | z
        · exact absurd (congrArg Prod.fst z) n2
        · exact List.mem_append_right _ (.tail _ z)
    have hd : h'.get? (dx x) = some (dictOf (putL name (PyData.keyHash w.params name) (.str name (s.toks + 1)) v es) (putN name es n)) := (N' (dx x, _) (List.mem_append_right _ (.head _))).1
    -- first forget the frame's names, then give them back
    have hH : ∀ y ob, H y = some ob → upd H env.locals (.ns m) y = some ob := fun y ob e => by
      rw [upd_ne]; exact e
      rintro rfl; rw [hf.1] at e; cases e
    have xdx : x ≠ dx x := fun z => by have := R.doff _ _ _ hx'; rw [← z, hx'] at this; cases this
    have R1 : Rd w b H s.heap dx := R.sub hH
    have bL : b.get? env.locals = none := R.off _ _ (upd_self ..)
    have gx : s.heap.get? x = some (instObj C (dx x)) := I.at_
    -- the turned heap for H
    have R2 : Rd w b (upd H x (.inst C (putF name (nv v) fs))) h' dx := by
      -- a heap that equals the old one at the frame
      refine ⟨fun c ob e => keep c ob (fun z => by rw [z, bL] at e; cases e) (fun z => by rw [z, R.boff _ _ _ hx'] at e; cases e) (R.keep c ob e), fun a ob e => ?_, fun a ob e => ?_, fun a D gs e => ?_, fun a D gs e => ?_, fun a a' D gs D' gs' e e' => ?_⟩
      · by_cases z : a = x
        · subst z; exact R1.off _ _ hx
        · rw [upd_ne _ _ z] at e; exact R1.off _ _ e
      · by_cases z : a = x
        · subst z; rw [upd_self] at e; cases e
          exact ⟨_, _, keep _ _ hxL xdx gx, hd, f.put⟩
        · rw [upd_ne _ _ z] at e
          refine (R1.cell a ob e).mono (fun _ y => keep a _ (fun r => by rw [r, hf.1] at e; cases e) (fun r => by have := R1.doff _ _ _ hx; rw [← r, e] at this; cases this) y) ?_
          rintro ⟨D, gs, rfl⟩ _ y
          refine keep (dx a) _ (fun r => ?_) (fun r => z (R1.inj _ _ _ _ _ _ e hx r)) y
          have := R.doff _ _ _ (hH _ _ e); rw [r, upd_self] at this; cases this
      · by_cases z : a = x
        · subst z; rw [upd_self] at e; cases e; exact R1.boff _ _ _ hx
        · rw [upd_ne _ _ z] at e; exact R1.boff _ _ _ e
      · have nx : ∀ D gs, H a = some (.inst D gs) → upd H x (.inst C (putF name (nv v) fs)) (dx a) = none := fun D gs e => by
          rw [upd_ne]
          · exact R1.doff _ _ _ e
          · intro r; have := R1.doff _ _ _ e; rw [r, hx] at this; cases this
        by_cases z : a = x
        · subst z; exact nx _ _ hx
        · rw [upd_ne _ _ z] at e; exact nx _ _ e
      · have un : ∀ c D gs, upd H x (.inst C (putF name (nv v) fs)) c = some (.inst D gs) → ∃ gs', H c = some (.inst D gs') := fun c D gs e => by
          by_cases z : c = x
          · subst z; rw [upd_self] at e; injection e with e; injection e with e1 e2; subst e1; exact ⟨_, hx⟩
          · rw [upd_ne _ _ z] at e; exact ⟨_, e⟩
        obtain ⟨g1, e⟩ := un _ _ _ e
        obtain ⟨g2, e'⟩ := un _ _ _ e'
        exact R1.inj _ _ _ _ _ _ e e'
    have nL : upd H x (.inst C (putF name (nv v) fs)) env.locals = none := by rw [upd_ne _ _ (Ne.symm hxL)]; exact hf.1
    refine ⟨_, m, h', _, rfl, ⟨nL, dx, R2.put (fun C fs z => by cases z) (fun a D gs e z => ?_) bL ⟨mr, F'.ns, em⟩⟩, q⟩
    have : ∃ gs', H a = some (.inst D gs') := by
      by_cases y : a = x
      · subst y; rw [upd_self] at e; injection e with e; injection e with e1 e2; subst e1; exact ⟨_, hx⟩
      · rw [upd_ne _ _ y] at e; exact ⟨_, e⟩
    obtain ⟨gs', e⟩ := this
    have := R.doff _ _ _ (hH _ _ e)
    rw [z, upd_self] at this; cases this
end
noncomputable def OpR (w : World) (k : Nat) (env : Env) (op : Operator) (a c : Value) (Q : Value → AH → Lc → Prop) (H : AH) (m : Lc) : Prop := ∀ u v, nv u = a → nv v = c → AW w k env (binaryOp op u v) (fun x => Q (nv x)) H m
noncomputable def CmR (w : World) (k : Nat) (env : Env) (op : CmpOp) (a c : Value) (Q : Value → AH → Lc → Prop) (H : AH) (m : Lc) : Prop := ∀ u v, nv u = a → nv v = c → AW w k env (compareOp op u v) (fun x => Q (nv x)) H m
noncomputable def TrR (w : World) (k : Nat) (env : Env) (a : Value) (Q : Bool → AH → Lc → Prop) (H : AH) (m : Lc) : Prop := ∀ u, nv u = a → AW w k env (truthy u) Q H m
noncomputable def TR (w : World) (k : Nat) (env : Env) (e : Expr) (Q : Bool → AH → Lc → Prop) : AH → Lc → Prop := AW w k env (isTrue e env (eval e env)) Q
section
variable {w : World} {k : Nat} {env : Env} {b : Heap} {H : AH} {m : Lc} {h : Heap} {A : Around} {s : Shared} {E : Value → Shared → Prop} {Q : Value → AH → Lc → Prop} {QB : Bool → AH → Lc → Prop}
theorem ev_bin {l r : Expr} {op : Operator} {pos : Pos} (h1 : EV w k env l (fun a H m => EV w k env r (fun c H m => OpR w k env op a c Q H m) H m) H m) : EV w k env (.BinOp l op r pos) Q H m := by
  intro A s b E hr hb hf
  refine wpAny_BinOp ?_
  refine wpAny_mono (h1 A s b E hr hb hf) (fun u s1 x => ?_) fun _ _ x => x
  obtain ⟨H1, m1, h1', t1, rfl, hf1, q⟩ := x
  refine wpAny_mono (q A _ b E hr hb hf1) (fun v s2 x => ?_) fun _ _ x => x
  obtain ⟨H2, m2, h2', t2, rfl, hf2, q⟩ := x
  refine wpAny_mono (q u v rfl rfl A _ b E hr hb hf2) (fun z s3 x => ?_) fun _ _ x => x
  obtain ⟨H3, m3, h3', t3, rfl, hf3, q⟩ := x
  exact ⟨H3, m3, h3', t3, rfl, hf3, q⟩
theorem ev_cmp {l r : Expr} {op : CmpOp} {pos : Pos} (h1 : EV w k env l (fun a H m => EV w k env r (fun c H m => CmR w k env op a c Q H m) H m) H m) (hm : behindInMarks op r = false) : EV w k env (.Compare l [op] [r] pos) Q H m := by
  intro A s b E hr hb hf
  refine wpAny_Compare1 ?_ hm
  refine wpAny_mono (h1 A s b E hr hb hf) (fun u s1 x => ?_) fun _ _ x => x
  obtain ⟨H1, m1, h1', t1, rfl, hf1, q⟩ := x
  refine wpAny_mono (q A _ b E hr hb hf1) (fun v s2 x => ?_) fun _ _ x => x
  obtain ⟨H2, m2, h2', t2, rfl, hf2, q⟩ := x
  refine wpAny_mono (q u v rfl rfl A _ b E hr hb hf2) (fun z s3 x => ?_) fun _ _ x => x
  obtain ⟨H3, m3, h3', t3, rfl, hf3, q⟩ := x
  exact ⟨H3, m3, h3', t3, rfl, hf3, q⟩
theorem tr_cmp {l r : Expr} {op : CmpOp} {pos : Pos} (h1 : EV w k env l (fun a H m => EV w k env r (fun c H m => CmR w k env op a c (fun x H m => ∃ t, x = .bool t ∧ QB t H m) H m) H m) H m) (hm : behindInMarks op r = false) : TR w k env (.Compare l [op] [r] pos) QB H m := by
  intro A s b E hr hb hf
  refine wpAny_isTrue_Compare1 ?_ hm
  refine wpAny_mono (h1 A s b E hr hb hf) (fun u s1 x => ?_) fun _ _ x => x
  obtain ⟨H1, m1, h1', t1, rfl, hf1, q⟩ := x
  refine wpAny_mono (q A _ b E hr hb hf1) (fun v s2 x => ?_) fun _ _ x => x
  obtain ⟨H2, m2, h2', t2, rfl, hf2, q⟩ := x
  refine wpAny_mono (q u v rfl rfl A _ b E hr hb hf2) (fun z s3 x => ?_) fun _ _ x => x
  obtain ⟨H3, m3, h3', t3, rfl, hf3, t, e, q⟩ := x
  rw [nv_bool e]
  exact wpAny_truthy_bool ⟨H3, m3, h3', t3, rfl, hf3, q⟩
theorem tr_not {e : Expr} {pos : Pos} (h1 : TR w k env e (fun t H m => QB (!t) H m) H m) : TR w k env (.UnaryOp .Not e pos) QB H m := fun A s b E hr hb hf => wpAny_isTrue_Not (h1 A s b E hr hb hf)
theorem tr_val {e : Expr} (h1 : EV w k env e (fun v H m => TrR w k env v QB H m) H m) (he : isTrue e env (eval e env) = (do let v ← eval e env; standAt e.pos; holding [v] (truthy v))) : TR w k env e QB H m := by
  intro A s b E hr hb hf
  refine isTrue_plain ?_ he
  refine wpAny_mono (h1 A s b E hr hb hf) (fun u s1 x => ?_) fun _ _ x => x
  obtain ⟨H1, m1, h1', t1, rfl, hf1, q⟩ := x
  refine wpAny_mono (q u rfl A _ b E hr hb hf1) (fun v s2 x => ?_) fun _ _ x => x
  obtain ⟨H2, m2, h2', t2, rfl, hf2, q⟩ := x
  exact ⟨H2, m2, h2', t2, rfl, hf2, q⟩
noncomputable def AT (w : World) (k : Nat) (env : Env) (op : BoolOp) (l : List Expr) (Q : Bool → AH → Lc → Prop) : AH → Lc → Prop := AW w k env (allTrue op l env) Q
theorem tr_bool {op : BoolOp} {l : List Expr} {pos : Pos} (h1 : AT w k env op l QB H m) : TR w k env (.BoolOp op l pos) QB H m := fun A s b E hr hb hf => wpAny_isTrue_BoolOp (h1 A s b E hr hb hf)
theorem at_and {e : Expr} {r : List Expr} (h1 : TR w k env e (fun t H m => if t then AT w k env .And r QB H m else QB false H m) H m) : AT w k env .And (e :: r) QB H m := by
  intro A s b E hr hb hf
  refine wpAny_allTrue_And_cons (wpAny_mono (h1 A s b E hr hb hf) (fun t s1 x => ?_) fun _ _ x => x)
  obtain ⟨H1, m1, h1', t1, rfl, hf1, q⟩ := x
  cases t with
  | false => exact ⟨H1, m1, h1', t1, rfl, hf1, q⟩
  | true =>
    refine wpAny_mono (q A _ b E hr hb hf1) (fun v s2 x => ?_) fun _ _ x => x
    obtain ⟨H2, m2, h2', t2, rfl, hf2, q⟩ := x
    exact ⟨H2, m2, h2', t2, rfl, hf2, q⟩
theorem at_and_nil (q : QB true H m) : AT w k env .And [] QB H m := fun A s b E hr hb hf => wpAny_allTrue_And_nil ⟨H, m, s.heap, s.toks, rfl, hf, q⟩
theorem at_or {e : Expr} {r : List Expr} (h1 : TR w k env e (fun t H m => if t then QB true H m else AT w k env .Or r QB H m) H m) : AT w k env .Or (e :: r) QB H m := by
  intro A s b E hr hb hf
  refine wpAny_allTrue_Or_cons (wpAny_mono (h1 A s b E hr hb hf) (fun t s1 x => ?_) fun _ _ x => x)
  obtain ⟨H1, m1, h1', t1, rfl, hf1, q⟩ := x
  cases t with
  | true => exact ⟨H1, m1, h1', t1, rfl, hf1, q⟩
  | false =>
    refine wpAny_mono (q A _ b E hr hb hf1) (fun v s2 x => ?_) fun _ _ x => x
    obtain ⟨H2, m2, h2', t2, rfl, hf2, q⟩ := x
    exact ⟨H2, m2, h2', t2, rfl, hf2, q⟩
theorem at_or_nil (q : QB false H m) : AT w k env .Or [] QB H m := fun A s b E hr hb hf => wpAny_allTrue_Or_nil ⟨H, m, s.heap, s.toks, rfl, hf, q⟩
theorem ev_and2 {x y : Expr} {pos : Pos} (h1 : EV w k env x (fun v H m => TrR w k env v (fun t H m => if t then EV w k env y Q H m else Q v H m) H m) H m) : EV w k env (.BoolOp .And [x, y] pos) Q H m := by
  intro A s b E hr hb hf
  refine wpAny_And2 (wpAny_mono (h1 A s b E hr hb hf) (fun u s1 x => ?_) fun _ _ x => x)
  obtain ⟨H1, m1, h1', t1, rfl, hf1, q⟩ := x
  refine wpAny_mono (q u rfl A _ b E hr hb hf1) (fun t s2 x => ?_) fun _ _ x => x
  obtain ⟨H2, m2, h2', t2, rfl, hf2, q⟩ := x
  cases t with
  | false => exact ⟨H2, m2, h2', t2, rfl, hf2, q⟩
  | true =>
    refine wpAny_mono (q A _ b E hr hb hf2) (fun v s2 x => ?_) fun _ _ x => x
    obtain ⟨H3, m3, h3', t3, rfl, hf3, q⟩ := x
    exact ⟨H3, m3, h3', t3, rfl, hf3, q⟩
theorem ev_not {e : Expr} {pos : Pos} (h1 : EV w k env e (fun v H m => TrR w k env v (fun t H m => Q (.bool (!t)) H m) H m) H m) : EV w k env (.UnaryOp .Not e pos) Q H m := by
  intro A s b E hr hb hf
  refine wpAny_UnaryOp (wpAny_mono (h1 A s b E hr hb hf) (fun u s1 x => ?_) fun _ _ x => x)
  obtain ⟨H1, m1, h1', t1, rfl, hf1, q⟩ := x
  refine not_of (wpAny_mono (q u rfl A _ b E hr hb hf1) (fun t s2 x => ?_) fun _ _ x => x)
  obtain ⟨H2, m2, h2', t2, rfl, hf2, q⟩ := x
  exact ⟨H2, m2, h2', t2, rfl, hf2, q⟩
theorem ev_ifexp {t x y : Expr} {pos : Pos} (h1 : TR w k env t (fun c H m => if c then EV w k env x Q H m else EV w k env y Q H m) H m) : EV w k env (.IfExp t x y pos) Q H m := by
  intro A s b E hr hb hf
  refine wpAny_IfExp (wpAny_mono (h1 A s b E hr hb hf) (fun c s1 x => ?_) fun _ _ x => x)
  obtain ⟨H1, m1, h1', t1, rfl, hf1, q⟩ := x
  cases c with
  | true =>
    refine wpAny_mono (q A _ b E hr hb hf1) (fun v s2 x => ?_) fun _ _ x => x
    obtain ⟨H3, m3, h3', t3, rfl, hf3, q⟩ := x
    exact ⟨H3, m3, h3', t3, rfl, hf3, q⟩
  | false =>
    refine wpAny_mono (q A _ b E hr hb hf1) (fun v s2 x => ?_) fun _ _ x => x
    obtain ⟨H3, m3, h3', t3, rfl, hf3, q⟩ := x
    exact ⟨H3, m3, h3', t3, rfl, hf3, q⟩
theorem op_add {a c : Int} (q : Q (.int (a + c) 0) H m) : OpR w k env .Add (.int a 0) (.int c 0) Q H m := by
  intro u v e1 e2 A s b E hr hb hf
  obtain ⟨t1, rfl⟩ := nv_int e1; obtain ⟨t2, rfl⟩ := nv_int e2
  exact PyProof.Rows.add_int ⟨H, m, s.heap, _, rfl, hf, q⟩
theorem op_sub {a c : Int} (q : Q (.int (a - c) 0) H m) : OpR w k env .Sub (.int a 0) (.int c 0) Q H m := by
  intro u v e1 e2 A s b E hr hb hf
  obtain ⟨t1, rfl⟩ := nv_int e1; obtain ⟨t2, rfl⟩ := nv_int e2
  exact PyProof.Rows.sub_int ⟨H, m, s.heap, _, rfl, hf, q⟩
theorem op_mul {a c : Int} (q : Q (.int (a * c) 0) H m) (hm : IntMulOk a c) : OpR w k env .Mult (.int a 0) (.int c 0) Q H m := by
  intro u v e1 e2 A s b E hr hb hf
  obtain ⟨t1, rfl⟩ := nv_int e1; obtain ⟨t2, rfl⟩ := nv_int e2
  exact PyProof.Rows.mul_int ⟨H, m, s.heap, _, rfl, hf, q⟩ hm
theorem op_mod {a c : Int} (h0 : c ≠ 0) (q : Q (.int (a.fmod c) 0) H m) : OpR w k env .Mod (.int a 0) (.int c 0) Q H m := by
  intro u v e1 e2 A s b E hr hb hf
  obtain ⟨t1, rfl⟩ := nv_int e1; obtain ⟨t2, rfl⟩ := nv_int e2
  exact PyProof.Rows.mod_int h0 ⟨H, m, s.heap, _, rfl, hf, q⟩
theorem op_div {a c : Int} (h0 : c ≠ 0) (hp : Builtin.divisionGoesByPylong a c = false) (q : Q (.int (a.fdiv c) 0) H m) : OpR w k env .FloorDiv (.int a 0) (.int c 0) Q H m := by
  intro u v e1 e2 A s b E hr hb hf
  obtain ⟨t1, rfl⟩ := nv_int e1; obtain ⟨t2, rfl⟩ := nv_int e2
  exact PyProof.Rows.floordiv_int h0 ⟨H, m, s.heap, _, rfl, hf, q⟩ (.inl hp)
theorem op_pow {a c : Int} (h0 : 0 ≤ c) (hz : (Builtin.Int.intBits a : Int) * c ≤ 2 ^ 27) (q : Q (.int (a ^ c.toNat) 0) H m) : OpR w k env .Pow (.int a 0) (.int c 0) Q H m := by
  intro u v e1 e2 A s b E hr hb hf
  obtain ⟨t1, rfl⟩ := nv_int e1; obtain ⟨t2, rfl⟩ := nv_int e2
  exact PyProof.Rows.pow_int h0 hz ⟨H, m, s.heap, _, rfl, hf, q⟩
theorem op_and {a c : Int} (q : Q (.int (Builtin.bitAnd a c) 0) H m) : OpR w k env .BitAnd (.int a 0) (.int c 0) Q H m := by
  intro u v e1 e2 A s b E hr hb hf
  obtain ⟨t1, rfl⟩ := nv_int e1; obtain ⟨t2, rfl⟩ := nv_int e2
  exact PyProof.Rows.and_int ⟨H, m, s.heap, _, rfl, hf, q⟩
theorem cm_lt {a c : Int} (q : Q (.bool (decide (a < c))) H m) : CmR w k env .Lt (.int a 0) (.int c 0) Q H m := by
  intro u v e1 e2 A s b E hr hb hf
  obtain ⟨t1, rfl⟩ := nv_int e1; obtain ⟨t2, rfl⟩ := nv_int e2
  exact PyProof.Rows.lt_int ⟨H, m, s.heap, _, rfl, hf, q⟩
theorem cm_le {a c : Int} (q : Q (.bool (decide (a ≤ c))) H m) : CmR w k env .LtE (.int a 0) (.int c 0) Q H m := by
  intro u v e1 e2 A s b E hr hb hf
  obtain ⟨t1, rfl⟩ := nv_int e1; obtain ⟨t2, rfl⟩ := nv_int e2
  exact PyProof.Rows.le_int ⟨H, m, s.heap, _, rfl, hf, q⟩
theorem cm_gt {a c : Int} (q : Q (.bool (decide (c < a))) H m) : CmR w k env .Gt (.int a 0) (.int c 0) Q H m := by
  intro u v e1 e2 A s b E hr hb hf
  obtain ⟨t1, rfl⟩ := nv_int e1; obtain ⟨t2, rfl⟩ := nv_int e2
  exact PyProof.Rows.gt_int ⟨H, m, s.heap, _, rfl, hf, q⟩
theorem cm_ge {a c : Int} (q : Q (.bool (decide (c ≤ a))) H m) : CmR w k env .GtE (.int a 0) (.int c 0) Q H m := by
  intro u v e1 e2 A s b E hr hb hf
  obtain ⟨t1, rfl⟩ := nv_int e1; obtain ⟨t2, rfl⟩ := nv_int e2
  exact PyProof.Rows.ge_int ⟨H, m, s.heap, _, rfl, hf, q⟩
theorem cm_eq {a c : Int} (q : Q (.bool (a == c)) H m) : CmR w k env .Eq (.int a 0) (.int c 0) Q H m := by
  intro u v e1 e2 A s b E hr hb hf
  obtain ⟨t1, rfl⟩ := nv_int e1; obtain ⟨t2, rfl⟩ := nv_int e2
  exact PyProof.Rows.eq_int ⟨H, m, s.heap, _, rfl, hf, q⟩
theorem cm_ne {a c : Int} (q : Q (.bool (a != c)) H m) : CmR w k env .NotEq (.int a 0) (.int c 0) Q H m := by
  intro u v e1 e2 A s b E hr hb hf
  obtain ⟨t1, rfl⟩ := nv_int e1; obtain ⟨t2, rfl⟩ := nv_int e2
  exact PyProof.Rows.ne_int ⟨H, m, s.heap, _, rfl, hf, q⟩
theorem cm_eqs {x y : Str} (q : Q (.bool (x == y)) H m) : CmR w k env .Eq (.str x 0) (.str y 0) Q H m := by
  intro u v e1 e2 A s b E hr hb hf
  obtain ⟨t1, rfl⟩ := nv_str e1; obtain ⟨t2, rfl⟩ := nv_str e2
  exact PyProof.Rows.eq_str ⟨H, m, s.heap, _, rfl, hf, q⟩
theorem nv_plain {u v : Value} (hp : plainIs (nv u) (nv v) = true) (hn : nv u = .none ∨ nv v = .none) : plainIs u v = true ∧ (u == v) = (nv u == nv v) := by
  rcases hn with e | e
  · have := nv_none e; subst this
    cases v <;> first | exact ⟨hp, rfl⟩ | (refine ⟨?_, ?_⟩ <;> simp_all [nv, plainIs])
  · have := nv_none e; subst this
    cases u <;> first | exact ⟨hp, rfl⟩ | (refine ⟨?_, ?_⟩ <;> simp_all [nv, plainIs])
theorem cm_is {a : Value} (hp : plainIs a .none = true) (q : Q (.bool (a == .none)) H m) : CmR w k env .Is a .none Q H m := by
  intro u v e1 e2 A s b E hr hb hf
  have e3 := nv_none e2; subst e3; subst e1
  obtain ⟨p1, p2⟩ := nv_plain (u := u) (v := .none) hp (.inr rfl)
  exact wpAny_is_plain p1 ⟨H, m, s.heap, _, rfl, hf, by rw [p2]; exact q⟩
theorem cm_isnot {a : Value} (hp : plainIs a .none = true) (q : Q (.bool (!(a == .none))) H m) : CmR w k env .IsNot a .none Q H m := by
  intro u v e1 e2 A s b E hr hb hf
  have e3 := nv_none e2; subst e3; subst e1
  obtain ⟨p1, p2⟩ := nv_plain (u := u) (v := .none) hp (.inr rfl)
  exact wpAny_isNot_plain p1 ⟨H, m, s.heap, _, rfl, hf, by rw [p2]; exact q⟩
theorem tv_bool {t : Bool} (q : QB t H m) : TrR w k env (.bool t) QB H m := by
  intro u e A s b E hr hb hf
  rw [nv_bool e]
  exact wpAny_truthy_bool ⟨H, m, s.heap, _, rfl, hf, q⟩
end
theorem Room.mono {A : Around} {k k' : Nat} (r : Room A k) (h : k' ≤ k) : Room A k' := ⟨r.handled, by have := r.depth; omega, by have := r.units; omega⟩
noncomputable def EL (w : World) (k : Nat) (env : Env) (pos : Pos) (l : List Expr) (Q : List Value → AH → Lc → Prop) : AH → Lc → Prop := AW w k env (spliced (backTo pos (starEach l env))) fun vs => Q (vs.map nv)
inductive KO (w : World) (H : AH) : Value → Prop where
  | k {a : Addr} (e : keepIn (KK PW w.params) (.ref a) = true) : KO w H (.ref a)
  | raw {a : Addr} {c : Value} {d : Option Addr} {fd : FuncData} {sl : Array (Option Value)} (e : H a = some (.raw ⟨c, d, .func fd, sl⟩)) : KO w H (.ref a)
  | bi {i : String} : KO w H (.builtin i)
  | ty {i : String} : KO w H (.type i)
theorem KO.nv {w : World} {H : AH} {v f : Value} (o : KO w H f) (e : nv v = f) : v = f := by
  cases o with
  | k _ => exact nv_ref e
  | raw _ => exact nv_ref e
  | bi => exact nv_bi e
  | ty => exact nv_ty e
noncomputable def CR (w : World) (k : Nat) (env : Env) (f : Value) (vs : List Value) (Q : Value → AH → Lc → Prop) (H : AH) (m : Lc) : Prop := ∀ us, us.map nv = vs → AW w k env (call f us) (fun x => Q (nv x)) H m
section
variable {w : World} {k : Nat} {env : Env} {b : Heap} {H : AH} {m : Lc} {h : Heap} {A : Around} {s : Shared} {E : Value → Shared → Prop} {Q : Value → AH → Lc → Prop}
theorem el_nil {pos : Pos} {Q : List Value → AH → Lc → Prop} (q : Q [] H m) : EL w k env pos [] Q H m := fun A s b E hr hb hf => spliced_nil ⟨H, m, s.heap, s.toks, rfl, hf, q⟩
theorem el_cons {pos : Pos} {e : Expr} {l : List Expr} {Q : List Value → AH → Lc → Prop} (h1 : EV w k env e (fun v H m => EL w k env pos l (fun vs => Q (v :: vs)) H m) H m) (he : starEach (e :: l) env = (false, eval e env) :: starEach l env := by rfl) : EL w k env pos (e :: l) Q H m := by
  intro A s b E hr hb hf
  rw [he]
  refine spliced_cons (x := eval e env) (rest := backTo pos (starEach l env)) (wpAny_mono (h1 A s b E hr hb hf) (fun v s1 x => ?_) fun _ _ x => x)
  obtain ⟨H1, m1, h1', t1, rfl, hf1, q⟩ := x
  refine wpAny_mono (q A _ b E hr hb hf1) (fun vs s2 x => ?_) fun _ _ x => x
  obtain ⟨H2, m2, h2', t2, rfl, hf2, q⟩ := x
  exact ⟨H2, m2, h2', t2, rfl, hf2, q⟩
theorem evalArgs_any {f : Value} {trees : List (Bool × Sem Value)} {Q : Args → Shared → Prop} {M : Model} (hp : trees.any (·.1) = false) (h : wpAny M A (spliced trees) (fun vs s' => Q ⟨vs, []⟩ s') E s) : wpAny M A (evalArgs f true trees []) Q E s := by
  cases trees with
  | nil => 
    unfold evalArgs
    show wpAny M A (spliced [] >>= _) Q E s
    refine wpAny_bind (wpAny_mono h (fun vs s' h' => ?_) fun _ _ x => x)
    refine wpAny_holding ?_
    exact wpAny_bind (wpAny_pure (wpAny_bind (wpAny_pure (wpAny_pure h'))))
  | cons t r =>
    obtain ⟨st, x⟩ := t
    rw [List.any_cons, Bool.or_eq_false_iff] at hp
    obtain ⟨h1, _⟩ := hp
    cases (show st = false from h1)
    exact evalArgs_plain h
theorem keeps_raw {M : Model} {h : Heap} {a : Addr} {c : Value} {d : Option Addr} {fd : FuncData} {sl : Array (Option Value)} (e : h.get? a = some ⟨c, d, .func fd, sl⟩) : Looks M h (keeperOf (.ref a)) .frame :=
  (Looks.ld (part := none) e).andThen .now
theorem aw_callWith {pos : Pos} {f : Value} {first : List Value} {args : List Expr} (h1 : EL w k env pos args (fun vs H m => KO w H f ∧ CR w k env f (first.map nv ++ vs) Q H m) H m) (hp : (backTo pos (starEach args env)).any (·.1) = false := by rfl) :
    AW w k env (callWith pos f first (backTo pos (starEach args env)) []) (fun x => Q (nv x)) H m := by
  intro A s b E hr hb hf
  refine callWith_of (P := fun h => ∃ H m, Fl w b env H m h ∧ KO w H f) (by rw [hp]; rfl) (fun h x => ?_) (evalArgs_any hp (wpAny_mono (h1 A s b E hr hb hf) (fun vs s1 x => ?_) fun _ _ x => x))
  · obtain ⟨H', m', hf', o⟩ := x
    cases o with
    | k e => exact keeps_K e h (hb.k.keeps hf'.keep)
    | raw e =>
      obtain ⟨dx, _, o⟩ := hf'.at_ e
      exact ⟨_, .inl rfl, keeps_raw o⟩
    | bi => exact ⟨.machine, .inr (.inl rfl), .now⟩
    | ty => exact ⟨.machine, .inr (.inl rfl), .now⟩
  · obtain ⟨H1, m1, h1', t1, rfl, hf1, o, q⟩ := x
    refine ⟨⟨H1, m1, hf1, o⟩, wpAny_mono (q (first ++ vs) (by rw [List.map_append]) A _ b E hr hb hf1) (fun v s2 x => x.over (Q := fun x => Q (nv x)) rfl) fun _ _ x => x⟩
theorem ev_call {x : Str} {p pos : Pos} {args : List Expr} (h1 : EV w k env (.Name x p) (fun f H m => EL w k env pos args (fun vs H m => KO w H f ∧ CR w k env f vs Q H m) H m) H m) (hp : (backTo pos (starEach args env)).any (·.1) = false := by rfl) :
    EV w k env (.Call (.Name x p) args [] pos) Q H m := by
  intro A s b E hr hb hf
  refine PyProof.Rows.Call_Name rfl (wpAny_mono (h1 A s b E hr hb hf) (fun f s1 x => ?_) fun _ _ x => x)
  obtain ⟨H1, m1, h1', t1, rfl, hf1, q⟩ := x
  refine wpAny_mono (aw_callWith (Q := Q) (first := []) (f := f) (fun A s b E hr hb hf => wpAny_mono (q A s b E hr hb hf) (fun vs s2 x => ?_) fun _ _ x => x) hp A _ b E hr hb hf1) (fun v s2 x => x.over (Q := fun x => Q (nv x)) rfl) fun _ _ x => x
  obtain ⟨H2, m2, h2', t2, rfl, hf2, o, q⟩ := x
  have e := o.nv (v := f) rfl
  exact ⟨H2, m2, h2', t2, rfl, hf2, e ▸ o, by rw [List.map_nil, List.nil_append]; exact e ▸ q⟩
theorem cr_tri {k' : Nat} {f : Value} {vs : List Value} (hk : k' ≤ k) (t : Tri w k' f vs (fun v H' => H' env.locals = none → Q v H' m) H) : CR w k env f vs Q H m := by
  intro us e A s b E hr hb hf
  obtain ⟨b', B', R, back⟩ := hf.call hb
  refine wpAny_mono (t A s b' E us (hr.mono hk) B' R e) (fun v s' x => ?_) fun _ _ x => x
  obtain ⟨H', h', t', rfl, R', q⟩ := x
  have hf' := back _ _ R'
  exact ⟨H', m, h', t', rfl, hf', q hf'.1⟩
noncomputable def MethOk (w : World) (C : Addr) (x : Str) (f : Addr) : Prop := (findIn (KK PW w.params) (.ref C) "__getattribute__" == some (some (.builtin "object.__getattribute__")) && findIn (KK PW w.params) (.ref C) "__getattr__" == some none && findIn (KK PW w.params) (.ref C) x == some (some (.ref f)) && typeIn (KK PW w.params) (.ref f) == some (.type "function")) = true
theorem gm_inst {x C f : Addr} {fs : List (Str × Value)} {name : Str} {pl : Sem Bool} {Q' : Value × List Value → AH → Lc → Prop} (hx : H x = some (.inst C fs)) (ok : MethOk w C name f) (hv : lk fs name = none) (q : Q' (.ref f, [.ref x]) H m) : AW w k env (getMethod (.ref x) name pl) Q' H m := by
  intro A s b E hr hb hf
  obtain ⟨dx, R, oa⟩ := hf.at_ hx
  obtain ⟨es, n, e2, fo, I⟩ := inst_at oa
  have o := ok
  unfold MethOk at o
  simp only [Bool.and_eq_true, beq_iff_eq] at o
  obtain ⟨⟨⟨o1, o2⟩, o3⟩, o4⟩ := o
  exact method_fn (hb.k.keeps hf.keep) I o1 o2 o3 o4 (by unfold shadowIn; dsimp only; rw [lookIn_dict, fo.miss hv]; rfl) ⟨H, m, s.heap, s.toks, rfl, hf, q⟩
theorem ev_meth {o : Expr} {name : Str} {apos pos : Pos} {args : List Expr} {pl : Sem Bool} (h1 : EV w k env o (fun ov H m => ∀ u, nv u = ov → AW w k env (getMethod u name pl) (fun fx H m => EL w k env pos args (fun vs H m => KO w H fx.1 ∧ CR w k env fx.1 (fx.2.map nv ++ vs) Q H m) H m) H m) H m)
    (hp : (backTo pos (starEach args env)).any (·.1) = false := by rfl)
    (he : eval (.Call (.Attribute o name apos) args [] pos) env = (do
      let ov ← eval o env
      standAt apos.atName
      let (f, first) ← holding [ov] (getMethod ov name pl)
      callWith pos f first (backTo pos (starEach args env)) (backToKw pos (keywordEach [] env))) := by rfl) : EV w k env (.Call (.Attribute o name apos) args [] pos) Q H m := by
  intro A s b E hr hb hf
  refine methodCall_KW (wpAny_mono (h1 A s b E hr hb hf) (fun f s1 x => ?_) fun _ _ x => x) he
  obtain ⟨H1, m1, h1', t1, rfl, hf1, q⟩ := x
  refine wpAny_mono (q f rfl A _ b E hr hb hf1) (fun fx s2 x => ?_) fun _ _ x => x
  obtain ⟨H2, m2, h2', t2, rfl, hf2, q⟩ := x
  exact wpAny_mono (aw_callWith (Q := Q) q hp A _ b E hr hb hf2) (fun v s2 x => x.over (Q := fun x => Q (nv x)) rfl) fun _ _ x => x
end
theorem Fl.rl {w : World} {env : Env} {b : Heap} {H : AH} {m : Lc} {h : Heap} (F : Fl w b env H m h) : Rl w b H h := by
  obtain ⟨h0, dx, R⟩ := F
  refine ⟨dx, R.sub fun a o e => ?_⟩
  rw [upd_ne]; exact e
  rintro rfl; rw [h0] at e; cases e
theorem Rl.keep {w : World} {b : Heap} {H : AH} {h : Heap} (R : Rl w b H h) (c : Addr) (o : Obj) (e : b.get? c = some o) : h.get? c = some o := by
  obtain ⟨dx, R⟩ := R
  exact R.keep c o e
noncomputable def TC (w : World) (k : Nat) (f : Value) (args : List Value) (Q : Value → AH → Prop) (H : AH) : Prop :=
  ∀ (A : Around) (s : Shared) (b : Heap) (R : Result → Shared → Prop) (vs : List Value), Room A k → Base w b → Rl w b H s.heap → vs.map nv = args → (∀ v s', Done w b s Q v s' → R (.ok (.ret v)) s') → codeAny (model PW w) A (.call f ⟨vs, []⟩) R s
theorem TC.tri {w : World} {k : Nat} {f : Value} {args : List Value} {Q : Value → AH → Prop} {H : AH} (t : TC w k f args Q H) : Tri w k f args Q H :=
  fun A s b E vs hr hb R e => wpAny_call (t A s b _ vs hr hb R e fun _ _ d => d)
theorem TC.mono {w : World} {k : Nat} {f : Value} {args : List Value} {Q Q' : Value → AH → Prop} {H : AH} (t : TC w k f args Q H) (h : ∀ v H', Q v H' → Q' v H') : TC w k f args Q' H :=
  fun A s b R vs hr hb Rl e hR => t A s b R vs hr hb Rl e fun v s' d => hR v s' (let ⟨H', h', t', e, r, q⟩ := d; ⟨H', h', t', e, r, h _ _ q⟩)
noncomputable def retOf : Flow → Value
  | .ret v => nv v
  | _ => .none
theorem lk_binds : ∀ (binds : List (Str × Value)) (x : Str), (binds.lookup x).map nv = lk (binds.map fun p => (p.1, nv p.2)) x
  | [], _ => rfl
  | (n, v) :: r, x => by
    rw [List.lookup_cons]
    unfold lk
    rw [List.map_cons, List.find?_cons]
    have : (n == x) = (x == n) := by rw [Bool.eq_iff_iff, beq_iff_eq, beq_iff_eq]; exact eq_comm
    dsimp only
    rw [this]
    cases hb : x == n with
    | true => rfl
    | false => exact lk_binds r x
section
variable {w : World} {k : Nat} {b : Heap} {H : AH} {h : Heap} {s : Shared} {dx : Addr → Addr}
theorem fl_frame {env : Env} {m0 : Lc} {binds : List (Str × Value)} {h1 : Heap} (R : Rl w b H h) (eL : env.locals = h.objs.size) (hns : h1.Ns h.objs.size (fun x => binds.reverse.lookup x)) (hk : ∀ c o, h.get? c = some o → h1.get? c = some o)
    (hm : (binds.reverse.map fun p => (p.1, nv p.2)) = m0) : H env.locals = none ∧ Fl w b env H m0 h1 := by
  obtain ⟨dx, R⟩ := R
  have h0 : H env.locals = none := by rw [eL]; exact R.fresh
  refine ⟨h0, h0, dx, ?_⟩
  rw [eL]
  refine (R.grow hk).put (fun C fs z => by cases z) (fun a C fs e z => ?_) R.bfresh ⟨_, hns, fun x => ?_⟩
  · exact absurd (z ▸ R.dlt e) (Nat.lt_irrefl _)
  · rw [← hm]; exact lk_binds _ _
noncomputable def BindOk (w : World) (fd : FuncData) (args : List Value) (m0 : Lc) : Prop := ∀ us : List Value, us.map nv = args → ∃ binds, (∀ s : Shared, (KK PW w.params).In s.heap → BindsTo s fd ⟨us, []⟩ binds) ∧ (binds.reverse.map fun p => (p.1, nv p.2)) = m0
theorem tc_def {f : Addr} {oc : Value} {od : Option Addr} {fd : FuncData} {sl : Array (Option Value)} {body : List Stmt} {args : List Value} {m0 : Lc} {Q : Value → AH → Prop}
    (ho : (KK PW w.params).lookup f = some ⟨oc, od, .func fd, sl⟩) (hbody : fd.body = .stmts body) (hcd : codeIn (KK PW w.params) fd.code fd.qualname = true) (hcell : (fd.scope.names.all fun x => x.2 != .cell) = true)
    (hbind : BindOk w fd args m0) (hm : (m0.all fun x => fd.scope.names.lookup x.1 == some .local) = true)
    (h : ∀ L, H L = none → EX w k (callEnv fd L f) body (fun fl H _ => Q (retOf fl) H) H m0)
    (hco : fd.scope.isCoroutine = false) (hgen : fd.scope.isGenerator = false) (hk : fd.scope.kind = .function) : TC w (k + 1) (.ref f) args Q H := by
  intro A s b R us hr hb Rh e hR
  obtain ⟨binds, hbd, em⟩ := hbind us e
  have hA := hr.depth; have hU := hr.units
  have X := hb.k.keeps Rh.keep
  refine codeAny_call_def (binds := binds) (by omega) (X _ _ ho) rfl (hb.lim.keeps Rh.keep) (codeRec_of X hcd) hbody (hbd s X) (fun x hx => ?_) (fun x hx => ?_) (fun h1 hns hk1 => ?_) hco hgen hk
  · have := List.all_eq_true.mp hcell x hx; simpa using this
  · subst em
    have := List.all_eq_true.mp hm (x.1, nv x.2) (List.mem_map.mpr ⟨x, List.mem_reverse.mpr hx, rfl⟩)
    exact beq_iff_eq.mp this
  · obtain ⟨h0, F⟩ := fl_frame (env := callEnv fd s.heap.objs.size f) Rh rfl hns hk1 em
    refine wpAny_mono (h s.heap.objs.size h0 (A.deeper (callEnv fd s.heap.objs.size f)) _ b _ ⟨hr.handled, ?_, ?_⟩ hb F) (fun fl s' x => ?_) fun _ _ x => x
    · show A.depth + 1 + 4 * k < _; omega
    · show A.units + 3 + 40 * k < _; omega
    · obtain ⟨H', m', h', t', rfl, F', q⟩ := x
      refine hR _ _ ⟨H', h', t', rfl, F'.rl, ?_⟩
      cases fl <;> exact q
noncomputable def isLoc (fd : FuncData) (x : Str × Value) : Bool := fd.scope.names.lookup x.1 == some .local
theorem bindL_eq (kd : Str → Option NameKind) : ∀ (binds : List (Str × Value)) (m : Str → Option Value) (x : Str), bindL kd binds m x = (((binds.filter fun p => kd p.1 == some .local).reverse.lookup x).or (m x))
  | [], m, x => by simp [bindL]
  | (n, v) :: r, m, x => by
    unfold bindL
    rw [bindL_eq kd r]
    by_cases hk : kd n = some .local
    · rw [if_pos hk, List.filter_cons_of_pos (by simp [hk]), List.reverse_cons, List.lookup_append]
      by_cases hx : x = n
      · subst hx; simp [List.lookup]
      · have : (x == n) = false := by simp [hx]
        simp [List.lookup, hx, this]
    · rw [if_neg hk, List.filter_cons_of_neg (by simp [hk])]
theorem bindC_eq (kd : Str → Option NameKind) : ∀ (binds : List (Str × Value)) (m : Str → Option Value) (x : Str), bindC kd binds m x = (((binds.filter fun p => !(kd p.1 == some .local)).reverse.lookup x).or (m x))
  | [], m, x => by simp [bindC]
  | (n, v) :: r, m, x => by
    unfold bindC
    rw [bindC_eq kd r]
    by_cases hk : kd n = some .local
    · rw [if_pos hk, List.filter_cons_of_neg (by simp [hk])]
    · rw [if_neg hk, List.filter_cons_of_pos (by simp [hk]), List.reverse_cons, List.lookup_append]
      by_cases hx : x = n
      · subst hx; simp [List.lookup]
      · have : (x == n) = false := by simp [hx]
        simp [List.lookup, hx, this]
noncomputable def cellUp (bc : Lc) (cs : List (Str × Addr)) (H : AH) : AH := cs.foldr (fun p H => upd H p.2 (.cell (lk bc p.1))) H
theorem cellUp_rd {L : Addr} {bc : Lc} (R : Rd w b H h dx) (hL : ∀ a C fs, H a = some (.inst C fs) → dx a < L) (hb : ∀ a, L ≤ a → b.get? a = none) : ∀ (cs : List (Str × Addr)), (∀ p ∈ cs, L ≤ p.2 ∧ OAt w h dx p.2 (.cell (lk bc p.1))) →
    Rd w b (cellUp bc cs H) h dx ∧ ∀ a C fs, cellUp bc cs H a = some (.inst C fs) → H a = some (.inst C fs)
  | [], _ => ⟨R, fun _ _ _ e => e⟩
  | p :: r, hc => by
    obtain ⟨R1, i1⟩ := cellUp_rd R hL hb r fun q hq => hc q (.tail _ hq)
    obtain ⟨c1, c2⟩ := hc p (.head _)
    refine ⟨R1.put (fun C fs z => by cases z) (fun a C fs e z => ?_) (hb _ c1) c2, fun a C fs e => ?_⟩
    · have := hL a C fs (i1 a C fs e)
      rw [z] at this
      exact absurd (Nat.lt_of_lt_of_le this c1) (Nat.lt_irrefl _)
    · unfold cellUp at e
      rw [List.foldr_cons] at e
      by_cases q : a = p.2
      · subst q; rw [upd_self] at e; cases e
      · rw [upd_ne _ _ q] at e; exact i1 a C fs e
theorem lookup_nodup {cs : List (Str × Addr)} : (cs.map (·.1)).Nodup → ∀ p ∈ cs, cs.lookup p.1 = some p.2 := by
  induction cs with
  | nil => intro _ p hp; cases hp
  | cons q r ih =>
    intro hn p hp
    rw [List.map_cons, List.nodup_cons] at hn
    rw [List.lookup_cons]
    rcases List.mem_cons.mp hp with rfl | hp
    · rw [beq_self_eq_true]
    · have : (p.1 == q.1) = false := by
        rw [beq_eq_false_iff_ne]
        intro e
        exact hn.1 (List.mem_map.mpr ⟨p, hp, e⟩)
      rw [this]
      exact ih hn.2 p hp
noncomputable def Sub (H' H : AH) : Prop := ∀ a o, H' a = some o → H a = some o
theorem Sub.rfl' {H : AH} : Sub H H := fun _ _ e => e
theorem tc_defc {f : Addr} {oc : Value} {od : Option Addr} {fd : FuncData} {sl : Array (Option Value)} {body : List Stmt} {args : List Value} {ml bc : Lc} {Q : Value → AH → Prop} {names : List Str}
    (ho : (KK PW w.params).lookup f = some ⟨oc, od, .func fd, sl⟩) (hbody : fd.body = .stmts body) (hcd : codeIn (KK PW w.params) fd.code fd.qualname = true) (hclo : fd.closure = [])
    (hbind : ∀ us : List Value, us.map nv = args → ∃ binds, bindArgs fd ⟨us, []⟩ = pure binds ∧ (((binds.filter (isLoc fd)).reverse.map fun p => (p.1, nv p.2)) = ml ∧ ((binds.filter fun x => !isLoc fd x).reverse.map fun p => (p.1, nv p.2)) = bc) ∧
      binds.all (fun x => isLoc fd x || (fd.scope.names.lookup x.1 == some .cell && names.contains x.1)) = true)
    (hnames : ∀ n, (cellsFrom n fd.scope.names []).map (·.1) = names) (hnd : names.Nodup)
    (h : ∀ L, (∀ n, H (L + n) = none) → EX w k (callEnvC fd L f) body (fun fl H1 _ => ∃ H', Sub H' H1 ∧ Q (retOf fl) H') (cellUp bc (cellsFrom (L + 1) fd.scope.names []) H) ml)
    (hco : fd.scope.isCoroutine = false) (hgen : fd.scope.isGenerator = false) (hk : fd.scope.kind = .function) : TC w (k + 1) (.ref f) args Q H := by
  intro A s b R us hr hb Rh e hR
  obtain ⟨binds, hbd, ⟨em, ec⟩, hall⟩ := hbind us e
  have hA := hr.depth; have hU := hr.units
  have X := hb.k.keeps Rh.keep
  refine codeAny_call_cells (binds := binds) (by omega) (X _ _ ho) rfl (hb.lim.keeps Rh.keep) (codeRec_of X hcd) hbody hbd hclo (fun x hx => ?_) (fun s1 IC => ?_) hco hgen hk
  · have := List.all_eq_true.mp hall x hx
    rcases Bool.or_eq_true_iff.mp this with q | q
    · exact .inl (beq_iff_eq.mp q)
    · rw [Bool.and_eq_true_iff, beq_iff_eq, List.contains_iff_mem] at q
      refine .inr ⟨q.1, ?_⟩
      have hm : x.1 ∈ (cellsFrom (s.heap.objs.size + 1) fd.scope.names []).map (·.1) := by rw [hnames]; exact q.2
      obtain ⟨p, hp, e⟩ := List.mem_map.mp hm
      have nd : ((cellsFrom (s.heap.objs.size + 1) fd.scope.names []).map (·.1)).Nodup := by rw [hnames]; exact hnd
      rw [← e, lookup_nodup nd p hp]; rfl
  · obtain ⟨dx, Rd0⟩ := Rh
    obtain ⟨h1, tk, rfl⟩ := IC.toInCall.same
    have hk1 : ∀ c o, s.heap.get? c = some o → h1.get? c = some o := IC.toInCall.keep
    have hlt : ∀ n, H (s.heap.objs.size + n) = none := fun n => by
      cases q : H (s.heap.objs.size + n) with
      | none => rfl
      | some o => exact absurd (Nat.lt_of_le_of_lt (Nat.le_add_right _ n) (Rd0.lt q)) (Nat.lt_irrefl _)
    have R1 := Rd0.grow hk1
    have hbn : ∀ a, s.heap.objs.size ≤ a → b.get? a = none := fun a ha => by
      cases q : b.get? a with
      | none => rfl
      | some o => exact absurd (Nat.lt_of_le_of_lt ha (Heap.lt_size (Rd0.keep _ _ q))) (Nat.lt_irrefl _)
    have nd : ((cellsFrom (s.heap.objs.size + 1) fd.scope.names []).map (·.1)).Nodup := by rw [hnames]; exact hnd
    have kl : ∀ x, bindL (callEnvC fd s.heap.objs.size f).kindOf binds (fun _ => none) x = ((binds.filter (isLoc fd)).reverse.lookup x) := fun x => by rw [bindL_eq]; simp; rfl
    have kc : ∀ x, bindC (callEnvC fd s.heap.objs.size f).kindOf binds (fun _ => none) x = ((binds.filter fun x => !isLoc fd x).reverse.lookup x) := fun x => by rw [bindC_eq]; simp; rfl
    obtain ⟨R2, i2⟩ := cellUp_rd (L := s.heap.objs.size) (bc := bc) R1 (fun a C fs e => Rd0.dlt e) hbn (cellsFrom (s.heap.objs.size + 1) fd.scope.names []) fun p hp => by
      have hl := lookup_nodup nd p hp
      refine ⟨Nat.le_of_lt (IC.above p.1 p.2 hp), _, IC.cell p.1 p.2 hl, ?_⟩
      rw [kc, ← ec]; exact lk_binds _ _
    have F : Fl w b (callEnvC fd s.heap.objs.size f) (cellUp bc (cellsFrom (s.heap.objs.size + 1) fd.scope.names []) H) ml h1 := by
      have h0 : cellUp bc (cellsFrom (s.heap.objs.size + 1) fd.scope.names []) H s.heap.objs.size = none := by
        have : ∀ cs : List (Str × Addr), (∀ p ∈ cs, p.2 ≠ s.heap.objs.size) → cellUp bc cs H s.heap.objs.size = none := by
          intro cs
          induction cs with
          | nil => intro _; exact hlt 0
          | cons p r ih =>
            intro hc
            show upd (cellUp bc r H) p.2 _ _ = none
            rw [upd_ne _ _ (Ne.symm (hc p (.head _)))]
            exact ih fun q hq => hc q (.tail _ hq)
        exact this _ fun p hp z => absurd (z ▸ IC.above p.1 p.2 hp : _ < s.heap.objs.size) (Nat.lt_irrefl _)
      refine ⟨h0, dx, R2.put (fun C fs z => by cases z) (fun a C fs e z => ?_) (hbn _ (Nat.le_refl _)) ⟨_, IC.toInCall.ns, fun x => ?_⟩⟩
      · have := Rd0.dlt (i2 a C fs e)
        rw [z] at this
        exact absurd this (Nat.lt_irrefl _)
      · rw [kl, ← em]; exact lk_binds _ _
    refine wpAny_mono (h s.heap.objs.size hlt (A.deeper (callEnvC fd s.heap.objs.size f)) _ b _ ⟨hr.handled, ?_, ?_⟩ hb F) (fun fl s' x => ?_) fun _ _ x => x
    · show A.depth + 1 + 4 * k < _; omega
    · show A.units + 3 + 40 * k < _; omega
    · obtain ⟨H', m', h', t', rfl, F', H3, hs, q⟩ := x
      refine hR _ _ ⟨H3, h', t', rfl, F'.rl.sub hs, ?_⟩
      cases fl <;> exact q
noncomputable def MakeOk (w : World) (C f : Addr) : Prop := (makesIn (KK PW w.params) C && findIn (KK PW w.params) (.ref C) "__init__" == some (some (.ref f)) && typeIn (KK PW w.params) (.ref f) == some (.type "function")) = true
theorem tc_new {C f : Addr} {args : List Value} {Q : Value → AH → Prop} (ok : MakeOk w C f) (h : ∀ x, H x = none → TC w k (.ref f) (.ref x :: args) (fun v H' => v = .none ∧ Q (.ref x) H') (upd H x (.inst C []))) : TC w (k + 1) (.ref C) args Q H := by
  intro A s b R us hr hb Rh e hR
  have hA := hr.depth; have hU := hr.units
  have X := hb.k.keeps Rh.keep
  unfold MakeOk at ok
  simp only [Bool.and_eq_true, beq_iff_eq] at ok
  obtain ⟨⟨o1, o2⟩, o3⟩ := ok
  obtain ⟨hh, g, d, t, os⟩ := s
  obtain ⟨dx, R0⟩ := Rh
  refine make_core (makes_of X o1) (looks_findIn X o2) (fun self => bind_fn X self o3) (.inl rfl) ?_
  have hx : H (hh.objs.size + 1) = none := by
    cases q : H (hh.objs.size + 1) with
    | none => rfl
    | some o => exact absurd (Nat.lt_trans (Nat.lt_succ_self _) (R0.lt q)) (Nat.lt_irrefl _)
  refine h (hh.objs.size + 1) hx (A.under (.builtin "type.__call__" ⟨.ref C :: us, []⟩)) _ b _ (.ref (hh.objs.size + 1) :: us) ⟨hr.handled, ?_, ?_⟩ hb ⟨_, R0.pushI C⟩ (by rw [List.map_cons, e]; rfl) fun v s' dn => ?_
  · show A.depth + (Code.builtin "type.__call__" ⟨.ref C :: us, []⟩).weight + 4 * k < _
    have : (Code.builtin "type.__call__" ⟨.ref C :: us, []⟩).weight = 1 := by kernel_rfl
    omega
  · show A.units + (Code.builtin "type.__call__" ⟨.ref C :: us, []⟩).cUnits + 40 * k < _
    have : (Code.builtin "type.__call__" ⟨.ref C :: us, []⟩).cUnits = 1 := by kernel_rfl
    omega
  · obtain ⟨H', h', t', rfl, R', e', q⟩ := dn
    exact ⟨nv_none e', hR _ _ ⟨H', h', t', rfl, R', q⟩⟩
end
theorem upd_comm (H : AH) {a c : Addr} (o o' : O) (h : a ≠ c) : upd (upd H a o) c o' = upd (upd H c o') a o := by
  funext x; unfold upd
  by_cases q : x = c
  · subst q; simp [Ne.symm h]
  · simp [q]
theorem upd_twice (H : AH) (a : Addr) (o o' : O) : upd (upd H a o) a o' = upd H a o' := by
  funext x; unfold upd; by_cases q : x = a <;> simp [q]
theorem lk_put (x : Str) (v : Value) : ∀ (m : Lc) (y : Str), lk (putF x v m) y = if y = x then some v else lk m y
  | [], y => by
    unfold putF lk
    rw [List.find?_cons]
    dsimp only
    by_cases q : y = x
    · subst q; simp
    · have : (x == y) = false := by simp [Ne.symm q]
      simp [this, q, lk]
  | p :: r, y => by
    have ih := lk_put x v r y
    unfold putF
    cases hb : p.1 == x with
    | true =>
      have e := beq_iff_eq.mp hb
      simp only [if_true]
      unfold lk
      rw [List.find?_cons, List.find?_cons]
      dsimp only
      by_cases q : y = x
      · subst q; rw [hb]; simp
      · have : (p.1 == y) = false := by rw [e]; simp [Ne.symm q]
        rw [this]; simp [q]
    | false =>
      simp only [Bool.false_eq_true, if_false]
      unfold lk
      rw [List.find?_cons, List.find?_cons]
      cases hy : p.1 == y with
      | true =>
        have e := beq_iff_eq.mp hy
        have : y ≠ x := by rintro rfl; rw [e] at hb; simp at hb
        simp [this]
      | false => exact ih
section
variable {w : World} {k : Nat} {env : Env} {b : Heap} {H : AH} {m : Lc} {h : Heap} {A : Around} {s : Shared} {E : Value → Shared → Prop} {Q : Value → AH → Lc → Prop} {QF : Flow → AH → Lc → Prop} {QU : Unit → AH → Lc → Prop}
theorem Fl.push (F : Fl w b env H m h) {ob : Obj} {o : O} (hni : ∀ C fs, o ≠ .inst C fs) (ho : ∀ dx, OAt w (h.push ob) dx h.objs.size o) : H h.objs.size = none ∧ h.objs.size ≠ env.locals ∧ Fl w b env (upd H h.objs.size o) m (h.push ob) := by
  obtain ⟨h0, dx, R⟩ := F
  have hs := R.fresh
  have ne : h.objs.size ≠ env.locals := fun z => by rw [z, upd_self] at hs; cases hs
  rw [upd_ne _ _ ne] at hs
  refine ⟨hs, ne, ?_, dx, ?_⟩
  · rw [upd_ne _ _ (Ne.symm ne)]; exact h0
  · rw [upd_comm _ _ _ ne]; exact R.push hni (ho dx)
theorem Fl.grow {h' : Heap} (F : Fl w b env H m h) (hk : ∀ c o, h.get? c = some o → h'.get? c = some o) : Fl w b env H m h' := let ⟨h0, dx, R⟩ := F; ⟨h0, dx, R.grow hk⟩
theorem Fl.ne (F : Fl w b env H m h) {a : Addr} {o : O} (e : H a = some o) : a ≠ env.locals := by
  rintro rfl; rw [F.1] at e; cases e
theorem Fl.turn {h' : Heap} (F : Fl w b env H m h) {c : Addr} {o o' : O} (hc : H c = some o) (hni' : ∀ C fs, o' ≠ .inst C fs) (hs : ∀ a ob, a ≠ c → h.get? a = some ob → h'.get? a = some ob) (ho : ∀ dx, OAt w h' dx c o') : Fl w b env (upd H c o') m h' := by
  have ne := F.ne hc
  obtain ⟨h0, dx, R⟩ := F
  refine ⟨?_, dx, ?_⟩
  · rw [upd_ne _ _ (Ne.symm ne)]; exact h0
  · rw [upd_comm _ _ _ ne]
    exact R.turn (by rw [upd_ne _ _ ne]; exact hc) hni' hs (ho dx)
theorem Fl.set {h' : Heap} {mr : Str → Option Value} {m' : Lc} (F : Fl w b env H m h) (hs : ∀ a ob, a ≠ env.locals → h.get? a = some ob → h'.get? a = some ob) (hn : h'.Ns env.locals mr) (hm : ∀ x, (mr x).map nv = lk m' x) : Fl w b env H m' h' := by
  obtain ⟨h0, dx, R⟩ := F
  refine ⟨h0, dx, ?_⟩
  have := R.turn (o' := .ns m') (upd_self ..) (fun C fs z => by cases z) hs ⟨mr, hn, hm⟩
  rwa [upd_twice] at this
theorem st_loc {x : Str} {v : Value} (q : QU () H (putF x (nv v) m)) (hl : env.kindOf x = some .local) (hk : env.scope.kind = .function) : AW w k env (storeName env x v) QU H m := by
  intro A s b E hr hb hf
  obtain ⟨mr, hn, em⟩ := hf.ns
  refine wpAny_storeName_local hl hn (fun h' hn' hs => ⟨H, _, h', _, rfl, hf.set (fun a ob ne e => hs.extBut a ob ne e) hn' fun y => ?_, q⟩) (by rw [hk]; rfl)
  rw [lk_put]
  by_cases z : y = x
  · simp [z]
  · simp [z, em y]
theorem st_cell {x : Str} {c : Addr} {u : Option Value} {v : Value} (hc : env.cells.lookup x = some c) (hv : H c = some (.cell u)) (q : QU () (upd H c (.cell (some (nv v)))) m) (hl : env.kindOf x = some .cell) (hk : env.scope.kind = .function) : AW w k env (storeName env x v) QU H m := by
  intro A s b E hr hb hf
  obtain ⟨dx, R, u', hu, e⟩ := hf.at_ hv
  exact wpAny_storeName_cell hk hl hc hu fun h' hc' hs => ⟨_, m, h', _, rfl, hf.turn (o' := .cell (some (nv v))) hv (fun C fs z => by cases z) (fun a ob ne e => hs.extBut a ob ne e) (fun dx => ⟨some v, hc', rfl⟩), q⟩
noncomputable def AS (w : World) (k : Nat) (env : Env) (t : Expr) (v : Value) (Q : Unit → AH → Lc → Prop) (H : AH) (m : Lc) : Prop := ∀ u, nv u = v → AW w k env (assign t env u) Q H m
theorem as_loc {x : Str} {p : Pos} {v : Value} (q : QU () H (putF x v m)) (hl : env.kindOf x = some .local) (hk : env.scope.kind = .function) : AS w k env (.Name x p) v QU H m := by
  intro u e A s b E hr hb hf
  exact wpAny_assign_Name (st_loc (v := u) (by rw [e]; exact q) hl hk A s b E hr hb hf)
theorem as_cell {x : Str} {p : Pos} {c : Addr} {u0 : Option Value} {v : Value} (hc : env.cells.lookup x = some c) (hv : H c = some (.cell u0)) (q : QU () (upd H c (.cell (some v))) m) (hl : env.kindOf x = some .cell) (hk : env.scope.kind = .function) : AS w k env (.Name x p) v QU H m := by
  intro u e A s b E hr hb hf
  exact wpAny_assign_Name (st_cell (v := u) hc hv (by rw [e]; exact q) hl hk A s b E hr hb hf)
noncomputable def AO (w : World) (k : Nat) (env : Env) : List Expr → List Value → (Unit → AH → Lc → Prop) → AH → Lc → Prop
  | t :: ts, v :: vs, Q, H, m => AS w k env t v (fun _ H m => AO w k env ts vs Q H m) H m
  | [], [], Q, H, m => Q () H m
  | _, _, _, _, _ => False
theorem ao_run : ∀ (ts : List Expr) (us : List Value), (∀ t ∈ ts, ∀ r, assignEach (t :: r) env = (false, assign t env) :: assignEach r env) → ∀ {H m}, AO w k env ts (us.map nv) QU H m → AW w k env (assignInOrder ((assignEach ts env).map (·.2)) us) QU H m
  | [], [], _, H, m, h => fun A s b E hr hb hf => wpAny_pure ⟨H, m, s.heap, s.toks, rfl, hf, h⟩
  | [], _ :: _, _, H, m, h => h.elim
  | _ :: _, [], _, H, m, h => h.elim
  | t :: ts, u :: us, ha, H, m, h => by
    intro A s b E hr hb hf
    rw [ha t (.head _) ts]
    show wpAny (model PW w) A (holding us (assign t env u) >>= fun _ => assignInOrder ((assignEach ts env).map (·.2)) us) _ E s
    refine wpAny_bind (wpAny_holding (AW.seq hr hb hf (h u rfl) fun _ H' m' q => ?_))
    exact ao_run ts us (fun t ht => ha t (.tail _ ht)) q
theorem as_tup {ts : List Expr} {x1} {p : Pos} {a : Addr} {vs : List Value} (ha : H a = some (.tup vs)) (q : AO w k env ts vs QU H m) (hl : ts.length = vs.length) (h1 : ∀ t ∈ ts, ∀ r, assignEach (t :: r) env = (false, assign t env) :: assignEach r env) : AS w k env (.Tuple ts x1 p) (.ref a) QU H m := by
  intro u e A s b E hr hb hf
  rw [nv_ref e]
  obtain ⟨dx, R, us, ht, rfl⟩ := hf.at_ ha
  have hn : ∀ l : List Expr, (∀ t ∈ l, ∀ r, assignEach (t :: r) env = (false, assign t env) :: assignEach r env) → (assignEach l env).length = l.length ∧ (assignEach l env).findIdx? (·.1) = none := by
    intro l
    induction l with
    | nil => intro _; exact ⟨rfl, rfl⟩
    | cons t l ih =>
      intro h
      obtain ⟨i1, i2⟩ := ih fun t ht => h t (.tail _ ht)
      rw [h t (.head _) l]
      exact ⟨by rw [List.length_cons, i1, List.length_cons], by rw [List.findIdx?_cons, i2]; rfl⟩
  refine wpAny_assign_Tuple hr.handled ht (by rw [(hn ts h1).1, hl, List.length_map, List.size_toArray]) (hn ts h1).2 fun h' hk => ?_
  have hk' : ∀ c o, s.heap.get? c = some o → h'.get? c = some o := fun c o e => hk c o (Nat.ne_of_lt (Heap.lt_size e)) e
  exact wpAny_mono (ao_run ts us h1 q A { s with heap := h' } b E hr hb (hf.grow hk')) (fun _ _ x => x.over (Q := QU) (s := s) rfl) fun _ _ x => x
theorem as_attr {o : Expr} {x : Str} {p : Pos} {v : Value} (q : EV w k env o (fun ov H m => ∃ a C fs, ov = .ref a ∧ H a = some (.inst C fs) ∧ StoreOk C x ∧ fs.length < 900 ∧ QU () (upd H a (.inst C (putF x v fs))) m) H m) : AS w k env (.Attribute o x p) v QU H m := by
  intro u e A s b E hr hb hf
  show wpAny (model PW w) A (holding [u] (eval o env) >>= fun ov => _) _ E s
  refine wpAny_bind (wpAny_holding (wpAny_mono (q A s b E hr hb hf) (fun ov s1 y => ?_) fun _ _ x => x))
  obtain ⟨H1, m1, h1', t1, rfl, hf1, a, C, fs, ea, ha, ok, hz, q⟩ := y
  rw [nv_ref ea]
  refine wpAny_bind (wpAny_standAt (wpAny_bind (wpAny_holding (wpAny_mono (setattr_own (v := u) (Q' := QU) ha ok hz (by rw [e]; exact q) A _ b E hr hb hf1) (fun _ s2 y => ?_) fun _ _ x => x))))
  refine wpAny_release ?_
  exact y.over (Q := QU) rfl
theorem e1_assign {t value : Expr} {pos : Pos} (h : EV w k env value (fun v H m => AS w k env t v (fun _ => QF .next) H m) H m) (ha : assignEach [t] env = [(false, assign t env)]) (hs : swapsWithSole [t] value pos.line env = pure false) (hw : swappedStores [t] value env = pure none) :
    E1 w k env (.Assign [t] value pos) QF H m := by
  intro A s b E hr hb hf
  refine wpAny_Assign_stores (wpAny_mono (h A s b E hr hb hf) (fun v s1 y => ?_) fun _ _ x => x) hs hw
  obtain ⟨H1, m1, h1', t1, rfl, hf1, q⟩ := y
  rw [ha]
  refine wpAny_mono (q v rfl A _ b E hr hb hf1) (fun _ s2 y => ?_) fun _ _ x => x
  obtain ⟨H2, m2, h2', t2, rfl, hf2, q⟩ := y
  exact ⟨H2, m2, h2', t2, rfl, hf2, q⟩
theorem ex_nil (q : QF .next H m) : EX w k env [] QF H m := fun A s b E hr hb hf => wpAny_execs_nil ⟨H, m, s.heap, s.toks, rfl, hf, q⟩
noncomputable def Nx (w : World) (k : Nat) (env : Env) (rest : List Stmt) (Q : Flow → AH → Lc → Prop) (f : Flow) (H : AH) (m : Lc) : Prop := match f with
  | .next => EX w k env rest Q H m
  | f => Q f H m
theorem ex_cons {st : Stmt} {rest : List Stmt} (h : E1 w k env st (Nx w k env rest QF) H m) : EX w k env (st :: rest) QF H m := by
  intro A s b E hr hb hf
  refine wpAny_execs_cons (wpAny_mono (h A s b E hr hb hf) (fun f s1 y => ?_) fun _ _ x => x)
  obtain ⟨H1, m1, h1', t1, rfl, hf1, q⟩ := y
  cases f with
  | next => exact wpAny_mono (q A _ b E hr hb hf1) (fun _ _ x => x.over (Q := QF) rfl) fun _ _ x => x
  | cont => exact ⟨H1, m1, h1', t1, rfl, hf1, q⟩
  | brk => exact ⟨H1, m1, h1', t1, rfl, hf1, q⟩
  | ret v => exact ⟨H1, m1, h1', t1, rfl, hf1, q⟩
theorem e1_if {t : Expr} {x y : List Stmt} {pos : Pos} (h : TR w k env t (fun c H m => if c then EX w k env x QF H m else EX w k env y QF H m) H m) : E1 w k env (.If t x y pos) QF H m := by
  intro A s b E hr hb hf
  refine wpAny_If (wpAny_mono (h A s b E hr hb hf) (fun c s1 z => ?_) fun _ _ x => x)
  obtain ⟨H1, m1, h1', t1, rfl, hf1, q⟩ := z
  cases c with
  | true => exact wpAny_mono (q A _ b E hr hb hf1) (fun _ _ x => x.over (Q := QF) rfl) fun _ _ x => x
  | false => exact wpAny_mono (q A _ b E hr hb hf1) (fun _ _ x => x.over (Q := QF) rfl) fun _ _ x => x
theorem e1_ret {e : Expr} {pos : Pos} (h : AW w k env (eval e env) (fun v => QF (.ret v)) H m) : E1 w k env (.Return (some e) pos) QF H m := fun A s b E hr hb hf => wpAny_Return_some (h A s b E hr hb hf)
theorem e1_ret0 {pos : Pos} (q : QF (.ret .none) H m) : E1 w k env (.Return none pos) QF H m := fun A s b E hr hb hf => wpAny_Return_none ⟨H, m, s.heap, s.toks, rfl, hf, q⟩
theorem e1_expr {e : Expr} {pos : Pos} (h : EV w k env e (fun _ => QF .next) H m) (hi : interactive env = false) (hs : swapsWith e none pos.line env = pure false) : E1 w k env (.Expr e pos) QF H m := fun A s b E hr hb hf =>
  wpAny_Expr_any (wpAny_mono (h A s b E hr hb hf) (fun _ _ x => let ⟨H', m', h', t', e, f, q⟩ := x; ⟨H', m', h', t', e, f, q⟩) fun _ _ x => x) hi hs
theorem ev_tuple {l : List Expr} {c} {pos : Pos} (h : EL w k env pos l (fun vs H m => vs.length ≤ 1000 ∧ ∀ a, H a = none → a ≠ env.locals → Q (.ref a) (upd H a (.tup vs)) m) H m) : EV w k env (.Tuple l c pos) Q H m := by
  intro A s b E hr hb hf
  refine Tuple_ (wpAny_mono (h A s b E hr hb hf) (fun vs s1 y => ?_) fun _ _ x => x)
  obtain ⟨H1, m1, h1', t1, rfl, hf1, hz, q⟩ := y
  obtain ⟨f1, f2, f3⟩ := hf1.push (ob := { cls := .type "tuple", data := .seq vs.toArray }) (o := .tup (vs.map nv)) (fun C fs z => by cases z) fun dx => ⟨vs, IsTup.new _ _, rfl⟩
  refine wpAny_newObj_type ⟨_, m1, _, _, rfl, f3, q _ f1 f2⟩ ?_
  rw [List.length_map] at hz
  show vs.toArray.size ≤ sizeLine
  rw [List.size_toArray]
  exact Nat.le_trans hz (by decide)
theorem ev_list {l : List Expr} {pos : Pos} (h : EL w k env pos l (fun vs H m => vs.length ≤ 1000 ∧ ∀ a, H a = none → a ≠ env.locals → Q (.ref a) (upd H a (.list vs)) m) H m) : EV w k env (.List l pos) Q H m := by
  intro A s b E hr hb hf
  refine List_ (wpAny_mono (h A s b E hr hb hf) (fun vs s1 y => ?_) fun _ _ x => x)
  obtain ⟨H1, m1, h1', t1, rfl, hf1, hz, q⟩ := y
  obtain ⟨f1, f2, f3⟩ := hf1.push (ob := { cls := .type "list", data := .seq vs.toArray }) (o := .list (vs.map nv)) (fun C fs z => by cases z) fun dx => ⟨vs, 0, Heap.get?_push_size _ rfl, rfl⟩
  refine wpAny_newObj_type ⟨_, m1, _, _, rfl, f3, q _ f1 f2⟩ ?_
  rw [List.length_map] at hz
  show vs.toArray.size ≤ sizeLine
  rw [List.size_toArray]
  exact Nat.le_trans hz (by decide)
end
theorem map_len {us xs : List Value} (e : us.map nv = xs) : us.length = xs.length := by rw [← e, List.length_map]
theorem map_get {us xs : List Value} (e : us.map nv = xs) {j : Nat} {x : Value} (h : xs[j]? = some x) : ∃ u, us[j]? = some u ∧ nv u = x := by
  rw [← e, List.getElem?_map] at h
  exact Option.map_eq_some_iff.mp h
theorem map_one {us : List Value} {a : Value} (e : us.map nv = [a]) : ∃ u, us = [u] ∧ nv u = a := by
  cases us with
  | nil => cases e
  | cons u r => cases r with
    | nil => exact ⟨u, rfl, (List.cons.inj e).1⟩
    | cons _ _ => have := (List.cons.inj e).2; cases this
theorem map_cons {us : List Value} {a : Value} {r : List Value} (e : us.map nv = a :: r) : ∃ u us', us = u :: us' ∧ nv u = a ∧ us'.map nv = r := by
  cases us with
  | nil => cases e
  | cons u us' => exact ⟨u, us', rfl, (List.cons.inj e).1, (List.cons.inj e).2⟩
theorem map_nil' {us : List Value} (e : us.map nv = []) : us = [] := by cases us with | nil => rfl | cons _ _ => cases e
noncomputable def dk (kvs : List (Int × Value)) (k : Int) : Option Value := (kvs.find? fun p => p.1 == k).map (·.2)
theorem dk_map (ks : List (Int × Value)) (k : Int) : (valueAt ks k).map nv = dk (ks.map fun p => (p.1, nv p.2)) k := by
  unfold valueAt dk
  induction ks with
  | nil => rfl
  | cons p r ih =>
    rw [List.find?_cons, List.map_cons, List.find?_cons]
    dsimp only
    by_cases h : p.1 = k
    · simp [h]
    · have : (p.1 == k) = false := by simp [h]
      simp only [h, this, decide_false]
      exact ih
noncomputable def dput (kvs : List (Int × Value)) (k : Int) (v : Value) : List (Int × Value) :=
  if kvs.any (fun kv => kv.1 = k) then kvs.map (fun kv => if kv.1 = k then (kv.1, v) else kv) else kvs ++ [(k, v)]
theorem stored_map (ks : List (Int × Value)) (k : Int) (v : Value) : (stored ks k v).map (fun p => (p.1, nv p.2)) = dput (ks.map fun p => (p.1, nv p.2)) k (nv v) := by
  unfold stored dput
  rw [List.any_map]
  have : ((fun kv : Int × Value => decide (kv.1 = k)) ∘ fun p : Int × Value => (p.1, nv p.2)) = fun kv => decide (kv.1 = k) := rfl
  rw [this]
  split
  · rw [List.map_map, List.map_map]
    apply List.map_congr_left
    intro p _
    dsimp only [Function.comp]
    split <;> rfl
  · rw [List.map_append]; rfl
section
variable {w : World} {k : Nat} {env : Env} {b : Heap} {H : AH} {m : Lc} {h : Heap} {A : Around} {s : Shared} {E : Value → Shared → Prop} {Q : Value → AH → Lc → Prop} {QF : Flow → AH → Lc → Prop} {QU : Unit → AH → Lc → Prop} {QB : Bool → AH → Lc → Prop}
theorem Fl.nosys (F : Fl w b env H m h) (B : Base w b) {a : Addr} {o : O} (e : H a = some o) : (a == sysModules) = false := by
  rw [beq_eq_false_iff_ne]
  rintro rfl
  obtain ⟨h0, dx, R⟩ := F
  have : upd H env.locals (.ns m) sysModules = some o := by
    rw [upd_ne]; exact e
    intro z; rw [z, h0] at e; cases e
  have := R.off _ _ this
  rw [B.k sysModules _ (by rfl)] at this
  cases this
noncomputable def IT (w : World) (k : Nat) (env : Env) (value slice : Expr) (o i : Value) (Q : Value → AH → Lc → Prop) (H : AH) (m : Lc) : Prop := ∀ u v, nv u = o → nv v = i → AW w k env (subscriptTail value slice u v) (fun x => Q (nv x)) H m
noncomputable def PlainSub (slice : Expr) : Prop := ∀ o i, subscripted slice false o i = operate [o, i] (getItem o i)
theorem ev_sub {value slice : Expr} {pos : Pos} (h1 : EV w k env value (fun o H m => EV w k env slice (fun i H m => IT w k env value slice o i Q H m) H m) H m) : EV w k env (.Subscript value slice pos) Q H m := by
  intro A s b E hr hb hf
  refine Subscript_ (wpAny_mono (h1 A s b E hr hb hf) (fun u s1 x => ?_) fun _ _ x => x)
  obtain ⟨H1, m1, h1', t1, rfl, hf1, q⟩ := x
  refine wpAny_mono (q A _ b E hr hb hf1) (fun v s2 x => ?_) fun _ _ x => x
  obtain ⟨H2, m2, h2', t2, rfl, hf2, q⟩ := x
  refine wpAny_mono (q u v rfl rfl A _ b E hr hb hf2) (fun z s3 x => ?_) fun _ _ x => x
  obtain ⟨H3, m3, h3', t3, rfl, hf3, q⟩ := x
  exact ⟨H3, m3, h3', t3, rfl, hf3, q⟩
theorem it_list {value slice : Expr} {a : Addr} {xs : List Value} {j : Int} {x : Value} (ha : H a = some (.list xs)) (h0 : 0 ≤ j) (hx : xs[j.toNat]? = some x) (hj : j < 2 ^ 63) (q : Q x H m) (ps : PlainSub slice) : IT w k env value slice (.ref a) (.int j 0) Q H m := by
  intro u v e1 e2 A s b E hr hb hf
  rw [nv_ref e1]; obtain ⟨t, rfl⟩ := nv_int e2
  obtain ⟨dx, R, us, n, e, em⟩ := hf.at_ ha
  obtain ⟨y, hy, rfl⟩ := map_get em hx
  have hl : s.heap.IsList a us.toArray := PySem.IsL.isList (n := n) e
  exact tail_any hl.typeIs slot_list_getitem.lookup (wpAny_getItem_list hl h0 hj (by simpa using hy) ⟨H, m, s.heap, s.toks, rfl, hf, q⟩) (ps _ _)
theorem it_neg {value slice : Expr} {a : Addr} {xs : List Value} {j : Int} {x : Value} (ha : H a = some (.list xs)) (h0 : j < 0) (h1 : -(xs.length : Int) ≤ j) (hj : -(2 ^ 63) ≤ j) (hx : xs[(j + xs.length).toNat]? = some x) (q : Q x H m) (ps : PlainSub slice) : IT w k env value slice (.ref a) (.int j 0) Q H m := by
  intro u v e1 e2 A s b E hr hb hf
  rw [nv_ref e1]; obtain ⟨t, rfl⟩ := nv_int e2
  obtain ⟨dx, R, us, n, e, em⟩ := hf.at_ ha
  have hlen := map_len em
  obtain ⟨y, hy, rfl⟩ := map_get em hx
  have hl : s.heap.IsList a us.toArray := PySem.IsL.isList (n := n) e
  exact tail_any hl.typeIs slot_list_getitem.lookup (wpAny_getItem_list_neg hl h0 (by rw [List.size_toArray, hlen]; exact h1) hj (by rw [List.size_toArray, hlen]; simpa using hy) ⟨H, m, s.heap, s.toks, rfl, hf, q⟩) (ps _ _)
theorem it_tup {value slice : Expr} {a : Addr} {xs : List Value} {j : Int} {x : Value} (ha : H a = some (.tup xs)) (h0 : 0 ≤ j) (hx : xs[j.toNat]? = some x) (hj : j < 2 ^ 63) (q : Q x H m) (ps : PlainSub slice) : IT w k env value slice (.ref a) (.int j 0) Q H m := by
  intro u v e1 e2 A s b E hr hb hf
  rw [nv_ref e1]; obtain ⟨t, rfl⟩ := nv_int e2
  obtain ⟨dx, R, us, ht, em⟩ := hf.at_ ha
  obtain ⟨y, hy, rfl⟩ := map_get em hx
  have hl : j.toNat < us.length := by
    rcases Nat.lt_or_ge j.toNat us.length with z | z
    · exact z
    · rw [List.getElem?_eq_none z] at hy; cases hy
  exact item_tupleT (j := j.toNat) ht (by omega) hj (seqIndex_of h0 (by omega)) hy ⟨H, m, s.heap, s.toks, rfl, hf, q⟩ (ps _ _)
theorem it_dict {value slice : Expr} {a : Addr} {kvs : List (Int × Value)} {j : Int} {x : Value} (ha : H a = some (.dict kvs)) (hx : dk kvs j = some x) (q : Q x H m) (ps : PlainSub slice) : IT w k env value slice (.ref a) (.int j 0) Q H m := by
  intro u v e1 e2 A s b E hr hb hf
  rw [nv_ref e1]; obtain ⟨t, rfl⟩ := nv_int e2
  obtain ⟨dx, R, ks, hd, em⟩ := hf.at_ ha
  rw [← em, ← dk_map] at hx
  obtain ⟨y, hy, rfl⟩ := Option.map_eq_some_iff.mp hx
  exact tail_any hd.typeIs slot_dict_getitem.lookup (wpAny_getItem_of (intKind_is PW w j t) hd.mapOf hy ⟨H, m, s.heap, _, rfl, hf, q⟩) (ps _ _)
theorem cr_len_list {a : Addr} {xs : List Value} (ha : H a = some (.list xs)) (hz : xs.length < 10000) (q : Q (.int xs.length 0) H m) : CR w k env (.builtin "len") [.ref a] Q H m := by
  intro us e A s b E hr hb hf
  obtain ⟨u, rfl, eu⟩ := map_one e
  rw [nv_ref eu]
  obtain ⟨dx, R, vs, n, e1, em⟩ := hf.at_ ha
  have hlen := map_len em
  have hl : s.heap.IsList a vs.toArray := PySem.IsL.isList (n := n) e1
  exact call_len_list hl (by rw [List.size_toArray]; omega) ⟨H, m, s.heap, _, rfl, hf, by rw [List.size_toArray, hlen]; exact q⟩
theorem cr_len_tup {a : Addr} {xs : List Value} (ha : H a = some (.tup xs)) (hz : xs.length < 10000) (q : Q (.int xs.length 0) H m) : CR w k env (.builtin "len") [.ref a] Q H m := by
  intro us e A s b E hr hb hf
  obtain ⟨u, rfl, eu⟩ := map_one e
  rw [nv_ref eu]
  obtain ⟨dx, R, vs, ht, em⟩ := hf.at_ ha
  have hlen := map_len em
  exact PyProof.Rows.len_tuple ht (by rw [List.size_toArray]; omega) ⟨H, m, s.heap, _, rfl, hf, by rw [List.size_toArray, hlen]; exact q⟩
theorem tv_int {i : Int} (q : QB (i != 0) H m) : TrR w k env (.int i 0) QB H m := by
  intro u e A s b E hr hb hf
  obtain ⟨t, rfl⟩ := nv_int e
  exact PyProof.Rows.truthy_int ⟨H, m, s.heap, s.toks, rfl, hf, q⟩
theorem cm_notin_dict {a : Addr} {kvs : List (Int × Value)} {j : Int} (ha : H a = some (.dict kvs)) (q : Q (.bool (!(dk kvs j).isSome)) H m) : CmR w k env .NotIn (.int j 0) (.ref a) Q H m := by
  intro u v e1 e2 A s b E hr hb hf
  obtain ⟨t, rfl⟩ := nv_int e1; rw [nv_ref e2]
  obtain ⟨dx, R, ks, hd, em⟩ := hf.at_ ha
  rw [← em, ← dk_map, Option.isSome_map] at q
  exact wpAny_notIn_of (intKind_is PW w j t) (hf.nosys hb ha) hd.mapOf ⟨H, m, s.heap, _, rfl, hf, q⟩
noncomputable def intl (ns : List Int) : List Value := ns.map fun n => .int n 0
theorem ints_are : ∀ {vs : List Value} {ns : List Int}, vs.map nv = intl ns → IntsAre vs ns
  | [], [], _ => .nil
  | [], _ :: _, h => by cases h
  | _ :: _, [], h => by cases h
  | v :: vs, n :: ns, h => by
    obtain ⟨h1, h2⟩ := List.cons.inj h
    obtain ⟨t, rfl⟩ := nv_int h1
    exact .cons n t (ints_are h2)
theorem are_ints : ∀ {vs : List Value} {ns : List Int}, IntsAre vs ns → vs.map nv = intl ns
  | _, _, .nil => rfl
  | _, _, .cons n t h => by rw [List.map_cons, are_ints h]; rfl
theorem cm_in_ints {a : Addr} {ns : List Int} {j : Int} (ha : H a = some (.list (intl ns))) (q : Q (.bool (ns.any (· == j))) H m) : CmR w k env .In (.int j 0) (.ref a) Q H m := by
  intro u v e1 e2 A s b E hr hb hf
  obtain ⟨t, rfl⟩ := nv_int e1; rw [nv_ref e2]
  obtain ⟨dx, R, vs, n, e1, em⟩ := hf.at_ ha
  exact in_list_ints (PySem.IsL.isList (n := n) e1) (ints_are em) ⟨H, m, s.heap, s.toks, rfl, hf, q⟩
theorem cm_eq_nil {a c : Addr} {xs : List Value} (ha : H a = some (.list xs)) (hc : H c = some (.list [])) (q : Q (.bool xs.isEmpty) H m) : CmR w k env .Eq (.ref a) (.ref c) Q H m := by
  intro u v e1 e2 A s b E hr hb hf
  rw [nv_ref e1, nv_ref e2]
  obtain ⟨dx, R, vs, n, e1, em⟩ := hf.at_ ha
  obtain ⟨dx', R', vs', n', e1', em'⟩ := hf.at_ hc
  have hu := hr.units
  have := map_nil' em'; subst this
  cases vs with
  | nil =>
    subst em
    exact PySem.P.eq_list (n := n) (n2 := n') (e := fun _ => true) e1 e1' rfl (fun j h1 _ => absurd h1 (Nat.not_lt_zero _)) (by omega) ⟨H, m, s.heap, s.toks, rfl, hf, q⟩
  | cons v r =>
    subst em
    exact PySem.P.eq_list_lengths (n := n) (n2 := n') e1 e1' (by simp) (by omega) ⟨H, m, s.heap, s.toks, rfl, hf, q⟩
theorem op_cat {a c : Addr} {xs ys : List Value} (ha : H a = some (.list xs)) (hc : H c = some (.list ys)) (hz : xs.length + ys.length ≤ 1000) (q : ∀ d, H d = none → d ≠ env.locals → Q (.ref d) (upd H d (.list (xs ++ ys))) m) : OpR w k env .Add (.ref a) (.ref c) Q H m := by
  intro u v e1 e2 A s b E hr hb hf
  rw [nv_ref e1, nv_ref e2]
  obtain ⟨dx, R, vs, n, e1, em⟩ := hf.at_ ha
  obtain ⟨dx', R', vs', n', e1', em'⟩ := hf.at_ hc
  have l1 := map_len em; have l2 := map_len em'
  obtain ⟨f1, f2, f3⟩ := hf.push (ob := { cls := .type "list", data := .seq (vs.toArray ++ vs'.toArray) }) (o := .list (xs ++ ys)) (fun C fs z => by cases z) fun dx => ⟨vs ++ vs', 0, by rw [Heap.get?_push_size _ rfl]; simp, by rw [List.map_append, em, em']⟩
  exact PySem.P.add_list (n := n) (n2 := n') e1 e1' ⟨_, m, _, _, rfl, f3, q _ f1 f2⟩ (by rw [List.size_toArray, List.size_toArray, l1, l2]; exact Nat.le_trans hz (by decide))
end
theorem wp_letGo {M : Model} {A : Around} {E : Value → Shared → Prop} {s : Shared} {Q : Unit → Shared → Prop} {keep : List Value} (h : Q () s) : ∀ l : List Value, wpAny M A (letGo l keep) Q E s
  | [] => wpAny_pure h
  | v :: r => by
    show wpAny M A (holding (r ++ keep) point >>= fun _ => letGo r keep) Q E s
    exact wpAny_bind (wpAny_holding (wpAny_point (wp_letGo h r)))
noncomputable def cutLo (xs : List Value) (lo : Option Int) : Nat := lo.elim 0 (clipAt xs.length)
noncomputable def cutHi (xs : List Value) (hi : Option Int) : Nat := hi.elim xs.length (clipAt xs.length)
noncomputable def cut (xs : List Value) (lo hi : Option Int) : List Value := (xs.drop (cutLo xs lo)).take (cutHi xs hi - cutLo xs lo)
theorem cut_map (vs : List Value) (lo hi : Option Int) : (slicePick vs.toArray lo hi none).toList.map nv = cut (vs.map nv) lo hi := by
  rw [slicePick_plain]
  unfold cut cutLo cutHi
  simp only [List.size_toArray, List.length_map]
  rw [List.map_take, List.map_drop]
theorem cut_upto (xs : List Value) (n : Nat) : cut xs none (some (n : Int)) = xs.take n := by
  unfold cut cutLo cutHi
  simp only [Option.elim, clipAt_nat, List.drop_zero, Nat.sub_zero]
  rcases Nat.le_total n xs.length with h | h
  · rw [Nat.min_eq_left h]
  · rw [Nat.min_eq_right h, List.take_of_length_le (Nat.le_refl _), List.take_of_length_le h]
theorem cut_from (xs : List Value) (n : Nat) : cut xs (some (n : Int)) none = xs.drop n := by
  unfold cut cutLo cutHi
  simp only [Option.elim, clipAt_nat]
  rcases Nat.le_total n xs.length with h | h
  · rw [Nat.min_eq_left h, List.take_of_length_le (by simp)]
  · rw [Nat.min_eq_right h, List.drop_of_length_le (Nat.le_refl _), List.drop_of_length_le h]; simp
inductive PT : Value → Option Int → Prop
  | none : PT .none .none
  | int (i : Int) : PT (.int i 0) (some i)
theorem PT.part {u v : Value} {lo : Option Int} (p : PT v lo) (e : nv u = v) : IsPart u lo := by
  cases p with
  | none => rw [nv_none e]; exact .none
  | int i => obtain ⟨t, rfl⟩ := nv_int e; exact .int i t
noncomputable def EP (w : World) (k : Nat) (env : Env) (x : Option Expr) (Q : Value → AH → Lc → Prop) : AH → Lc → Prop := AW w k env (evalPart x env) fun v => Q (nv v)
abbrev sliceObj (l u : Value) : Obj := { cls := .type "slice", data := .fields #[l, u, .none] }
section
variable {w : World} {k : Nat} {env : Env} {b : Heap} {H : AH} {m : Lc} {h : Heap} {A : Around} {s : Shared} {E : Value → Shared → Prop} {Q : Value → AH → Lc → Prop} {QF : Flow → AH → Lc → Prop} {QU : Unit → AH → Lc → Prop} {QB : Bool → AH → Lc → Prop}
theorem ep_none (q : Q .none H m) : EP w k env none Q H m := fun A s b E hr hb hf => by rw [evalPart_none]; exact wpAny_pure ⟨H, m, s.heap, s.toks, rfl, hf, q⟩
theorem ep_some {e : Expr} (h : EV w k env e Q H m) : EP w k env (some e) Q H m := fun A s b E hr hb hf => by rw [evalPart_some]; exact h A s b E hr hb hf
theorem ev_sliceobj {lo up : Option Expr} {p : Pos} (h1 : EP w k env lo (fun l H m => EP w k env up (fun u H m => ∀ c l' u', nv l' = l → nv u' = u → H c = none → c ≠ env.locals → Q (.ref c) (upd H c (.raw (sliceObj l' u'))) m) H m) H m) : EV w k env (.Slice lo up none p) Q H m := by
  intro A s b E hr hb hf
  refine wpAny_Slice (wpAny_mono (h1 A s b E hr hb hf) (fun l s2 x => ?_) fun _ _ x => x)
  obtain ⟨H2, m2, h2', t2, rfl, hf2, q⟩ := x
  refine wpAny_mono (q A _ b E hr hb hf2) (fun u s3 x => ?_) fun _ _ x => x
  obtain ⟨H3, m3, h3', t3, rfl, hf3, q⟩ := x
  rw [evalPart_none]
  obtain ⟨f1, f2, f3⟩ := hf3.push (ob := sliceObj l u) (o := .raw (sliceObj l u)) (fun C fs z => by cases z) fun dx => Heap.get?_push_size _ rfl
  exact wpAny_pure ⟨_, m3, _, _, rfl, f3, q _ l u rfl rfl f1 f2⟩
noncomputable def SI (w : World) (k : Nat) (env : Env) (o i v : Value) (Q : Unit → AH → Lc → Prop) (H : AH) (m : Lc) : Prop := ∀ u1 u2 u3, nv u1 = o → nv u2 = i → nv u3 = v → AW w k env (setItem u1 u2 u3) Q H m
theorem as_sub {o i : Expr} {p : Pos} {v : Value} (q : EV w k env o (fun ov H m => EV w k env i (fun iv H m => SI w k env ov iv v QU H m) H m) H m) : AS w k env (.Subscript o i p) v QU H m := by
  intro u e A s b E hr hb hf
  show wpAny (model PW w) A (holding [u] (eval o env) >>= fun ov => _) _ E s
  refine wpAny_bind (wpAny_holding (wpAny_mono (q A s b E hr hb hf) (fun ov s1 y => ?_) fun _ _ x => x))
  obtain ⟨H1, m1, h1', t1, rfl, hf1, q⟩ := y
  refine wpAny_bind (wpAny_holding (wpAny_mono (q A _ b E hr hb hf1) (fun iv s1 y => ?_) fun _ _ x => x))
  obtain ⟨H2, m2, h2', t2, rfl, hf2, q⟩ := y
  refine wpAny_bind (wpAny_standAt (wpAny_bind (wpAny_holding (wpAny_mono (q ov iv u rfl rfl e A _ b E hr hb hf2) (fun _ s2 y => ?_) fun _ _ x => x))))
  refine wpAny_release ?_
  exact y.over (Q := QU) rfl
theorem si_list {a : Addr} {xs : List Value} {j : Int} {v : Value} (ha : H a = some (.list xs)) (h0 : 0 ≤ j) (hj : j < 2 ^ 63) (hn : j < xs.length) (q : QU () (upd H a (.list (xs.set j.toNat v))) m) : SI w k env (.ref a) (.int j 0) v QU H m := by
  intro u1 u2 u3 e1 e2 e3 A s b E hr hb hf
  rw [nv_ref e1]; obtain ⟨t, rfl⟩ := nv_int e2
  obtain ⟨dx, R, vs, n, e, em⟩ := hf.at_ ha
  have hlen := map_len em
  refine ki_setAt e h0 hj (by rw [List.size_toArray, hlen]; exact hn) ⟨_, m, _, s.toks, rfl, hf.turn (o' := .list (xs.set j.toNat v)) ha (fun C fs z => by cases z) (fun c ob ne e => (Heap.get?_update_ne _ _ _ _ ne).trans e) (fun dx => ⟨vs.set j.toNat u3, n, ?_, ?_⟩), q⟩
  · rw [Heap.get?_update_self _ e (by simp [Obj.mapSeq, Obj.isFreed])]
    simp [Obj.mapSeq]
  · rw [List.map_set, em, e3]
theorem si_dict {a : Addr} {kvs : List (Int × Value)} {j : Int} {v : Value} (ha : H a = some (.dict kvs)) (hz : kvs.length ≤ 1000) (q : QU () (upd H a (.dict (dput kvs j v))) m) : SI w k env (.ref a) (.int j 0) v QU H m := by
  intro u1 u2 u3 e1 e2 e3 A s b E hr hb hf
  rw [nv_ref e1]; obtain ⟨t, rfl⟩ := nv_int e2
  obtain ⟨dx, R, ks, hd, em⟩ := hf.at_ ha
  have hlen : ks.length = kvs.length := by rw [← em, List.length_map]
  refine wpAny_setItem_pairs (intKind_is PW w j t) hd (fun h' hd' hs => ⟨_, m, h', _, rfl, hf.turn (o' := .dict (dput kvs j v)) ha (fun C fs z => by cases z) (fun c ob ne e => hs.extBut c ob ne e) (fun dx => ⟨_, hd', ?_⟩), q⟩) (by rw [hlen]; exact Nat.le_trans hz (by decide))
  rw [stored_map, em, e3]
theorem si_slice {a sl c : Addr} {xs ys : List Value} {l u : Value} {lo hi : Option Int} (ha : H a = some (.list xs)) (hs : H sl = some (.raw (sliceObj l u))) (hc : H c = some (.list ys)) (hac : a ≠ c) (pl : PT (nv l) lo) (pu : PT (nv u) hi) (hz : xs.length + ys.length ≤ 1000)
    (q : QU () (upd H a (.list (xs.take (cutLo xs lo) ++ ys ++ xs.drop (max (cutLo xs lo) (cutHi xs hi))))) m) : SI w k env (.ref a) (.ref sl) (.ref c) QU H m := by
  intro u1 u2 u3 e1 e2 e3 A s b E hr hb hf
  rw [nv_ref e1, nv_ref e2, nv_ref e3]
  obtain ⟨dx, R, vs, n, e, em⟩ := hf.at_ ha
  obtain ⟨_, _, es⟩ := hf.at_ hs
  obtain ⟨_, _, ws, n2, ec, ecm⟩ := hf.at_ hc
  have es' : s.heap.get? sl = some (sliceObj l u) := es
  have hlen := map_len em
  have hlen2 := map_len ecm
  have hl : s.heap.IsList a vs.toArray := PySem.IsL.isList (n := n) e
  have hlc : s.heap.IsList c ws.toArray := PySem.IsL.isList (n := n2) ec
  have hTs : s.TypeIs (.ref sl) "slice" := ⟨_, es', rfl⟩
  unfold setItem
  try with_reducible refine wpAny_holding ?_
  first | refine wpAny_bind (wpAny_pure ?_) | skip
  refine wpAny_bind (wpAny_sequenceKey hl.typeIs (by decide) ?_)
  refine wpAny_bind (wpAny_callSpecial?_slot (name := Str.ofString "__setitem__") hl.typeIs slot_list_setitem
    (wpAny_call_entry slot_list_setitem hl.typeIs entry_list_setitem ?_ (args_list_setitem _ _ _)))
  show wpAny _ _ (Builtin.List.listSubscript? (.ref sl) >>= _) _ _ s
  refine wpAny_bind ?_
  unfold Builtin.List.listSubscript?
  refine wpAny_bind (wpAny_specialOf hTs slice_no_index ?_)
  simp only [Option.isNone_none, if_true]
  refine wpAny_pure ?_
  show wpAny _ _ (typeOf (.ref sl) >>= _) _ _ s
  refine wpAny_bind (wpAny_typeOf hTs ?_)
  rw [if_neg (by decide)]
  rw [listSliceParts_eq]
  have hstep : ¬ ((rawPart none == rawInt 0) = true) := Bool.false_ne_true
  refine wpAny_bind (wpAny_bind (wpAny_field es' rfl (x := .none) rfl (wpAny_bind (wpAny_listPart (k := none) .none ?_))))
  rw [if_neg hstep]
  refine wpAny_bind (wpAny_field es' rfl (x := l) rfl (wpAny_bind (wpAny_listPart (pl.part rfl) ?_)))
  refine wpAny_bind (wpAny_field es' rfl (x := u) rfl (wpAny_bind (wpAny_listPart (pu.part rfl) (wpAny_pure ?_))))
  dsimp only
  have same : Builtin.List.listSameRef (.ref a) (.ref c) = false := by
    show (a == c) = false
    rw [beq_eq_false_iff_ne]; exact hac
  rw [same]
  simp only [Bool.false_eq_true, if_false]
  refine wpAny_bind ?_
  refine wpAny_bind (wpAny_typeOf hlc.typeIs ?_)
  rw [if_pos (by decide)]
  unfold Builtin.List.listItems
  refine wpAny_bind (wpAny_seqItems ec rfl (wpAny_pure ?_))
  refine wpAny_bind (wpAny_bind (wpAny_seqItems e rfl (wpAny_pure ?_)))
  refine wpAny_bind (wpAny_of_eq (sliceIndices_raw lo hi none _ (by simp)) ?_)
  rw [sliceBounds_plain]
  dsimp only
  rw [if_pos (by decide)]
  refine wpAny_bind (wpAny_rule ?_)
  have hsz : ¬ (Builtin.List.listTooLong (vs.toArray.size + ws.toArray.size) = true) := by
    unfold Builtin.List.listTooLong
    rw [List.size_toArray, List.size_toArray, hlen, hlen2, decide_eq_true_iff]
    have : 1000 ≤ sizeLine := by decide
    omega
  rw [if_neg hsz]
  unfold Builtin.List.listUpdate
  have em1 : cutLo xs lo = lo.elim 0 (clipAt vs.toArray.size) := by unfold cutLo; rw [List.size_toArray, hlen]
  have em2 : cutHi xs hi = hi.elim vs.toArray.size (clipAt vs.toArray.size) := by unfold cutHi; rw [List.size_toArray, hlen]
  rw [← em1, ← em2]
  have emx : (max ((cutLo xs lo : Nat) : Int) ((cutHi xs hi : Nat) : Int)).toNat = max (cutLo xs lo) (cutHi xs hi) := by omega
  rw [emx, Int.toNat_natCast]
  refine wpAny_bind (wpAny_updateSeq e rfl (wpAny_bind (wp_letGo ?_ _)))
  refine wpAny_pure ⟨.none, rfl, wpAny_pure ⟨_, m, _, s.toks, rfl, hf.turn (o' := .list (xs.take (cutLo xs lo) ++ ys ++ xs.drop (max (cutLo xs lo) (cutHi xs hi)))) ha (fun C fs z => by cases z) (fun c ob ne e => (Heap.get?_update_ne _ _ _ _ ne).trans e) (fun dx => ⟨vs.take (cutLo xs lo) ++ ws ++ vs.drop (max (cutLo xs lo) (cutHi xs hi)), (if (vs.take (cutLo xs lo) ++ ws ++ vs.drop (max (cutLo xs lo) (cutHi xs hi))).length = vs.length then n else n + 1), ?_, ?_⟩), q⟩⟩
  · rw [Heap.get?_update_self _ e (by simp [Obj.mapSeq, Obj.isFreed])]
    simp [Obj.mapSeq]
    exact List.take_of_length_le (by simp)
  · rw [List.map_append, List.map_append, List.map_take, List.map_drop, em, ecm]
theorem gm_append {a : Addr} {xs : List Value} {pl : Sem Bool} {Q' : Value × List Value → AH → Lc → Prop} (ha : H a = some (.list xs)) (q : Q' (.builtin "list.append", [.ref a]) H m) : AW w k env (getMethod (.ref a) "append" pl) Q' H m := by
  intro A s b E hr hb hf
  obtain ⟨dx, R, vs, n, e, em⟩ := hf.at_ ha
  exact Calls.getMethod_list_append e rfl rfl ⟨H, m, s.heap, s.toks, rfl, hf, q⟩
theorem cr_append {a : Addr} {xs : List Value} {v : Value} (ha : H a = some (.list xs)) (hz : xs.length ≤ 1000) (q : Q .none (upd H a (.list (xs ++ [v]))) m) : CR w k env (.builtin "list.append") [.ref a, v] Q H m := by
  intro us e A s b E hr hb hf
  obtain ⟨u1, r, rfl, e1, e⟩ := map_cons e
  obtain ⟨u2, rfl, e2⟩ := map_one e
  rw [nv_ref e1]
  obtain ⟨dx, R, vs, n, e, em⟩ := hf.at_ ha
  have hlen := map_len em
  exact append_at e (fun h' hs ho => ⟨_, m, h', s.toks, rfl, hf.turn (o' := .list (xs ++ [v])) ha (fun C fs z => by cases z) (fun c ob ne e => hs.extBut c ob ne e) (fun dx => ⟨vs ++ [u2], n + 1, by rw [ho]; simp, by rw [List.map_append, em, List.map_cons, e2]; rfl⟩), q⟩) (by rw [List.size_toArray, hlen]; exact Nat.le_trans hz (by decide))
theorem gm_get {a : Addr} {kvs : List (Int × Value)} {pl : Sem Bool} {Q' : Value × List Value → AH → Lc → Prop} (ha : H a = some (.dict kvs)) (q : Q' (.builtin "dict.get", [.ref a]) H m) : AW w k env (getMethod (.ref a) "get" pl) Q' H m := by
  intro A s b E hr hb hf
  obtain ⟨dx, R, ks, hd, em⟩ := hf.at_ ha
  exact getMethod_builtin hd.typeIs PySem.F.plainAttrs_dict PySem.F.slot_dict_get PySem.F.type_dict_get hd.mapOf.noDict ⟨H, m, s.heap, s.toks, rfl, hf, q⟩
theorem cr_get2 {a : Addr} {kvs : List (Int × Value)} {j : Int} {d : Value} (ha : H a = some (.dict kvs)) (q : Q ((dk kvs j).getD d) H m) : CR w k env (.builtin "dict.get") [.ref a, .int j 0, d] Q H m := by
  intro us e A s b E hr hb hf
  obtain ⟨u1, r, rfl, e1, e⟩ := map_cons e
  obtain ⟨u2, r, rfl, e2, e⟩ := map_cons e
  obtain ⟨u3, rfl, e3⟩ := map_one e
  rw [nv_ref e1]; obtain ⟨t, rfl⟩ := nv_int e2
  obtain ⟨dx, R, ks, hd, em⟩ := hf.at_ ha
  refine call_meetsIn PySem.F.slot_dict_get hd.typeIs PySem.F.entry_dict_get (PySem.F.args_dict_get_3 _ _ _) (meets_dict_get_default (intKind PW w) a (intKind_is PW w j t) (hf.nosys hb ha) u3) ⟨_, hd.mapOf, H, m, s.heap, _, rfl, hf, ?_⟩
  rw [← em, ← dk_map] at q
  cases h : valueAt ks j with
  | none => rw [h] at q; rw [← e3] at q; exact q
  | some v => rw [h] at q; exact q
abbrev rngObj (a b : Int) (t u v : Tok) : Obj := { cls := .type "range", data := .fields #[.int a t, .int b u, .int 1 v] }
theorem cr_range1 {n : Int} (q : ∀ c t u v, H c = none → c ≠ env.locals → Q (.ref c) (upd H c (.raw (rngObj 0 n t u v))) m) : CR w k env (.type "range") [.int n 0] Q H m := by
  intro us e A s b E hr hb hf
  obtain ⟨u1, rfl, e1⟩ := map_one e
  obtain ⟨t, rfl⟩ := nv_int e1
  obtain ⟨f1, f2, f3⟩ := hf.push (ob := rngObj 0 n s.toks t (s.toks + 1)) (o := .raw (rngObj 0 n s.toks t (s.toks + 1))) (fun C fs z => by cases z) fun dx => Heap.get?_push_size _ rfl
  exact call_range_1 ⟨_, m, _, _, rfl, f3, q _ _ _ _ f1 f2⟩
theorem cr_tuple {a : Addr} {xs : List Value} (ha : H a = some (.list xs)) (hz : xs.length ≤ 1000) (q : ∀ c, H c = none → c ≠ env.locals → Q (.ref c) (upd H c (.tup xs)) m) : CR w k env (.type "tuple") [.ref a] Q H m := by
  intro us e A s b E hr hb hf
  obtain ⟨u1, rfl, e1⟩ := map_one e
  rw [nv_ref e1]
  obtain ⟨dx, R, vs, n, e, em⟩ := hf.at_ ha
  have hlen := map_len em
  refine call_tuple_list (PySem.IsL.isList (n := n) e) (fun h' hk => ?_) (by rw [List.size_toArray, hlen]; exact Nat.le_trans hz (by decide))
  obtain ⟨f1, f2, f3⟩ := (hf.grow hk).push (ob := { cls := .type "tuple", data := .seq vs.toArray }) (o := .tup xs) (fun C fs z => by cases z) fun dx => ⟨vs, IsTup.new _ _, em⟩
  exact ⟨_, m, _, s.toks, rfl, f3, q _ f1 f2⟩
theorem cr_list {a : Addr} {xs : List Value} (ha : H a = some (.tup xs)) (hz : xs.length ≤ 1000) (q : ∀ c, H c = none → c ≠ env.locals → Q (.ref c) (upd H c (.list xs)) m) : CR w k env (.type "list") [.ref a] Q H m := by
  intro us e A s b E hr hb hf
  obtain ⟨u1, rfl, e1⟩ := map_one e
  rw [nv_ref e1]
  obtain ⟨dx, R, vs, ⟨o, ho, hc, n, hd⟩, em⟩ := hf.at_ ha
  have hlen := map_len em
  refine call_list_seq a (.inr rfl) ho hc hd (fun h' c' hk hn => ?_) (by rw [List.size_toArray, hlen]; exact Nat.le_trans hz (by decide))
  obtain ⟨h0, dx, R⟩ := hf
  have hs := R.fresh
  have ne : s.heap.objs.size ≠ env.locals := fun z => by rw [z, upd_self] at hs; cases hs
  have hb0 := R.bfresh
  have hd0 : ∀ a' C fs, upd H env.locals (.ns m) a' = some (.inst C fs) → dx a' ≠ s.heap.objs.size := fun a' C fs e z => absurd (z ▸ R.dlt e) (Nat.lt_irrefl _)
  have R2 := (R.grow hk).put (a := s.heap.objs.size) (o := .list xs) (fun C fs z => by cases z) hd0 hb0 ⟨vs, c', hn, em⟩
  rw [upd_ne _ _ ne] at hs
  refine ⟨_, m, h', s.toks, rfl, ⟨?_, dx, ?_⟩, q _ hs ne⟩
  · rw [upd_ne _ _ (Ne.symm ne)]; exact h0
  · rw [upd_comm _ _ _ ne]; exact R2
theorem cr_dict {a : Addr} {kvs : List (Int × Value)} (ha : H a = some (.dict kvs)) (hz : kvs.length ≤ 1000) (q : ∀ c, H c = none → c ≠ env.locals → Q (.ref c) (upd H c (.dict kvs)) m) : CR w k env (.type "dict") [.ref a] Q H m := by
  intro us e A s b E hr hb hf
  obtain ⟨u1, rfl, e1⟩ := map_one e
  rw [nv_ref e1]
  obtain ⟨dx, R, ks, hd, em⟩ := hf.at_ ha
  have hlen : ks.length = kvs.length := by rw [← em, List.length_map]
  refine kt_call_dict (hf.nosys hb ha) hd (by rw [hlen]; exact Nat.le_trans hz (by decide)) fun h' hd' hs => ?_
  have hk : ∀ c o, s.heap.get? c = some o → h'.get? c = some o := fun c o e => hs.extBut c o (Nat.ne_of_lt (Heap.lt_size e)) (Heap.get?_push_of_some _ e)
  obtain ⟨h0, dx, R⟩ := hf
  have hs := R.fresh
  have ne : s.heap.objs.size ≠ env.locals := fun z => by rw [z, upd_self] at hs; cases hs
  have hb0 := R.bfresh
  have hd0 : ∀ a' C fs, upd H env.locals (.ns m) a' = some (.inst C fs) → dx a' ≠ s.heap.objs.size := fun a' C fs e z => absurd (z ▸ R.dlt e) (Nat.lt_irrefl _)
  have R2 := (R.grow hk).put (a := s.heap.objs.size) (o := .dict kvs) (fun C fs z => by cases z) hd0 hb0 ⟨ks, hd', em⟩
  rw [upd_ne _ _ ne] at hs
  refine ⟨_, m, h', s.toks, rfl, ⟨?_, dx, ?_⟩, q _ hs ne⟩
  · rw [upd_ne _ _ (Ne.symm ne)]; exact h0
  · rw [upd_comm _ _ _ ne]; exact R2
end
theorem all_news (h : Heap) (L : Addr) : ∃ news : List (Addr × Obj), News ({} : Heap) L h news ∧ ∀ a o, a ≠ L → h.get? a = some o → (a, o) ∈ news := by
  let f (a : Addr) : Option (Addr × Obj) := if a = L then none else (h.get? a).map fun o => (a, o)
  refine ⟨(List.range h.objs.size).filterMap f, fun p hp => ?_, fun a o n e => ?_⟩
  · obtain ⟨a, ha, q⟩ := List.mem_filterMap.mp hp
    by_cases z : a = L
    · simp [f, z] at q
    · simp only [f, z, if_false] at q
      obtain ⟨o, ho, rfl⟩ := Option.map_eq_some_iff.mp q
      exact ⟨ho, z, none_get _⟩
  · exact List.mem_filterMap.mpr ⟨a, List.mem_range.mpr (Heap.lt_size e), by simp [f, n, e]⟩
section
variable {w : World} {k : Nat} {env : Env} {b : Heap} {H : AH} {m : Lc} {h : Heap} {A : Around} {s : Shared} {E : Value → Shared → Prop} {Q : Value → AH → Lc → Prop} {QF : Flow → AH → Lc → Prop} {QU : Unit → AH → Lc → Prop} {QB : Bool → AH → Lc → Prop}
theorem Fl.newAt {h' : Heap} {mr : Str → Option Value} {d : Addr} {o : O} (F : Fl w b env H m h) (hn : h.Ns env.locals mr) (hn' : h'.Ns env.locals mr) (hk : ∀ a ob, a ≠ env.locals → h.get? a = some ob → h'.get? a = some ob) (hd : h.get? d = none) (hni : ∀ C fs, o ≠ .inst C fs) (ho : ∀ dx, OAt w h' dx d o) :
    H d = none ∧ d ≠ env.locals ∧ Fl w b env (upd H d o) m h' := by
  have F0 := F
  obtain ⟨mr0, hn0, em0⟩ := F.ns
  obtain ⟨h0, dx, R⟩ := F
  have ne : d ≠ env.locals := by
    rintro rfl
    obtain ⟨ob, _, _, e, _⟩ := hn
    rw [hd] at e; cases e
  have Hd : H d = none := by
    cases q : H d with
    | none => rfl
    | some o' =>
      obtain ⟨ob, e⟩ := (R.cell d o' (by rw [upd_ne _ _ ne]; exact q)).some
      rw [hd] at e; cases e
  have em : ∀ x, (mr x).map nv = lk m x := by
    intro x
    have : mr0 = mr := by
      funext y
      obtain ⟨ob, es, ep, e, r1, r2, r3⟩ := hn
      obtain ⟨ob', es', ep', e', r1', r2', r3'⟩ := hn0
      rw [e] at e'; cases e'
      rw [r1] at r1'; cases r1'
      rw [← r3 y, ← r3' y]
    rw [← this]; exact em0 x
  have F1 := F0.set hk hn' em
  obtain ⟨_, dx1, R1⟩ := F1
  refine ⟨Hd, ne, ?_, ?_⟩
  · rw [upd_ne _ _ (Ne.symm ne)]; exact h0
  · -- the dicts of instances are older
    have R1' : Rd w b (upd H env.locals (.ns m)) h' dx := by
      have := R.turn (o' := .ns m) (upd_self ..) (fun C fs z => by cases z) hk ⟨mr, hn', em⟩
      rwa [upd_twice] at this
    refine ⟨dx, ?_⟩
    rw [upd_comm _ _ _ ne]
    refine R1'.put hni (fun a C fs e z => ?_) ?_ (ho dx)
    · obtain ⟨es, n, _, q, _⟩ := R.cell a _ e
      rw [z, hd] at q; cases q
    · cases q : b.get? d with
      | none => rfl
      | some o' => have := R.keep _ _ q; rw [hd] at this; cases this
theorem cr_sorted {a : Addr} {kvs : List (Int × Value)} (ha : H a = some (.dict kvs)) (hz : kvs.length < 60) (q : ∀ c ns, H c = none → c ≠ env.locals → ns.Perm (kvs.map (·.1)) → ns.Pairwise (· ≤ ·) → Q (.ref c) (upd H c (.list (intl ns))) m) : CR w k env (.builtin "sorted") [.ref a] Q H m := by
  intro us e A s b E hr hb hf
  obtain ⟨u1, rfl, e1⟩ := map_one e
  rw [nv_ref e1]
  obtain ⟨dx, R, ks, hd, em⟩ := hf.at_ ha
  have hlen : ks.length = kvs.length := by rw [← em, List.length_map]
  obtain ⟨ep, hat⟩ := hd.dictAt
  obtain ⟨mr, hn, emr⟩ := hf.ns
  obtain ⟨news, N, all⟩ := all_news s.heap env.locals
  have F : Fr ({} : Heap) env.locals s.heap mr := ⟨hn, (fun c o e => by rw [none_get] at e; cases e), Nat.zero_le _⟩
  refine kdu_sorted (kdl_dict (knd := intKind PW w) (kvs := ks) (ep := ep) (hf.nosys hb ha)) hr.handled F N hat (by rw [hlen]; exact Nat.le_of_lt (Nat.lt_of_lt_of_le hz (by decide))) fun D h' tk vs F' N' l1 hl hv => ?_
  have hints : IntsAre vs (ks.map (·.1)) := by
    refine ints_are ?_
    apply List.ext_getElem?
    intro j
    rw [List.getElem?_map]
    unfold intl
    rw [List.map_map, List.getElem?_map]
    cases hj : vs[j]? with
    | none =>
      have : ks[j]? = none := by
        rw [List.getElem?_eq_none_iff] at hj ⊢
        rw [hl] at hj; exact hj
      rw [this]; rfl
    | some v =>
      obtain ⟨k', x, e1, e2⟩ := hv j v hj
      obtain ⟨t, rfl⟩ := Value.isInt_shape e2
      rw [e1]; rfl
  have hD0 : s.heap.get? D = none := by
    cases q : s.heap.get? D with
    | none => rfl
    | some o =>
      exfalso
      by_cases z : D = env.locals
      · exact (N' (D, _) (.head _)).2.1 z
      · have := l1 _ (all D o z q)
        exact Nat.lt_irrefl _ this
  refine ksk_lsort (its := vs.toArray) (n := 0) F' N' (news' := fun o => (D, o) :: news) (fun o => .head fun p hp => Nat.ne_of_lt (l1 p hp)) rfl hints (by rw [List.length_map, hlen]; exact Nat.lt_trans hz (by decide)) fun vs' ns' c h2 F2 N2 hi2 _ hp hP _ => ?_
  have hk2 : ∀ a ob, a ≠ env.locals → s.heap.get? a = some ob → h2.get? a = some ob := fun a ob n e => (N2 (a, ob) (.tail _ (all a ob n e))).1
  obtain ⟨f1, f2, f3⟩ := hf.newAt (o := .list (intl ns')) hn F2.ns hk2 hD0 (fun C fs z => by cases z) fun dx => ⟨vs', c, (N2 (D, _) (.head _)).1, are_ints hi2⟩
  refine ⟨_, m, h2, tk, rfl, f3, q _ _ f1 f2 ?_ hP⟩
  have : kvs.map (·.1) = ks.map (·.1) := by rw [← em, List.map_map]; rfl
  rw [this]; exact hp
noncomputable def DP (w : World) (k : Nat) (env : Env) (pos : Pos) : List (Expr × Expr) → (List (Value × Value) → AH → Lc → Prop) → AH → Lc → Prop
  | [], Q, H, m => Q [] H m
  | (x, y) :: r, Q, H, m => EV w k env x (fun a H m => EV w k env y (fun c H m => DP w k env pos r (fun l => Q ((a, c) :: l)) H m) H m) H m
noncomputable def pairTrees (env : Env) (pos : Pos) (l : List (Expr × Expr)) : List (Sem Value × Sem Value) := l.map fun p => (eval p.1 env, do let x ← eval p.2 env; standAt pos; pure x)
theorem dp_run {pos : Pos} : ∀ (l : List (Expr × Expr)) {Q : List (Value × Value) → AH → Lc → Prop} {H m}, DP w k env pos l Q H m → AW w k env (evalPairs (pairTrees env pos l)) (fun vs => Q (vs.map fun p => (nv p.1, nv p.2))) H m
  | [], Q, H, m, h => fun A s b E hr hb hf => evalPairs_nil ⟨H, m, s.heap, s.toks, rfl, hf, h⟩
  | (x, y) :: r, Q, H, m, h => by
    intro A s b E hr hb hf
    refine evalPairs_cons (wpAny_mono (h A s b E hr hb hf) (fun u s1 z => ?_) fun _ _ x => x)
    obtain ⟨H1, m1, h1', t1, rfl, hf1, q⟩ := z
    refine wpAny_bind (wpAny_mono (q A _ b E hr hb hf1) (fun v s1 z => ?_) fun _ _ x => x)
    obtain ⟨H2, m2, h2', t2, rfl, hf2, q⟩ := z
    refine wpAny_bind (wpAny_standAt (wpAny_pure ?_))
    refine wpAny_mono (dp_run r q A _ b E hr hb hf2) (fun vs s1 z => ?_) fun _ _ x => x
    obtain ⟨H3, m3, h3', t3, rfl, hf3, q⟩ := z
    exact ⟨H3, m3, h3', t3, rfl, hf3, q⟩
theorem ev_dict0 {pos : Pos} (q : ∀ c, H c = none → c ≠ env.locals → Q (.ref c) (upd H c (.dict [])) m) : EV w k env (.Dict [] [] pos) Q H m := by
  intro A s b E hr hb hf
  obtain ⟨f1, f2, f3⟩ := hf.push (ob := { cls := .type "dict", data := .dict #[] }) (o := .dict []) (fun C fs z => by cases z) fun dx => ⟨[], Heap.DictOf.new _, rfl⟩
  exact wpAny_Dict_empty ⟨_, m, _, s.toks, rfl, f3, q _ f1 f2⟩
theorem ev_dict {keys : List (Option Expr)} {vals : List Expr} {pos : Pos} {l : List (Expr × Expr)} (hshape : (evalEachOpt keys env).zip ((evalEach vals env).map fun v => do let x ← v; standAt pos; pure x) = (pairTrees env pos l).map fun p => (some p.1, p.2)) (h0 : l ≠ []) (hlen : l.length ≤ 15)
    (h : ∀ c, H c = none → c ≠ env.locals → DP w k env pos l (fun ps H m => ∃ kvs : List (Int × Value), ps = kvs.map (fun p => (.int p.1 0, p.2)) ∧ (kvs.map (·.1)).Nodup ∧ H c = some (.dict []) ∧ Q (.ref c) (upd H c (.dict kvs)) m) (upd H c (.dict [])) m) : EV w k env (.Dict keys vals pos) Q H m := by
  intro A s b E hr hb hf
  obtain ⟨f1, f2, f3⟩ := hf.push (ob := { cls := .type "dict", data := .dict #[] }) (o := .dict []) (fun C fs z => by cases z) fun dx => ⟨[], Heap.DictOf.new _, rfl⟩
  refine wpAny_Dict_pairs (knd := intKind PW w) hshape (by unfold pairTrees; simpa using h0) (by unfold pairTrees; simpa using hlen) ?_
  refine wpAny_mono (dp_run l (h _ f1 f2) A _ b E hr hb f3) (fun vs s1 z => ?_) fun _ _ x => x
  obtain ⟨H3, m3, h3', t3, rfl, hf3, kvs, ek, nd, hc, q⟩ := z
  have key : ∀ (vs : List (Value × Value)) (kvs : List (Int × Value)), (vs.map fun p => (nv p.1, nv p.2)) = kvs.map (fun p => (.int p.1 0, p.2)) → ∃ ks : List (Int × Value), Carries (intKind PW w) vs ks ∧ ks.map (·.1) = kvs.map (·.1) ∧ ks.map (fun p => (p.1, nv p.2)) = kvs := by
    intro vs
    induction vs with
    | nil => intro kvs e; cases kvs with | nil => exact ⟨[], trivial, rfl, rfl⟩ | cons _ _ => cases e
    | cons p r ih =>
      intro kvs e
      cases kvs with
      | nil => cases e
      | cons p' r' =>
        obtain ⟨e1, e2⟩ := List.cons.inj e
        obtain ⟨ks, c1, c2, c3⟩ := ih r' e2
        have ea := (Prod.mk.inj e1).1
        have eb := (Prod.mk.inj e1).2
        obtain ⟨t, ht⟩ := nv_int ea
        refine ⟨(p'.1, p.2) :: ks, ⟨?_, rfl, c1⟩, by rw [List.map_cons, List.map_cons, c2], by rw [List.map_cons, c3, eb]⟩
        rw [ht]; exact intKind_is PW w _ t
  obtain ⟨ks, c1, c2, c3⟩ := key vs kvs ek
  obtain ⟨dx, R, ks0, hd, em0⟩ := hf3.at_ hc
  have : ks0 = [] := by cases ks0 with | nil => rfl | cons _ _ => cases em0
  subst this
  refine ⟨ks, c1, hd, fun h' hd' hs => ⟨_, m3, h', _, rfl, hf3.turn (o' := .dict kvs) hc (fun C fs z => by cases z) (fun c ob ne e => hs.extBut c ob ne e) (fun dx => ⟨ks, ?_, c3⟩), q⟩⟩
  rw [merged_nil_of_nodup _ (by rw [c2]; exact nd)] at hd'
  exact hd'
noncomputable def eqPairs (H : AH) : List Value → List Value → Prop
  | [], [] => True
  | .ref a :: xs, .ref c :: ys => (∃ i j : Int, H a = some (.tup [.int i 0, .int j 0]) ∧ H c = some (.tup [.int i 0, .int j 0])) ∧ eqPairs H xs ys
  | _, _ => False
theorem eqPairs.len {H : AH} : ∀ {xs ys : List Value}, eqPairs H xs ys → xs.length = ys.length
  | [], [], _ => rfl
  | .ref _ :: xs, .ref _ :: ys, h => congrArg (· + 1) h.2.len
theorem eqPairs.at {H : AH} : ∀ {xs ys : List Value}, eqPairs H xs ys → ∀ j (h1 : j < xs.length) (h2 : j < ys.length), ∃ a c, xs[j] = .ref a ∧ ys[j] = .ref c ∧ ∃ i j : Int, H a = some (.tup [.int i 0, .int j 0]) ∧ H c = some (.tup [.int i 0, .int j 0])
  | .ref a :: xs, .ref c :: ys, h, 0, _, _ => ⟨a, c, rfl, rfl, h.1⟩
  | .ref _ :: xs, .ref _ :: ys, h, j + 1, h1, h2 => h.2.at j (Nat.lt_of_succ_lt_succ h1) (Nat.lt_of_succ_lt_succ h2)
theorem cm_eq_pairs {a c : Addr} {xs ys : List Value} (ha : H a = some (.list xs)) (hc : H c = some (.list ys)) (hp : eqPairs H xs ys) (hk : 1 ≤ k) (q : Q (.bool true) H m) : CmR w k env .Eq (.ref a) (.ref c) Q H m := by
  intro u v e1 e2 A s b E hr hb hf
  rw [nv_ref e1, nv_ref e2]
  obtain ⟨dx, R, vs, n, e1, em⟩ := hf.at_ ha
  obtain ⟨dx', R', vs', n', e1', em'⟩ := hf.at_ hc
  have hu := hr.units
  have hl1 := map_len em
  have hl2 := map_len em'
  have hl := hp.len
  refine PySem.SeqAt.eq_listAt (e := fun _ => true) (PySem.IsL.isList (n := n) e1) (PySem.IsL.isList (n := n') e1') (by rw [List.size_toArray, List.size_toArray, hl1, hl2, hl]) (by omega) (fun j h1 h2 => ?_) ?_
  · rw [List.size_toArray] at h1 h2
    obtain ⟨x, y, ex, ey, i, l, hx, hy⟩ := hp.at j (hl1 ▸ h1) (hl2 ▸ h2)
    have vx : vs[j] = .ref x := by
      refine nv_ref ?_
      rw [← ex]
      have : (vs.map nv)[j]? = xs[j]? := by rw [em]
      rw [List.getElem?_map, List.getElem?_eq_getElem h1, List.getElem?_eq_getElem (hl1 ▸ h1)] at this
      exact Option.some.inj this
    have vy : vs'[j] = .ref y := by
      refine nv_ref ?_
      rw [← ey]
      have : (vs'.map nv)[j]? = ys[j]? := by rw [em']
      rw [List.getElem?_map, List.getElem?_eq_getElem h2, List.getElem?_eq_getElem (hl2 ▸ h2)] at this
      exact Option.some.inj this
    show PySem.SeqAt.EqAt A.in1 s vs.toArray[j] vs'.toArray[j] true
    have tx : vs.toArray[j] = .ref x := by simpa using vx
    have ty : vs'.toArray[j] = .ref y := by simpa using vy
    rw [tx, ty]
    by_cases hxy : x = y
    · rw [hxy]; exact PySem.SeqAt.EqAt.same _
    · obtain ⟨_, _, us, ht, emx⟩ := hf.at_ hx
      obtain ⟨_, _, us', ht', emx'⟩ := hf.at_ hy
      obtain ⟨p1, r, rfl, f1, e⟩ := map_cons emx
      obtain ⟨p2, rfl, f2⟩ := map_one e
      obtain ⟨q1, r, rfl, g1, e⟩ := map_cons emx'
      obtain ⟨q2, rfl, g2⟩ := map_one e
      obtain ⟨t1, rfl⟩ := nv_int f1
      obtain ⟨t2, rfl⟩ := nv_int f2
      obtain ⟨t3, rfl⟩ := nv_int g1
      obtain ⟨t4, rfl⟩ := nv_int g2
      have w1 : (A.in1).units < cLine := by show A.units + 1 < _; omega
      refine PySem.SeqAt.EqAt.of_refs hxy ?_
      have hh := PySem.SeqAt.RcAt.tuples (A := A.in1) (s := s) (e := fun _ => true) ht ht' w1 (fun j h1 h2 => ?_)
      · have e2 : ((List.range 2).all fun _ => true) = true := by decide
        simpa [e2] using hh
      · have h3 : j < 2 := by simpa using h1
        match j, h3 with
        | 0, _ => have := PySem.SeqAt.EqAt.int_int (A := A.in1.in1) (s := s) i t1 i t3; simpa using this
        | 1, _ => have := PySem.SeqAt.EqAt.int_int (A := A.in1.in1) (s := s) l t2 l t4; simpa using this
  · have : (List.range vs.toArray.size).all (fun _ => true) = true := by simp
    rw [this]
    exact ⟨H, m, s.heap, s.toks, rfl, hf, q⟩
end
inductive It where
  | list (a : Addr)
  | tup (a : Addr)
  | rng (lo : Int) (n : Nat)
noncomputable def ItAt (it : It) (i : Nat) (o : Obj) : Prop := match it with
  | .list a => o.cls = .type "list_iterator" ∧ o.data = .fields #[.ref a, .int i 0]
  | .tup a => o.cls = .type "tuple_iterator" ∧ o.data = .fields #[.ref a, .int i 0]
  | .rng lo n => o = { cls := .type "range_iterator", dict := none, data := .fields #[rawInt (lo + i), rawInt ((n : Int) - i), rawInt 1], slots := #[] }
inductive ItOf (H : AH) : Value → It → Prop
  | list {a : Addr} {xs : List Value} (e : H a = some (.list xs)) : ItOf H (.ref a) (.list a)
  | tup {a : Addr} {xs : List Value} (e : H a = some (.tup xs)) : ItOf H (.ref a) (.tup a)
  | rng {a : Addr} {lo hi : Int} {t u v : Tok} {n : Nat} (e : H a = some (.raw (rngObj lo hi t u v))) (h1 : 0 ≤ lo) (h2 : hi ≤ 1000) (h3 : n = (hi - lo).toNat) (h4 : lo ≤ 1000) (h5 : -1000 ≤ hi) : ItOf H (.ref a) (.rng lo n)
inductive ItV (H : AH) : It → Nat → Option Value → Prop
  | list {a : Addr} {xs : List Value} {i : Nat} {r : Option Value} (e : H a = some (.list xs)) (hr : xs[i]? = r) : ItV H (.list a) i r
  | tup {a : Addr} {xs : List Value} {i : Nat} {r : Option Value} (e : H a = some (.tup xs)) (hr : xs[i]? = r) : ItV H (.tup a) i r
  | rng {lo : Int} {n i : Nat} (h : i < n) : ItV H (.rng lo n) i (some (.int (lo + i) 0))
  | rngEnd {lo : Int} {n i : Nat} (h : i = n) : ItV H (.rng lo n) i none
noncomputable def LS (w : World) (b : Heap) (env : Env) (X : List (Addr × Obj)) (H : AH) (m : Lc) (h : Heap) : Prop :=
  H env.locals = none ∧ ∃ dx, Rd w b (upd H env.locals (.ns m)) h dx ∧ ∀ p ∈ X, h.get? p.1 = some p.2 ∧ b.get? p.1 = none ∧ ¬ ownd (upd H env.locals (.ns m)) dx p.1
section
variable {w : World} {k : Nat} {env : Env} {b : Heap} {H : AH} {m : Lc} {h : Heap} {A : Around} {s : Shared} {E : Value → Shared → Prop} {Q : Value → AH → Lc → Prop} {QF : Flow → AH → Lc → Prop} {QU : Unit → AH → Lc → Prop} {QB : Bool → AH → Lc → Prop} {X Y : List (Addr × Obj)}
theorem LS.fl (L : LS w b env X H m h) : Fl w b env H m h := let ⟨h0, dx, R, _⟩ := L; ⟨h0, dx, R⟩
theorem LS.of (F : Fl w b env H m h) : LS w b env [] H m h := let ⟨h0, dx, R⟩ := F; ⟨h0, dx, R, fun _ hp => (nomatch hp)⟩
theorem LS.sub (L : LS w b env X H m h) (hs : ∀ p ∈ Y, p ∈ X) : LS w b env Y H m h := let ⟨h0, dx, R, x⟩ := L; ⟨h0, dx, R, fun p hp => x p (hs p hp)⟩
theorem LS.hold (L : LS w b env X H m h) (B : Base w b) : ∃ b', Base w b' ∧ Fl w b' env H m h ∧ ∀ H' m' h', Fl w b' env H' m' h' → LS w b env X H' m' h' := by
  obtain ⟨h0, dx, R, x⟩ := L
  refine ⟨_, B.keeps R.sub_frz, ⟨h0, dx, R.frz⟩, fun H' m' h' F => ?_⟩
  obtain ⟨h0', dx', R'⟩ := F
  refine ⟨h0', dx', R'.weak R.sub_frz, fun p hp => ?_⟩
  obtain ⟨x1, x2, x3⟩ := x p hp
  have e := frz_get (S := ownd (upd H env.locals (.ns m)) dx) x3 x1
  refine ⟨R'.keep _ _ e, x2, ?_⟩
  rintro (⟨o, q⟩ | ⟨c, C, fs, q, z⟩)
  · rw [R'.off _ _ q] at e; cases e
  · have := R'.boff _ _ _ q; rw [z, e] at this; cases this
theorem LS.ne (L : LS w b env X H m h) : ∀ p ∈ X, p.1 ≠ h.objs.size := by
  obtain ⟨h0, dx, R, x⟩ := L
  exact fun p hp z => absurd (z ▸ Heap.lt_size (x p hp).1) (Nat.lt_irrefl _)
theorem LS.push (L : LS w b env X H m h) (ob : Obj) (hf : ob.isFreed = false := by rfl) : LS w b env ((h.objs.size, ob) :: X) H m (h.push ob) := by
  obtain ⟨h0, dx, R, x⟩ := L
  refine ⟨h0, dx, R.grow fun _ _ e => Heap.get?_push_of_some _ e, fun p hp => ?_⟩
  rcases List.mem_cons.mp hp with rfl | hp
  · refine ⟨Heap.get?_push_size _ hf, R.bfresh, ?_⟩
    rintro (⟨o, q⟩ | ⟨c, C, fs, q, z⟩)
    · rw [R.fresh] at q; cases q
    · exact absurd (z ▸ R.dlt q) (Nat.lt_irrefl _)
  · exact ⟨Heap.get?_push_of_some _ (x p hp).1, (x p hp).2⟩
theorem LS.turn {a : Addr} {o o' : Obj} {h' : Heap} (L : LS w b env ((a, o) :: X) H m h) (hx : ∀ p ∈ X, p.1 ≠ a) (hs : ∀ c ob, c ≠ a → h.get? c = some ob → h'.get? c = some ob) (ho : h'.get? a = some o') : LS w b env ((a, o') :: X) H m h' := by
  obtain ⟨h0, dx, R, x⟩ := L
  obtain ⟨x1, x2, x3⟩ := x _ (.head _)
  refine ⟨h0, dx, R.chg (fun c ob e => hs c ob (fun z => by rw [z] at e; rw [x2] at e; cases e) (R.keep c ob e)) (fun c ob e => (R.cell c ob e).mono (fun ob' q => hs c ob' (fun z => x3 (z ▸ .inl ⟨_, e⟩)) q) ?_), fun p hp => ?_⟩
  · rintro ⟨C, fs, rfl⟩ ob' q
    exact hs _ ob' (fun z => x3 (.inr ⟨c, C, fs, e, z⟩)) q
  · rcases List.mem_cons.mp hp with rfl | hp
    · exact ⟨ho, x2, x3⟩
    · obtain ⟨y1, y2⟩ := x p (.tail _ hp)
      exact ⟨hs _ _ (hx p hp) y1, y2⟩
theorem LS.drop {a : Addr} {o : Obj} {h' : Heap} (L : LS w b env ((a, o) :: X) H m h) (hx : ∀ p ∈ X, p.1 ≠ a) (hs : ∀ c ob, c ≠ a → h.get? c = some ob → h'.get? c = some ob) : LS w b env X H m h' := by
  obtain ⟨h0, dx, R, x⟩ := L
  obtain ⟨x1, x2, x3⟩ := x _ (.head _)
  refine ⟨h0, dx, R.chg (fun c ob e => hs c ob (fun z => by rw [z] at e; rw [x2] at e; cases e) (R.keep c ob e)) (fun c ob e => (R.cell c ob e).mono (fun ob' q => hs c ob' (fun z => x3 (z ▸ .inl ⟨_, e⟩)) q) ?_), fun p hp => ?_⟩
  · rintro ⟨C, fs, rfl⟩ ob' q
    exact hs _ ob' (fun z => x3 (.inr ⟨c, C, fs, e, z⟩)) q
  · obtain ⟨y1, y2⟩ := x p (.tail _ hp)
    exact ⟨hs _ _ (hx p hp) y1, y2⟩
theorem rng_small {lo hi : Int} (h1 : 0 ≤ lo) (h2 : hi ≤ 1000) (h4 : lo ≤ 1000) (h5 : -1000 ≤ hi) : Builtin.Range.small lo hi 1 = true ∧ Builtin.Range.rangeSize lo hi 1 = ((hi - lo).toNat : Int) := by
  have e : Builtin.Range.rangeSize lo hi 1 = ((hi - lo).toNat : Int) := by
    unfold Builtin.Range.rangeSize
    simp
    split <;> omega
  refine ⟨?_, e⟩
  unfold Builtin.Range.small
  rw [e]
  unfold Builtin.Range.rangeFitsLong
  simp
  omega
theorem it_start {u v : Value} {it : It} (L : LS w b env X H m s.heap) (e : nv u = v) (ho : ItOf H v it) {Q : Value → Shared → Prop}
    (hQ : ∀ ob, ItAt it 0 ob → LS w b env ((s.heap.objs.size, ob) :: X) H m (s.heap.push ob) → (∀ p ∈ X, p.1 ≠ s.heap.objs.size) → Q (.ref s.heap.objs.size) { s with heap := s.heap.push ob }) : wpAny (model PW w) A (pyIter u) Q E s := by
  cases ho with
  | list ea =>
    rw [nv_ref e]
    obtain ⟨dx, R, vs, n, e1, em⟩ := L.fl.at_ ea
    exact wpAny_pyIter_list (PySem.IsL.isList (n := n) e1) (hQ _ ⟨rfl, rfl⟩ (L.push _) L.ne)
  | tup ea =>
    rw [nv_ref e]
    obtain ⟨dx, R, vs, ht, em⟩ := L.fl.at_ ea
    exact wpAny_pyIter_tuple ht (hQ _ ⟨rfl, rfl⟩ (L.push _) L.ne)
  | rng ea h1 h2 h3 h4 h5 =>
    rw [nv_ref e]
    obtain ⟨dx, R, er⟩ := L.fl.at_ ea
    obtain ⟨s1, s2⟩ := rng_small h1 h2 h4 h5
    refine wpAny_pyIter_range er s1 ?_
    rw [s2]
    refine hQ _ ?_ (L.push _) L.ne
    subst h3
    show _ = _
    simp
theorem it_next {it : It} {I : Addr} {i : Nat} {ob : Obj} {r : Option Value} (L : LS w b env ((I, ob) :: X) H m s.heap) (hx : ∀ p ∈ X, p.1 ≠ I) (hit : ItAt it i ob) (hv : ItV H it i r) (hh : A.handled = none) {Q : Option Value → Shared → Prop}
    (hS : ∀ v, r = some v → ∀ u h' tk ob', nv u = v → ItAt it (i + 1) ob' → LS w b env ((I, ob') :: X) H m h' → Q (some u) { s with heap := h', toks := tk })
    (hN : r = none → ∀ h' tk, LS w b env X H m h' → Q none { s with heap := h', toks := tk }) : wpAny (model PW w) A (pyNext (.ref I)) Q E s := by
  have hI := (L.2.choose_spec.2 _ (.head _)).1
  cases hv with
  | @list a xs _ _ ea hj0 =>
    obtain ⟨dx, R, vs, n, e1, em⟩ := L.fl.at_ ea
    have hl : s.heap.IsList a vs.toArray := PySem.IsL.isList (n := n) e1
    have hii : s.heap.IsListIter I a i := ⟨ob, hI, hit.1, hit.2⟩
    cases hj : xs[i]? with
    | some v =>
      rw [hj] at hj0
      obtain ⟨y, hy, ey⟩ := map_get em hj
      refine wpAny_pyNext_list_item hii hl (x := y) (by simpa using hy) fun h' hit' hs => ?_
      obtain ⟨o', ho', hc', hd'⟩ := hit'
      exact hS v hj0.symm y h' s.toks o' ey ⟨hc', hd'⟩ (L.turn hx (fun c ob ne e => hs.extBut c ob ne e) ho')
    | none =>
      rw [hj] at hj0
      have hy : vs[i]? = none := by
        rw [List.getElem?_eq_none_iff] at hj ⊢
        rw [map_len em]; exact hj
      exact wpAny_pyNext_list_end hh hii hl (by simpa using hy) fun h' he => hN hj0.symm h' s.toks (L.drop hx fun c ob ne e => he c ob ne e)
  | @tup a xs _ _ ea hj0 =>
    obtain ⟨dx, R, vs, hl, em⟩ := L.fl.at_ ea
    have hii : s.heap.IsTupleIter I a i := ⟨ob, hI, hit.1, hit.2⟩
    cases hj : xs[i]? with
    | some v =>
      rw [hj] at hj0
      obtain ⟨y, hy, ey⟩ := map_get em hj
      refine wpAny_pyNext_tuple_item hii hl (x := y) (by simpa using hy) fun h' hit' hs => ?_
      obtain ⟨o', ho', hc', hd'⟩ := hit'
      exact hS v hj0.symm y h' s.toks o' ey ⟨hc', hd'⟩ (L.turn hx (fun c ob ne e => hs.extBut c ob ne e) ho')
    | none =>
      rw [hj] at hj0
      have hy : vs[i]? = none := by
        rw [List.getElem?_eq_none_iff] at hj ⊢
        rw [map_len em]; exact hj
      exact wpAny_pyNext_tuple_end hh hii hl (by simpa using hy) fun h' he => hN hj0.symm h' s.toks (L.drop hx fun c ob ne e => he c ob ne e)
  | @rng lo n _ hlt =>
    have e : ob = _ := hit
    subst e
    refine wpAny_pyNext_range_item hI (by omega) fun h' hit' hs => ?_
    refine hS _ rfl _ h' _ _ rfl ?_ (L.turn hx (fun c ob ne e => hs.extBut c ob ne e) hit')
    show _ = _
    have e1 : lo + (i : Int) + 1 = lo + ((i + 1 : Nat) : Int) := by omega
    have e2 : (n : Int) - i - 1 = (n : Int) - ((i + 1 : Nat) : Int) := by omega
    rw [e1, e2]
  | @rngEnd lo n _ he =>
    have e : ob = _ := hit
    subst e
    exact wpAny_pyNext_range_end hh hI (by omega) fun h' he => hN rfl h' s.toks (L.drop hx fun c ob ne e => he c ob ne e)
end
noncomputable def LoopQ (I : AH → Lc → Prop) (QF : Flow → AH → Lc → Prop) (f : Flow) (H : AH) (m : Lc) : Prop := match f with
  | .next | .cont => I H m
  | .brk => QF .next H m
  | .ret v => QF (.ret v) H m
noncomputable def GoOk (t : Expr) (it : It) : Prop := (∀ x v, letOwnedTupleGo t x v = pure ()) ∨ ∃ elts x1 p a, t = .Tuple elts x1 p ∧ it = .list a
section
variable {w : World} {k : Nat} {env : Env} {b : Heap} {H : AH} {m : Lc} {h : Heap} {A : Around} {s : Shared} {E : Value → Shared → Prop} {Q : Value → AH → Lc → Prop} {QF : Flow → AH → Lc → Prop} {QU : Unit → AH → Lc → Prop} {QB : Bool → AH → Lc → Prop} {X Y : List (Addr × Obj)}
theorem go_run {t : Expr} {it : It} {I : Addr} {i : Nat} {ob : Obj} {u : Value} {Q : Unit → Shared → Prop} (g : GoOk t it) (hI : s.heap.get? I = some ob) (hit : ItAt it i ob) (q : Q () s) : wpAny (model PW w) A (letOwnedTupleGo t (.ref I) u) Q E s := by
  rcases g with g | ⟨elts, x1, p, a, rfl, rfl⟩
  · rw [g]; exact wpAny_pure q
  · cases u <;> first
      | exact wpAny_letOwnedTupleGo_listiter (I := I) (l := a) (i := i) ⟨ob, hI, hit.1, hit.2⟩ q
      | exact wpAny_pure q
theorem e1_for {t iter : Expr} {body : List Stmt} {pos : Pos} (h : EV w k env iter (fun v H m => ∃ (it : It) (N : Nat) (Inv : Nat → AH → Lc → Prop), ItOf H v it ∧ GoOk t it ∧ Inv 0 H m ∧
      ∀ i H m, Inv i H m → ∃ r, ItV H it i r ∧ (r = none → QF .next H m) ∧ ∀ x, r = some x → i < N ∧ AS w k env t x (fun _ H m => EX w k env body (LoopQ (Inv (i + 1)) QF) H m) H m) H m)
    (hs : ∀ x, foldedSetIterable iter env x = pure x) : E1 w k env (.For t iter body [] pos) QF H m := by
  intro A s b E hr hb hf
  refine wpAny_For (wpAny_mono (h A s b E hr hb hf) (fun v s1 z => ?_) fun _ _ x => x) hs
  obtain ⟨H1, m1, h1', t1, rfl, hf1, it, N, Inv, ho, go, i0, turn⟩ := z
  refine it_start (s := { s with heap := h1', toks := t1 }) (LS.of hf1) rfl ho fun ob hit L0 _ => ?_
  refine codeAny_forLoop_any (fun n s2 => ∃ i H m h' tk ob, n = N - i ∧ s2 = { s with heap := h', toks := tk } ∧ LS w b env [(h1'.objs.size, ob)] H m h' ∧ ItAt it i ob ∧ Inv i H m) ?_ N
    ⟨0, H1, m1, _, t1, ob, rfl, rfl, L0, hit, i0⟩
  rintro n s2 ⟨i, H2, m2, h2, tk, ob2, rfl, rfl, L2, hit2, hi⟩
  obtain ⟨r, hv, hn, hsm⟩ := turn i H2 m2 hi
  refine it_next (s := { s with heap := h2, toks := tk }) L2 (fun _ hp => (nomatch hp)) hit2 hv hr.handled (fun x ex u h3 tk3 ob3 eu hit3 L3 => ?_) fun ex h3 tk3 L3 => ?_
  · obtain ⟨hlt, as⟩ := hsm x ex
    obtain ⟨b', B', F3, back⟩ := L3.hold hb
    have hI := (L3.2.choose_spec.2 _ (.head _)).1
    refine go_run (s := { s with heap := h3, toks := tk3 }) go hI hit3 ?_
    refine wpAny_mono (as u eu A { s with heap := h3, toks := tk3 } b' _ hr B' F3) (fun _ s4 z => ?_) fun _ _ x => x
    obtain ⟨H4, m4, h4, t4, rfl, F4, q⟩ := z
    refine wpAny_mono (q A _ b' _ hr B' F4) (fun f s5 z => ?_) fun _ _ x => x
    obtain ⟨H5, m5, h5, t5, rfl, F5, q⟩ := z
    have L5 := back _ _ _ F5
    cases f with
    | next => exact ⟨N - (i + 1), by omega, i + 1, H5, m5, h5, t5, ob3, rfl, rfl, L5, hit3, q⟩
    | cont => exact ⟨N - (i + 1), by omega, i + 1, H5, m5, h5, t5, ob3, rfl, rfl, L5, hit3, q⟩
    | brk => exact ⟨H5, m5, h5, t5, rfl, L5.fl, q⟩
    | ret v => exact ⟨H5, m5, h5, t5, rfl, L5.fl, q⟩
  · exact wpAny_execs_nil ⟨H2, m2, h3, tk3, rfl, L3.fl, hn ex⟩
theorem e1_while {test : Expr} {body : List Stmt} {pos : Pos} (Inv : Nat → AH → Lc → Prop) (N : Nat) (h0 : Inv N H m)
    (turn : ∀ n H m, Inv n H m → TR w k env test (fun c H m => if c then EX w k env body (LoopQ (fun H m => ∃ n', n' < n ∧ Inv n' H m) QF) H m else QF .next H m) H m) : E1 w k env (.While test body [] pos) QF H m := by
  intro A s b E hr hb hf
  refine wpAny_While (codeAny_whileLoop (fun n s2 => ∃ H m h' tk, s2 = { s with heap := h', toks := tk } ∧ Fl w b env H m h' ∧ Inv n H m) ?_ N ⟨H, m, s.heap, s.toks, rfl, hf, h0⟩)
  rintro n s2 ⟨H2, m2, h2, tk, rfl, F2, hi⟩
  refine wpAny_mono (turn n H2 m2 hi A _ b _ hr hb F2) (fun c s3 z => ?_) fun _ _ x => x
  obtain ⟨H3, m3, h3, t3, rfl, F3, q⟩ := z
  cases c with
  | false => exact wpAny_execs_nil ⟨H3, m3, h3, t3, rfl, F3, q⟩
  | true =>
    refine wpAny_mono (q A _ b _ hr hb F3) (fun f s5 z => ?_) fun _ _ x => x
    obtain ⟨H5, m5, h5, t5, rfl, F5, q⟩ := z
    cases f with
    | next => obtain ⟨n', hn, q⟩ := q; exact ⟨n', hn, H5, m5, h5, t5, rfl, F5, q⟩
    | cont => obtain ⟨n', hn, q⟩ := q; exact ⟨n', hn, H5, m5, h5, t5, rfl, F5, q⟩
    | brk => exact ⟨H5, m5, h5, t5, rfl, F5, q⟩
    | ret v => exact ⟨H5, m5, h5, t5, rfl, F5, q⟩
theorem LS.frame (L : LS w b env X H m h) (B : Base w b) : ∃ b1, Base w b1 ∧
    (∀ (cenv : Env) (h' : Heap), cenv.locals = h.objs.size → h'.Ns h.objs.size (fun _ => none) → (∀ c o, h.get? c = some o → h'.get? c = some o) → LS w b1 cenv X H [] h') ∧
    ∀ (cenv : Env) H' m' h' X', LS w b1 cenv X' H' m' h' → ∃ oC, h'.get? cenv.locals = some oC ∧ LS w b env ((cenv.locals, oC) :: X') H' m h' ∧ (∀ p ∈ X', p.1 ≠ cenv.locals) ∧ ∃ mr, h'.Ns cenv.locals mr := by
  obtain ⟨h0, dx, R, x⟩ := L
  have hs : ∀ a o, H a = some o → upd H env.locals (.ns m) a = some o := fun a o e => by
    rw [upd_ne]; exact e
    rintro rfl; rw [h0] at e; cases e
  have R1 : Rd w b H h dx := R.sub hs
  let S : Addr → Prop := fun a => ownd H dx a ∨ a ∈ X.map (·.1)
  have nbS : ∀ c o, b.get? c = some o → ¬ S c := by
    rintro c o e (q | q)
    · rcases q with ⟨o', q⟩ | ⟨c', C, fs, q, rfl⟩
      · rw [R1.off _ _ q] at e; cases e
      · rw [R1.boff _ _ _ q] at e; cases e
    · obtain ⟨p, hp, rfl⟩ := List.mem_map.mp q
      rw [(x p hp).2.1] at e; cases e
  have sub : ∀ c o, b.get? c = some o → (frz h S).get? c = some o := fun c o e => frz_get (nbS c o e) (R.keep _ _ e)
  have oL := R.cell env.locals _ (upd_self ..)
  obtain ⟨mr, ⟨ob, es, ep, e, r⟩, r'⟩ := oL
  have nL : ¬ S env.locals := by
    rintro ((⟨o, q⟩ | ⟨c, C, fs, q, z⟩) | q)
    · rw [h0] at q; cases q
    · have := R.doff c C fs (hs _ _ q)
      rw [z, upd_self] at this; cases this
    · obtain ⟨p, hp, z⟩ := List.mem_map.mp q
      exact (x p hp).2.2 (.inl ⟨.ns m, by rw [z, upd_self]⟩)
  have eL : (frz h S).get? env.locals = some ob := frz_get nL e
  refine ⟨frz h S, B.keeps sub, fun cenv h' eC hns hk => ?_, fun cenv H' m' h' X' L' => ?_⟩
  · have hC : H h.objs.size = none := R1.fresh
    refine ⟨by rw [eC]; exact hC, dx, ?_, fun p hp => ?_⟩
    · rw [eC]
      have R2 : Rd w (frz h S) H h dx := ⟨fun _ _ e => of_frz e, fun _ o e => frz_own (.inl (.inl ⟨o, e⟩)), R1.cell, fun _ _ _ e => frz_own (.inl (.inr ⟨_, _, _, e, rfl⟩)), R1.doff, R1.inj⟩
      exact (R2.grow hk).put (fun C fs z => by cases z) (fun a C fs e z => absurd (z ▸ R1.dlt e) (Nat.lt_irrefl _)) R2.bfresh ⟨_, hns, fun y => rfl⟩
    · obtain ⟨x1, x2, x3⟩ := x p hp
      refine ⟨hk _ _ x1, frz_own (.inr (List.mem_map.mpr ⟨p, hp, rfl⟩)), ?_⟩
      rw [eC]
      rintro (⟨o, q⟩ | ⟨c, C, fs, q, z⟩)
      · by_cases y : p.1 = h.objs.size
        · exact absurd (y ▸ Heap.lt_size x1) (Nat.lt_irrefl _)
        · rw [upd_ne _ _ y] at q; exact x3 (.inl ⟨o, hs _ _ q⟩)
      · by_cases y : c = h.objs.size
        · subst y; rw [upd_self] at q; cases q
        · rw [upd_ne _ _ y] at q; exact x3 (.inr ⟨c, C, fs, hs _ _ q, z⟩)
  · obtain ⟨h0', dx', R', x'⟩ := L'
    have hs' : ∀ a o, H' a = some o → upd H' cenv.locals (.ns m') a = some o := fun a o e => by
      rw [upd_ne]; exact e
      rintro rfl; rw [h0'] at e; cases e
    have R2 : Rd w (frz h S) H' h' dx' := R'.sub hs'
    obtain ⟨mrC, hnC, emC⟩ := R'.cell cenv.locals _ (upd_self ..)
    have hnC0 := hnC
    obtain ⟨oC, esC, epC, eC, rC⟩ := hnC
    have bC : (frz h S).get? cenv.locals = none := R'.off _ _ (upd_self ..)
    have neL : cenv.locals ≠ env.locals := fun z => by rw [z, eL] at bC; cases bC
    have hL : H' env.locals = none := by
      cases q : H' env.locals with
      | none => rfl
      | some o => have := R2.off _ _ q; rw [eL] at this; cases this
    have dL : ∀ a C fs, H' a = some (.inst C fs) → dx' a ≠ env.locals := fun a C fs q z => by
      have := R2.boff a C fs q; rw [z, eL] at this; cases this
    have no : ∀ p, (frz h S).get? p = none → b.get? p = none := fun p q => by
      cases z : b.get? p with
      | none => rfl
      | some o => rw [sub _ _ z] at q; cases q
    have R3 := (R2.weak sub).put (a := env.locals) (o := .ns m) (fun C fs z => by cases z) dL (R.off _ _ (upd_self ..)) ⟨mr, ⟨ob, es, ep, R2.keep _ _ eL, r⟩, r'⟩
    have own : ∀ p, p ≠ env.locals → (∀ o, H' p ≠ some o) → (∀ c C fs, H' c = some (.inst C fs) → dx' c ≠ p) → ¬ ownd (upd H' env.locals (.ns m)) dx' p := by
      rintro p n1 n2 n3 (⟨o, q⟩ | ⟨c, C, fs, q, z⟩)
      · rw [upd_ne _ _ n1] at q; exact n2 o q
      · by_cases y : c = env.locals
        · subst y; rw [upd_self] at q; cases q
        · rw [upd_ne _ _ y] at q; exact n3 c C fs q z
    refine ⟨oC, eC, ⟨hL, dx', R3, fun p hp => ?_⟩, fun p hp z => (x' p hp).2.2 (.inl ⟨_, by rw [z]; exact upd_self ..⟩), mrC, hnC0⟩
    rcases List.mem_cons.mp hp with rfl | hp
    · refine ⟨eC, no _ bC, own _ neL (fun o q => by rw [h0'] at q; cases q) fun c C fs q z => ?_⟩
      have := R'.doff c C fs (hs' _ _ q)
      rw [z, upd_self] at this; cases this
    · obtain ⟨y1, y2, y3⟩ := x' p hp
      refine ⟨y1, no _ y2, own _ (fun z => by rw [z, eL] at y2; cases y2) (fun o q => y3 (.inl ⟨o, hs' _ _ q⟩)) fun c C fs q z => y3 (.inr ⟨c, C, fs, hs' _ _ q, z⟩)⟩
end
noncomputable def CT (w : World) (k : Nat) (cenv : Env) (ifs : List Expr) (elt : Expr) (I1 : Value → AH → Lc → Prop) (I0 : AH → Lc → Prop) (H : AH) (m : Lc) : Prop := match ifs with
  | [] => EV w k cenv elt I1 H m
  | [c] => TR w k cenv c (fun t H m => if t then EV w k cenv elt I1 H m else I0 H m) H m
  | _ => False
noncomputable def CompI (w : World) (k : Nat) (env : Env) (scope : Scope) (cl : List (Str × Addr)) (ifs : List Expr) (elt : Expr) (x : Str) (End : List Value → AH → Lc → Prop) (v : Value) (H : AH) (m : Lc) : Prop :=
  ∃ (it : It) (N : Nat) (Inv : Nat → List Value → AH → Prop), ItOf H v it ∧ Inv 0 [] H ∧ ∀ C, H C = none → C ≠ env.locals → ∀ i ys H, Inv i ys H → ys.length ≤ 1000 ∧ ∃ r, ItV H it i r ∧ (r = none → End ys H m) ∧
    ∀ u, r = some u → i < N ∧ CT w k (compEnvC scope cl C env) ifs elt (fun y H m' => m' = [(x, u)] ∧ Inv (i + 1) (ys ++ [y]) H) (fun H m' => m' = [(x, u)] ∧ Inv (i + 1) ys H) H [(x, u)]
section
variable {w : World} {k : Nat} {env : Env} {b : Heap} {H : AH} {m : Lc} {h : Heap} {A : Around} {s : Shared} {E : Value → Shared → Prop} {Q : Value → AH → Lc → Prop} {QF : Flow → AH → Lc → Prop} {QU : Unit → AH → Lc → Prop} {QB : Bool → AH → Lc → Prop} {X Y : List (Addr × Obj)}
theorem LS.take {D : Addr} {oD : Obj} {o : O} (L : LS w b env ((D, oD) :: X) H m h) (hx : ∀ p ∈ X, p.1 ≠ D) (hni : ∀ C fs, o ≠ .inst C fs) (ho : ∀ dx, OAt w h dx D o) : H D = none ∧ D ≠ env.locals ∧ LS w b env X (upd H D o) m h := by
  obtain ⟨h0, dx, R, x⟩ := L
  obtain ⟨x1, x2, x3⟩ := x _ (.head _)
  have ne : D ≠ env.locals := fun z => x3 (.inl ⟨.ns m, by rw [z]; exact upd_self ..⟩)
  have hD : H D = none := by
    cases q : H D with
    | none => rfl
    | some o => exact absurd (.inl ⟨o, by rw [upd_ne _ _ ne]; exact q⟩) x3
  refine ⟨hD, ne, ?_, dx, ?_, fun p hp => ?_⟩
  · rw [upd_ne _ _ (Ne.symm ne)]; exact h0
  · rw [upd_comm _ _ _ ne]
    exact R.put hni (fun a C fs e z => x3 (.inr ⟨a, C, fs, e, z⟩)) x2 (ho dx)
  · obtain ⟨y1, y2, y3⟩ := x p (.tail _ hp)
    refine ⟨y1, y2, ?_⟩
    rw [upd_comm _ _ _ ne]
    rintro (⟨o', q⟩ | ⟨c, C, fs, q, z⟩)
    · rw [upd_ne _ _ (hx p hp)] at q; exact y3 (.inl ⟨o', q⟩)
    · by_cases y : c = D
      · subst y; rw [upd_self] at q; exact hni C fs (Option.some.inj q)
      · rw [upd_ne _ _ y] at q; exact y3 (.inr ⟨c, C, fs, q, z⟩)
theorem LS.swap {p q : Addr × Obj} (L : LS w b env (p :: q :: X) H m h) : LS w b env (q :: p :: X) H m h := L.sub fun r hr => by
  rcases List.mem_cons.mp hr with rfl | hr
  · exact .tail _ (.head _)
  · rcases List.mem_cons.mp hr with rfl | hr
    · exact .head _
    · exact .tail _ (.tail _ hr)
theorem it_self {it : It} {I : Addr} {i : Nat} {ob : Obj} (hI : s.heap.get? I = some ob) (hit : ItAt it i ob) {Q : Value → Shared → Prop} (q : Q (.ref I) s) : wpAny (model PW w) A (pyIter (.ref I)) Q E s := by
  cases it with
  | list a => exact wpAny_pyIter_listiter (l := a) (i := i) ⟨ob, hI, hit.1, hit.2⟩ q
  | tup a => exact wpAny_pyIter_tupleiter (t := a) (i := i) ⟨ob, hI, hit.1, hit.2⟩ q
  | rng lo n => have e : ob = _ := hit; subst e; exact wpAny_pyIter_rangeiter hI q
theorem comp_core {use : Option (Value → Sem Unit)} {elt iter : Expr} {x : Str} {px pos cpos : Pos} {ifs : List Expr} {scope : Scope} {cl : List (Str × Addr)} {Q' : Value → Shared → Prop} {End : List Value → AH → Lc → Prop}
    (hclos : closureFor scope env = pure cl) (hcell : (scope.names.all fun y => y.2 != .cell) = true) (hkind : scope.kind = .function) (hnames : (scope.names.all fun y => y.2 != .local || scope.names.lookup y.1 == some .local) = true) (hx : scope.names.lookup x = some .local)
    (hs : ∀ x, foldedSetIterable iter env x = pure x) (hr : Room A k) (hb : Base w b) (hf : Fl w b env H m s.heap)
    (h : EV w k env iter (CompI w k env scope cl ifs elt x End) H m)
    (hE : ∀ D C oC mr ys H' m' h' tk, End ys H' m' → H' D = none → D ≠ env.locals → LS w b env [(C, oC)] (upd H' D (.list ys)) m' h' → h'.Ns C mr → compPost (model PW w) A E use Q' (.ref D) C (.ok .next) { s with heap := h', toks := tk }) :
    wpAny (model PW w) A (comprehension (.ListComp elt [⟨.Name x px, iter, ifs, 0⟩] scope pos) scope env cpos (newList []) false (eval iter env) use) Q' E s := by
  have hxe : ∀ C, (compEnvC scope cl C env).kindOf x = some .local := fun C => lookup_relabel_local hx
  have hke : ∀ C, (compEnvC scope cl C env).scope.kind = .function := fun C => by simp [compEnvC, relabel, hkind]
  refine wpAny_comprehension_free (cl := cl) rfl hs hclos hkind (fun y hy hl => ?_) (wpAny_mono (h A s b E hr hb hf) (fun v s1 z => ?_) fun _ _ x => x)
  · have := List.all_eq_true.mp hnames y hy
    rw [hl] at this
    simpa using this
  obtain ⟨H1, m1, h1, t1, rfl, F1, it, N, Inv, ho, i0, turn⟩ := z
  refine it_start (s := { s with heap := h1, toks := t1 }) (LS.of F1) rfl ho fun ob hit L0 _ => ?_
  dsimp only at L0 ⊢
  -- the list that is filled
  refine wpAny_newObj_type (s := { s with heap := h1.push ob, toks := t1 }) ?_
  dsimp only
  have L1 := L0.push (listOf ([] : List Value).toArray 0)
  have ne1 : h1.objs.size ≠ (h1.push ob).objs.size := by rw [Heap.size_push]; exact Nat.ne_of_lt (Nat.lt_succ_self _)
  obtain ⟨b1, B1, fr, back⟩ := L1.frame hb
  -- the frame
  refine wpAny_newFunctionEnv (s := { s with heap := (h1.push ob).push (listOf ([] : List Value).toArray 0), toks := t1 }) (fun y hy => by have := List.all_eq_true.mp hcell y hy; simpa using this) (fun y hy => by cases hy) (fun h2 hns hsb => ?_) hkind
  dsimp only at hns hsb ⊢
  have hk2 : ∀ c o, ((h1.push ob).push (listOf ([] : List Value).toArray 0)).get? c = some o → h2.get? c = some o := fun c o e => hsb.extBut c o (Nat.ne_of_lt (Heap.lt_size e)) (Heap.get?_push_of_some _ e)
  generalize hC : ((h1.push ob).push (listOf ([] : List Value).toArray 0)).objs.size = C at hns fr ⊢
  generalize hD : (h1.push ob).objs.size = D at L1 fr ne1 ⊢
  have L2 := fr (compEnvC scope cl C env) h2 rfl hns hk2
  have hC1 : H1 C = none := L2.1
  have hCL : C ≠ env.locals := fun z => by
    obtain ⟨mr, ⟨o, _, _, e, _⟩, _⟩ := L1.fl.ns
    have := Heap.lt_size e
    rw [hC, ← z] at this
    exact absurd this (Nat.lt_irrefl _)
  have step := turn C hC1 hCL
  have loop : ∀ s3 : Shared, s3 = { s with heap := h2, toks := t1 + ([] : List (Str × Value)).length } →
      codeAny (model PW w) A (.compLoop (.ListComp elt [⟨.Name x px, iter, ifs, 0⟩] scope pos) 0 (.ref h1.objs.size) (.ref D) (compEnvC scope cl C env)) (compPost (model PW w) A E use Q' (.ref D) C) s3 := by
    rintro s3 rfl
    refine codeAny_compLoop_tests (fun n s2 => ∃ i ys H m' h' tk ob vs c, n = N - i ∧ s2 = { s with heap := h', toks := tk } ∧ LS w b1 (compEnvC scope cl C env) [(h1.objs.size, ob), (D, listOf (List.toArray vs) c)] H m' h' ∧ ItAt it i ob ∧ vs.map nv = ys ∧ Inv i ys H ∧ (m' = [] ∨ ∃ u, m' = [(x, u)])) ?_ N
      ⟨0, [], H1, [], h2, _, ob, [], 0, rfl, rfl, L2.swap, hit, rfl, i0, .inl rfl⟩
    rintro n s2 ⟨i, ys, H2, m2, h3, tk, ob2, vs, c, rfl, rfl, L3, hit2, ev, hi, hm⟩
    obtain ⟨hz, r, hv, hn, hsm⟩ := step i ys H2 hi
    have hlen := map_len ev
    refine it_next (s := { s with heap := h3, toks := tk }) L3 (fun p hp => by rcases List.mem_cons.mp hp with rfl | hp; exact Ne.symm ne1; cases hp) hit2 hv hr.handled (fun xv ex u h4 tk4 ob4 eu hit4 L4 => ?_) fun ex h4 tk4 L4 => ?_
    · obtain ⟨hlt, ct⟩ := hsm xv ex
      obtain ⟨b', B', F4, back4⟩ := L4.hold B1
      have em : putF x (nv u) m2 = [(x, xv)] := by
        rw [eu]
        rcases hm with rfl | ⟨u', rfl⟩
        · rfl
        · unfold putF; simp
      refine wpAny_assign_Name (wpAny_mono (st_loc (w := w) (k := k) (env := compEnvC scope cl C env) (H := H2) (m := m2) (x := x) (v := u) (QU := fun _ H m => H = H2 ∧ m = [(x, xv)]) ⟨rfl, em⟩ (hxe C) (hke C) A { s with heap := h4, toks := tk4 } b' _ hr B' F4) (fun _ s5 z => ?_) fun _ _ x => x)
      obtain ⟨H5, m5, h5, t5, rfl, F5, eH, eM⟩ := z
      subst eH eM
      have fin : ∀ (y : Value) (s6 : Shared), Ends w b' (compEnvC scope cl C env) { s with heap := h5, toks := t5 } (fun y H m' => m' = [(x, xv)] ∧ Inv (i + 1) (ys ++ [nv y]) H) y s6 →
          wpAny (model PW w) A (call (.builtin "list.append") [.ref D, y]) (fun _ s7 => ∃ m', m' < N - i ∧ ∃ i ys H m'' h' tk ob vs c, m' = N - i ∧ s7 = { s with heap := h', toks := tk } ∧ LS w b1 (compEnvC scope cl C env) [(h1.objs.size, ob), (D, listOf (List.toArray vs) c)] H m'' h' ∧ ItAt it i ob ∧ vs.map nv = ys ∧ Inv i ys H ∧ (m'' = [] ∨ ∃ u, m'' = [(x, u)]))
            (notedBy (model PW w) A (compEnvC scope cl C env) fun e s' => compPost (model PW w) A E use Q' (.ref D) C (.error e) s') s6 := by
        intro y s6 z
        obtain ⟨H6, m6, h6, t6, rfl, F6, eM, inv⟩ := z
        have L6 := (back4 _ _ _ F6).swap
        refine append_at (s := { s with heap := h6, toks := t6 }) (L6.2.choose_spec.2 _ (.head _)).1 (fun h7 hs7 ho7 => ?_) (by rw [List.size_toArray, hlen]; exact Nat.le_trans hz (by decide))
        have L7 := (L6.turn (fun p hp => by rcases List.mem_cons.mp hp with rfl | hp; exact ne1; cases hp) (fun c ob ne e => hs7.extBut c ob ne e) ho7).swap
        refine ⟨N - (i + 1), by omega, i + 1, ys ++ [nv y], H6, m6, h7, t6, ob4, vs ++ [y], c + 1, rfl, rfl, ?_, hit4, by rw [List.map_append, ev]; rfl, inv, .inr ⟨_, eM⟩⟩
        have : (vs ++ [y]).toArray = vs.toArray.push y := by simp
        rw [this]; exact L7
      match ifs, ct with
      | [], ct =>
        refine wpAny_tests_nil ?_
        rw [if_pos rfl]
        exact wpAny_mono (ct A { s with heap := h5, toks := t5 } b' _ hr B' F5) (fun y s6 z => fin y s6 z) fun _ _ x => x
      | [cnd], ct =>
        refine wpAny_tests_one (wpAny_mono (ct A { s with heap := h5, toks := t5 } b' _ hr B' F5) (fun t s6 z => ?_) fun _ _ x => x)
        obtain ⟨H6, m6, h6, t6, rfl, F6, q⟩ := z
        cases t with
        | true =>
          rw [if_pos rfl] at q ⊢
          exact wpAny_mono (q A _ b' _ hr B' F6) (fun y s7 z => fin y s7 (z.over (Q := fun y H m' => m' = [(x, xv)] ∧ Inv (i + 1) (ys ++ [nv y]) H) rfl)) fun _ _ x => x
        | false =>
          rw [if_neg Bool.false_ne_true] at q ⊢
          obtain ⟨eM, inv⟩ := q
          exact ⟨N - (i + 1), by omega, i + 1, ys, H6, m6, h6, t6, ob4, vs, c, rfl, rfl, back4 _ _ _ F6, hit4, ev, inv, .inr ⟨_, eM⟩⟩
      | _ :: _ :: _, ct => exact ct.elim
    · obtain ⟨oC, eC, LC, nX, mr, hnC⟩ := back _ _ _ _ _ L4
      have e1 : (compEnvC scope cl C env).locals = C := rfl
      obtain ⟨dD, neD, L5⟩ := LC.swap.take (o := .list ys) (fun p hp => by rcases List.mem_cons.mp hp with rfl | hp; exact fun z => nX _ (.head _) z.symm; cases hp) (fun C fs z => by cases z) fun dx => ⟨vs, c, (L4.2.choose_spec.2 _ (.head _)).1, ev⟩
      exact hE D C oC mr ys H2 m1 h4 tk4 (hn ex) dD neD L5 hnC
  refine codeAny_compStart_list (loop _ rfl) ?_
  exact it_self (s := { s with heap := h2, toks := t1 + ([] : List (Str × Value)).length }) (L2.swap.2.choose_spec.2 _ (.head _)).1 hit (loop _ rfl)
end
section
variable {w : World} {k : Nat} {env : Env} {b : Heap} {H : AH} {m : Lc} {h : Heap} {A : Around} {s : Shared} {E : Value → Shared → Prop} {Q : Value → AH → Lc → Prop} {QF : Flow → AH → Lc → Prop} {QU : Unit → AH → Lc → Prop} {QB : Bool → AH → Lc → Prop} {X Y : List (Addr × Obj)}
theorem ev_comp {elt iter : Expr} {x : Str} {px pos : Pos} {ifs : List Expr} {scope : Scope} {cl : List (Str × Addr)}
    (h : EV w k env iter (CompI w k env scope cl ifs elt x (fun ys H m => ∀ D, H D = none → D ≠ env.locals → Q (.ref D) (upd H D (.list ys)) m)) H m)
    (hclos : closureFor scope env = pure cl) (hcell : (scope.names.all fun y => y.2 != .cell) = true) (hkind : scope.kind = .function) (hnames : (scope.names.all fun y => y.2 != .local || scope.names.lookup y.1 == some .local) = true) (hx : scope.names.lookup x = some .local)
    (hs : ∀ x, foldedSetIterable iter env x = pure x) : EV w k env (.ListComp elt [⟨.Name x px, iter, ifs, 0⟩] scope pos) Q H m := by
  intro A s b E hr hb hf
  rw [eval_ListComp]
  refine comp_core (use := none) hclos hcell hkind hnames hx hs hr hb hf h fun D C oC mr ys H' m' h' tk q hD hL L hn => ?_
  exact ⟨mr, hn, fun h'' hs => ⟨_, m', h'', tk, rfl, (L.drop (fun _ hp => (nomatch hp)) fun c ob ne e => hs.extBut c ob ne e).fl, q D hD hL⟩⟩
theorem e1_comp {elt iter : Expr} {x y : Str} {px py pos spos : Pos} {ifs : List Expr} {scope : Scope} {cl : List (Str × Addr)}
    (hsw : swapsWith (.ListComp elt [⟨.Name x px, iter, ifs, 0⟩] scope pos) (some (.Name y py)) spos.line env = pure true)
    (h : EV w k env iter (CompI w k env scope cl ifs elt x (fun ys H m => ∀ D, H D = none → D ≠ env.locals → QF .next (upd H D (.list ys)) (putF y (.ref D) m))) H m)
    (hy : env.kindOf y = some .local) (hke : env.scope.kind = .function)
    (hclos : closureFor scope env = pure cl) (hcell : (scope.names.all fun y => y.2 != .cell) = true) (hkind : scope.kind = .function) (hnames : (scope.names.all fun y => y.2 != .local || scope.names.lookup y.1 == some .local) = true) (hx : scope.names.lookup x = some .local)
    (hs : ∀ x, foldedSetIterable iter env x = pure x) : E1 w k env (.Assign [.Name y py] (.ListComp elt [⟨.Name x px, iter, ifs, 0⟩] scope pos) spos) QF H m := by
  intro A s b E hr hb hf
  rw [exec_Assign_Name_used _ _ _ _ hsw]
  refine wpAny_bind (wpAny_standAt (wpAny_bind ?_))
  show wpAny (model PW w) A (comprehension (.ListComp elt [⟨.Name x px, iter, ifs, 0⟩] scope pos) scope env _ (newList []) false (eval iter env) (some (assign (.Name y py) env)) >>= fun _ => pure ()) _ E s
  refine wpAny_bind (comp_core (Q' := fun _ s' => wpAny (model PW w) A (pure ()) (fun _ s'' => wpAny (model PW w) A (pure Flow.next) (Ends w b env s QF) E s'') E s') hclos hcell hkind hnames hx hs hr hb hf h fun D C oC mr ys H' m' h' tk q hD hL L hn => ?_)
  obtain ⟨b', B', F', back⟩ := L.hold hb
  refine wpAny_mono (as_loc (w := w) (k := k) (p := py) (v := .ref D) (QU := fun _ H m => H = upd H' D (.list ys) ∧ m = putF y (.ref D) m') ⟨rfl, rfl⟩ hy hke (.ref D) rfl A { s with heap := h', toks := tk } b' E hr B' F') (fun _ s5 z => ?_) fun _ _ x => x
  obtain ⟨H5, m5, h5, t5, rfl, F5, rfl, rfl⟩ := z
  have L5 := back _ _ _ F5
  obtain ⟨o', es, ep, e1, e2⟩ := hn
  have eC := (L.2.choose_spec.2 _ (.head _)).1
  have eC5 := (L5.2.choose_spec.2 _ (.head _)).1
  rw [e1] at eC; cases eC
  exact ⟨mr, ⟨oC, es, ep, eC5, e2⟩, fun h'' hs => wpAny_pure (wpAny_pure ⟨_, _, h'', t5, rfl, (L5.drop (fun _ hp => (nomatch hp)) fun c ob ne e => hs.extBut c ob ne e).fl, q D hD hL⟩)⟩
theorem tr_chain2 {l r1 r2 : Expr} {op1 op2 : CmpOp} {pos : Pos} (h1 : EV w k env l (fun a H m => EV w k env r1 (fun c H m => CmR w k env op1 a c (fun x H m => ∃ t, x = .bool t ∧ if t then EV w k env r2 (fun d H m => CmR w k env op2 c d (fun x H m => ∃ t, x = .bool t ∧ QB t H m) H m) H m else QB false H m) H m) H m) H m)
    (hm : lastMarks [op1, op2] [r1, r2] = false) : TR w k env (.Compare l [op1, op2] [r1, r2] pos) QB H m := by
  intro A s b E hr hb hf
  refine isTrue_chain (ops := []) (rs := []) (wpAny_mono (h1 A s b E hr hb hf) (fun u s1 x => ?_) fun _ _ x => x) hm
  obtain ⟨H1, m1, h1', t1, rfl, hf1, q⟩ := x
  refine test_link (wpAny_mono (q A _ b E hr hb hf1) (fun v s2 x => ?_) fun _ _ x => x)
  obtain ⟨H2, m2, h2', t2, rfl, hf2, q⟩ := x
  refine wpAny_mono (q u v rfl rfl A _ b E hr hb hf2) (fun z s3 x => ?_) fun _ _ x => x
  obtain ⟨H3, m3, h3', t3, rfl, hf3, t, e, q⟩ := x
  rw [nv_bool e]
  refine wpAny_truthy_bool ?_
  cases t with
  | false => exact ⟨H3, m3, h3', t3, rfl, hf3, q⟩
  | true =>
    rw [if_pos rfl] at q ⊢
    refine test_last (wpAny_mono (q A _ b E hr hb hf3) (fun d s4 x => ?_) fun _ _ x => x)
    obtain ⟨H4, m4, h4', t4, rfl, hf4, q⟩ := x
    refine wpAny_mono (q v d rfl rfl A _ b E hr hb hf4) (fun z s5 x => ?_) fun _ _ x => x
    obtain ⟨H5, m5, h5', t5, rfl, hf5, t, e, q⟩ := x
    rw [nv_bool e]
    exact wpAny_truthy_bool ⟨H5, m5, h5', t5, rfl, hf5, q⟩
noncomputable def BmOk (w : World) (bm : Addr) : Prop := ∃ ob : Obj, nsIn (KK PW w.params) mainGlobals "__builtins__" = some (some (.ref bm)) ∧ bm ≠ builtinsNs ∧ bm ≠ mainGlobals ∧ (KK PW w.params).lookup bm = some ob ∧ ob.cls = .type "module" ∧ ob.dict = some builtinsNs ∧ ob.data = .plain
theorem e1_def {name : Str} {params : Arguments} {body : List Stmt} {scope : Scope} {pos : Pos} {cl : List (Str × Addr)} {c P bm : Addr} (hd0 : params.defaults = []) (hk0 : params.kw_defaults = []) (ha : annTrees params none env = [])
    (hcl : closureFor scope env = pure cl) (hg0 : env.globals = mainGlobals) (hcode : env.code = .ref c) (hC : ∀ h, (KK PW w.params).In h → CodeHd h c P) (hP : H P = some (.raw (tabObj #[]))) (hbm : BmOk w bm)
    (q : ∀ f c' oc vs t ctv doc ps pm, H f = none → f ≠ env.locals → H c' = none → c' ≠ env.locals → f ≠ c' → f ≠ P → c' ≠ P → oc.data = .fields vs → vs[1]? = some (.str (qualnameIn env name name) t) →
      AW w k env (storeName env name (.ref f)) (fun _ => QF .next) (upd (upd (upd H P (.raw (tabObj ps))) c' (.raw oc)) f (.raw (fnMade name (qualnameIn env name name) params body scope cl doc pm c' ctv))) m) :
    E1 w k env (.FunctionDef name params body [] none [] scope none name pos) QF H m := by
  intro A s b E hr hb hf
  obtain ⟨ob, b1, b2, b3, b4, b5, b6, b7⟩ := hbm
  have X := hb.k.keeps hf.keep
  obtain ⟨mg, hm⟩ := hb.g
  have hgs := hm.keeps hf.keep
  obtain ⟨_, _, eP⟩ := hf.at_ hP
  have eP' : s.heap.get? P = some (tabObj #[]) := eP
  have eb := X _ _ b4
  have hgP : mainGlobals ≠ P := fun z => by
    obtain ⟨o, es, ep, e, hd, _⟩ := hgs
    rw [z, eP'] at e; cases e; cases hd
  have hbP : bm ≠ P := fun z => by
    rw [z, eP'] at eb; cases eb; cases b5
  refine nestDef_K hd0 hk0 ha (makeFunction_K (mg := mg) hcl hg0 hgs hcode (hC _ X) eP' True.intro rfl hgP ⟨bm, ob, mg_of hb.k hm b1, b2, b3, hbP, eb, b5, b6, b7⟩ fun c' ctv doc h' tk hx hge hlt hrec htb => ?_)
  obtain ⟨c2, oc, vs, t, e2, hoc, hd, hv⟩ := hrec
  cases e2
  obtain ⟨h0, dx, R⟩ := hf
  have neP : P ≠ env.locals := by rintro rfl; rw [h0] at hP; cases hP
  have hs : ∀ a o, upd H env.locals (.ns m) a = some o → a < s.heap.objs.size := fun a o e => R.lt e
  have ncL : c' ≠ env.locals := fun z => by
    have := hs env.locals _ (upd_self ..)
    rw [← z] at this; exact absurd (Nat.lt_of_lt_of_le this hge) (Nat.lt_irrefl _)
  have hc' : H c' = none := by
    cases e : H c' with
    | none => rfl
    | some o => exact absurd (Nat.lt_of_lt_of_le (hs c' o (by rw [upd_ne _ _ ncL]; exact e)) hge) (Nat.lt_irrefl _)
  have ncP : c' ≠ P := fun z => by rw [z, hP] at hc'; cases hc'
  have bc : b.get? c' = none := by
    cases e : b.get? c' with
    | none => rfl
    | some o => exact absurd (Nat.lt_of_lt_of_le (Heap.lt_size (R.keep _ _ e)) hge) (Nat.lt_irrefl _)
  have R1 := R.turn (c := P) (o' := .raw (tabObj (#[] ++ #[rawInt pos.line, rawInt pos.col, .ref c']))) (h' := h') (by rw [upd_ne _ _ neP]; exact hP) (fun C fs z => by cases z) (fun a ob ne e => hx a ob ne e) htb
  have hdx : ∀ a C fs, upd (upd H env.locals (.ns m)) P (.raw (tabObj (#[] ++ #[rawInt pos.line, rawInt pos.col, .ref c']))) a = some (.inst C fs) → dx a < s.heap.objs.size := fun a C fs e => by
    by_cases z : a = P
    · subst z; rw [upd_self] at e; cases e
    · rw [upd_ne _ _ z] at e; exact R.dlt e
  have R2 := R1.put (a := c') (o := .raw oc) (fun C fs z => by cases z) (fun a C fs e z => absurd (Nat.lt_of_lt_of_le (z ▸ hdx a C fs e) hge) (Nat.lt_irrefl _)) bc hoc
  have F2 : Fl w b env (upd (upd H P (.raw (tabObj (#[] ++ #[rawInt pos.line, rawInt pos.col, .ref c'])))) c' (.raw oc)) m h' := by
    refine ⟨by rw [upd_ne _ _ (Ne.symm ncL), upd_ne _ _ (Ne.symm neP)]; exact h0, dx, ?_⟩
    rw [upd_comm _ _ _ ncL, upd_comm _ _ _ neP]; exact R2
  obtain ⟨f1, f2, f3⟩ := F2.push (ob := fnMade name (qualnameIn env name name) params body scope cl doc ((mg "__name__").getD .none) c' ctv) (o := .raw (fnMade name (qualnameIn env name name) params body scope cl doc ((mg "__name__").getD .none) c' ctv)) (fun C fs z => by cases z) fun dx => Heap.get?_push_size _ rfl
  have nfc : h'.objs.size ≠ c' := fun z => absurd (z ▸ hlt) (Nat.lt_irrefl _)
  rw [upd_ne _ _ nfc] at f1
  have nfP : h'.objs.size ≠ P := fun z => by rw [z, upd_self] at f1; cases f1
  rw [upd_ne _ _ nfP] at f1
  refine wpAny_mono (q h'.objs.size c' oc vs t ctv doc _ _ f1 f2 hc' ncL nfc nfP ncP hd hv A _ b E hr hb f3) (fun _ s5 z => ?_) fun _ _ x => x
  obtain ⟨H5, m5, h5, t5, rfl, F5, q⟩ := z
  exact ⟨H5, m5, h5, t5, rfl, F5, q⟩
theorem tc_raw {f c' : Addr} {name qual : Str} {params : Arguments} {body : List Stmt} {scope : Scope} {cl : List (Str × Addr)} {doc pm ctv : Value} {oc : Obj} {vs : Array Value} {t : Tok} {args : List Value} {m0 : Lc} {Q : Value → AH → Prop}
    (hf : H f = some (.raw (fnMade name qual params body scope cl doc pm c' ctv))) (hc : H c' = some (.raw oc)) (hd : oc.data = .fields vs) (hv : vs[1]? = some (.str qual t)) (hcell : (scope.names.all fun x => x.2 != .cell) = true)
    (hbind : BindOk w (fnX name qual params body scope cl .none .none doc pm none (.ref c') ctv) args m0) (hm : (m0.all fun x => scope.names.lookup x.1 == some .local) = true)
    (h : ∀ L, H L = none → EX w k (callEnv (fnX name qual params body scope cl .none .none doc pm none (.ref c') ctv) L f) body (fun fl H _ => Q (retOf fl) H) H m0)
    (hco : scope.isCoroutine = false) (hgen : scope.isGenerator = false) (hk : scope.kind = .function) : TC w (k + 1) (.ref f) args Q H := by
  intro A s b R us hr hb Rh e hR
  obtain ⟨binds, hbd, em⟩ := hbind us e
  have hA := hr.depth; have hU := hr.units
  have X := hb.k.keeps Rh.keep
  have Rh0 := Rh
  obtain ⟨dx, R0⟩ := Rh
  have ef : s.heap.get? f = some (fnMade name qual params body scope cl doc pm c' ctv) := R0.cell _ _ hf
  have ec : s.heap.get? c' = some oc := R0.cell _ _ hc
  refine codeAny_call_def (fd := fnX name qual params body scope cl .none .none doc pm none (.ref c') ctv) (binds := binds) (by omega) ef rfl (hb.lim.keeps Rh0.keep) ⟨c', oc, vs, t, rfl, ec, hd, hv⟩ rfl (hbd s X) (fun x hx => ?_) (fun x hx => ?_) (fun h1 hns hk1 => ?_) hco hgen hk
  · have := List.all_eq_true.mp hcell x hx; simpa using this
  · subst em
    have := List.all_eq_true.mp hm (x.1, nv x.2) (List.mem_map.mpr ⟨x, List.mem_reverse.mpr hx, rfl⟩)
    exact beq_iff_eq.mp this
  · obtain ⟨h0, F⟩ := fl_frame (env := callEnv (fnX name qual params body scope cl .none .none doc pm none (.ref c') ctv) s.heap.objs.size f) Rh0 rfl hns hk1 em
    refine wpAny_mono (h s.heap.objs.size h0 (A.deeper _) _ b _ ⟨hr.handled, ?_, ?_⟩ hb F) (fun fl s' x => ?_) fun _ _ x => x
    · show A.depth + 1 + 4 * k < _; omega
    · show A.units + 3 + 40 * k < _; omega
    · obtain ⟨H', m', h', t', rfl, F', q⟩ := x
      refine hR _ _ ⟨H', h', t', rfl, F'.rl, ?_⟩
      cases fl <;> exact q
end
noncomputable def fdo (x q : Str) (s : Stmt) (d pm c : Value) : FuncData := { name := x, qualname := q, params := fA s, body := .stmts (fB s), scope := fS s, globals := 3, closure := [], defaults := d, kwdefaults := .none, doc := .none, pyModule := pm, annotations := none, code := c, closureTuple := .none, builtins := 0 }
noncomputable def lkr : List (Str × Value) → Str → Option Value
  | [], _ => none
  | (n, v) :: r, x => match n == x with
    | true => some v
    | false => lkr r x
theorem lkr_map {F : Str → Option (Option Value)} : ∀ {l : List (Str × Value)} {x : Str} {v : Value}, (l.map fun p => F p.1) = (l.map fun p => some (some p.2)) → lkr l x = some v → F x = some (some v)
  | [], _, _, _, h => by cases h
  | (n, u) :: r, x, v, e, h => by
    obtain ⟨e1, e2⟩ := List.cons.inj e
    unfold lkr at h
    cases hb : n == x with
    | true => rw [hb] at h; cases h; rw [← beq_iff_eq.mp hb]; exact e1
    | false => rw [hb] at h; exact lkr_map e2 h
theorem lkr_map2 {F : Str → Option (Option Value) × Option Value} : ∀ {l : List (Str × Value)} {x : Str} {v : Value}, (l.map fun p => F p.1) = (l.map fun p => (some none, some p.2)) → lkr l x = some v → F x = (some none, some v)
  | [], _, _, _, h => by cases h
  | (n, u) :: r, x, v, e, h => by
    obtain ⟨e1, e2⟩ := List.cons.inj e
    unfold lkr at h
    cases hb : n == x with
    | true => rw [hb] at h; cases h; rw [← beq_iff_eq.mp hb]; exact e1
    | false => rw [hb] at h; exact lkr_map2 e2 h
noncomputable def GLT : List (Str × Value) := ("Buffer", .ref 186) :: ("ClassDef", .ref 757) :: ("Contexts", .ref 467) :: ("Coverage", .ref 384) :: ("Gdef", .ref 805) :: ("Info", .ref 142) :: ("KINDS_AROUND", .ref 228) :: ("KINDS_IN_INPUT", .ref 227) :: ("Lookup", .ref 43) :: ("Multiple", .ref 647) :: ("Places", .ref 510) :: ("Reverse", .ref 588) :: ("Rule", .ref 426) :: ("Scene", .ref 65) :: ("Single", .ref 621) :: ("_law_CLASSES", .ref 816) :: ("_law_FLAGS", .ref 817) :: ("_law_mapping", .ref 829) :: ("_law_passed", .ref 836) :: ("_law_taker", .ref 824) :: ("ahead_at", .ref 280) :: ("apply_alternate", .ref 679) :: ("apply_context", .ref 566) :: ("apply_ligature", .ref 346) :: ("apply_multiple", .ref 665) :: ("apply_reverse", .ref 599) :: ("apply_single", .ref 658) :: ("apply_table", .ref 686) :: ("attach_wanted", .ref 76) :: ("back_at", .ref 287) :: ("class_bit", .ref 83) :: ("cover_tests", .ref 238) :: ("coverage_of", .ref 395) :: ("do_action", .ref 552) :: ("do_actions", .ref 559) :: ("drop_cluster", .ref 219) :: ("fits", .ref 245) :: ("found_at", .ref 259) :: ("grow", .ref 533) :: ("hang", .ref 214) :: ("inner_scene", .ref 528) :: ("input_at", .ref 266) :: ("is_ignored", .ref 90) :: ("last_at", .ref 273) :: ("match_rule", .ref 521) :: ("merge", .ref 209) :: ("move", .ref 545) :: ("nested_scene", .ref 111) :: ("passes", .ref 97) :: ("put", .ref 226) :: ("rules_at", .ref 493) :: ("run_backward", .ref 707) :: ("run_forward", .ref 700) :: ("run_substitution", .ref 714) :: ("set_cluster", .ref 197) :: ("shrink", .ref 538) :: ("substitute_at", .ref 693) :: ("takes", .ref 104) :: ("tests_of", .ref 481) :: ("widened", .ref 204) :: ("rule_tests", .ref 488) :: []
noncomputable def GIT : List (Str × Value) := [("BASE_gdef", .int (1) 1313), ("BY_CLASSES", .int (2) 764), ("BY_GLYPHS", .int (1) 762), ("COMPONENT", .int (4) 1315), ("IGNORE_BASES", .int (2) 196), ("IGNORE_LIGATURES", .int (4) 198), ("IGNORE_MARKS", .int (8) 200), ("MOST_DEPTH", .int (6) 907), ("MOST_PLACES", .int (64) 909), ("NO_CLASS", .int (0) 1311), ("USE_SET", .int (16) 202)]
noncomputable def BIT : List (Str × Value) := [("dict", .type "dict"), ("len", .builtin "len"), ("list", .type "list"), ("min", .builtin "min"), ("range", .type "range"), ("sorted", .builtin "sorted"), ("tuple", .type "tuple")]
theorem gl_of (P : Params) {x : Str} {v : Value} (h : lkr GLT x = some v) : nsIn (KK PW P) mainGlobals x = some (some v) := lkr_map (F := nsIn (KK PW P) mainGlobals) (by kernel_rfl) h
theorem gi_of (P : Params) {x : Str} {v : Value} (h : lkr GIT x = some v) : nsIn (KK PW P) mainGlobals x = some (some v) := lkr_map (F := nsIn (KK PW P) mainGlobals) (by kernel_rfl) h
theorem bi_of (P : Params) {x : Str} {v : Value} (h : lkr BIT x = some v) : (nsIn (KK PW P) mainGlobals x, bootBuiltins x) = (some none, some v) := lkr_map2 (F := fun x => (nsIn (KK PW P) mainGlobals x, bootBuiltins x)) (by kernel_rfl) h
noncomputable def inT (l : List (Addr × List Str)) (C : Addr) (x : Str) : Bool := match l with
  | [] => false
  | p :: r => match Nat.beq p.1 C with
    | true => p.2.contains x
    | false => inT r C x
theorem inT_all {F : Addr → Str → Bool} : ∀ {l : List (Addr × List Str)} {C : Addr} {x : Str}, (l.all fun p => p.2.all (F p.1)) = true → inT l C x = true → F C x = true
  | [], _, _, _, h => by cases h
  | p :: r, C, x, e, h => by
    rw [List.all_cons, Bool.and_eq_true] at e
    unfold inT at h
    cases hb : Nat.beq p.1 C with
    | true => rw [hb] at h; rw [← Nat.eq_of_beq_eq_true hb]; exact List.all_eq_true.mp e.1 x (List.contains_iff_mem.mp h)
    | false => rw [hb] at h; exact inT_all e.2 h
noncomputable def FKT : List (Addr × List Str) := [(43, ["kind", "flag", "tables"]), (65, ["buffer", "gdef", "lookups", "lookup", "mask", "depth"]), (142, ["code", "glyph", "cluster", "mask", "is_unsafe", "lig_id", "lig_part", "lig_count", "kind", "x_advance", "y_advance", "x_offset", "y_offset", "parent", "bond"]), (186, ["row"]), (384, ["glyphs"]), (426, ["back", "inside", "ahead", "actions"]), (467, ["form", "sets"]), (510, ["row", "end"]), (621, ["mapping"]), (647, ["mapping"]), (757, ["classes"]), (805, ["classes"])]
noncomputable def SKT : List (Addr × List Str) := [(43, ["kind", "flag", "mark_set", "tables"]), (65, ["buffer", "gdef", "lookups", "lookup", "mask", "depth"]), (142, ["code", "glyph", "cluster", "mask", "is_unsafe", "lig_id", "lig_part", "lig_count", "kind", "x_advance", "y_advance", "x_offset", "y_offset", "parent", "bond"]), (186, ["row", "is_backward", "last_lig"]), (384, ["glyphs"]), (426, ["back", "inside", "ahead", "actions"]), (467, ["form", "is_chained", "sets", "coverage", "classes"]), (510, ["row", "end"]), (588, ["mapping", "back", "ahead"]), (621, ["mapping"]), (647, ["mapping"]), (757, ["classes"]), (805, ["classes", "attach", "sets", "points", "carets"])]
theorem fk_of {C : Addr} {x : Str} (h : inT FKT C x = true) : FieldOk C x := fun P => inT_all (F := fun C x => (plainGet (KK PW P) C x && hasDictIn (KK PW P) C && (match findIn (KK PW P) (.ref C) x with | some a => noGet (KK PW P) a | none => false))) (by kernel_rfl) h
theorem sk_of {C : Addr} {x : Str} (h : inT SKT C x = true) : StoreOk C x := fun P => inT_all (F := fun C x => (findIn (KK PW P) (.ref C) "__setattr__" == some (some (.builtin "object.__setattr__")) && plainOver (KK PW P) C && (takerIn (KK PW P) C x == some none) && hasDictIn (KK PW P) C)) (by kernel_rfl) h
theorem sp1 {P : List Value → Value → Prop} {us : List Value} {a0 : Value} (e : us.map nv = [a0]) (h : ∀ u0, P [u0] (nv u0)) : P us a0 := by
  obtain ⟨u0, us, rfl, e0, e⟩ := map_cons e
  cases map_nil' e
  subst e0
  exact h u0
theorem sp2 {P : List Value → Value → Value → Prop} {us : List Value} {a0 a1 : Value} (e : us.map nv = [a0, a1]) (h : ∀ u0 u1, P [u0, u1] (nv u0) (nv u1)) : P us a0 a1 := by
  obtain ⟨u0, us, rfl, e0, e⟩ := map_cons e
  obtain ⟨u1, us, rfl, e1, e⟩ := map_cons e
  cases map_nil' e
  subst e0
  subst e1
  exact h u0 u1
theorem sp3 {P : List Value → Value → Value → Value → Prop} {us : List Value} {a0 a1 a2 : Value} (e : us.map nv = [a0, a1, a2]) (h : ∀ u0 u1 u2, P [u0, u1, u2] (nv u0) (nv u1) (nv u2)) : P us a0 a1 a2 := by
  obtain ⟨u0, us, rfl, e0, e⟩ := map_cons e
  obtain ⟨u1, us, rfl, e1, e⟩ := map_cons e
  obtain ⟨u2, us, rfl, e2, e⟩ := map_cons e
  cases map_nil' e
  subst e0
  subst e1
  subst e2
  exact h u0 u1 u2
theorem sp4 {P : List Value → Value → Value → Value → Value → Prop} {us : List Value} {a0 a1 a2 a3 : Value} (e : us.map nv = [a0, a1, a2, a3]) (h : ∀ u0 u1 u2 u3, P [u0, u1, u2, u3] (nv u0) (nv u1) (nv u2) (nv u3)) : P us a0 a1 a2 a3 := by
  obtain ⟨u0, us, rfl, e0, e⟩ := map_cons e
  obtain ⟨u1, us, rfl, e1, e⟩ := map_cons e
  obtain ⟨u2, us, rfl, e2, e⟩ := map_cons e
  obtain ⟨u3, us, rfl, e3, e⟩ := map_cons e
  cases map_nil' e
  subst e0
  subst e1
  subst e2
  subst e3
  exact h u0 u1 u2 u3
theorem sp5 {P : List Value → Value → Value → Value → Value → Value → Prop} {us : List Value} {a0 a1 a2 a3 a4 : Value} (e : us.map nv = [a0, a1, a2, a3, a4]) (h : ∀ u0 u1 u2 u3 u4, P [u0, u1, u2, u3, u4] (nv u0) (nv u1) (nv u2) (nv u3) (nv u4)) : P us a0 a1 a2 a3 a4 := by
  obtain ⟨u0, us, rfl, e0, e⟩ := map_cons e
  obtain ⟨u1, us, rfl, e1, e⟩ := map_cons e
  obtain ⟨u2, us, rfl, e2, e⟩ := map_cons e
  obtain ⟨u3, us, rfl, e3, e⟩ := map_cons e
  obtain ⟨u4, us, rfl, e4, e⟩ := map_cons e
  cases map_nil' e
  subst e0
  subst e1
  subst e2
  subst e3
  subst e4
  exact h u0 u1 u2 u3 u4
theorem sp6 {P : List Value → Value → Value → Value → Value → Value → Value → Prop} {us : List Value} {a0 a1 a2 a3 a4 a5 : Value} (e : us.map nv = [a0, a1, a2, a3, a4, a5]) (h : ∀ u0 u1 u2 u3 u4 u5, P [u0, u1, u2, u3, u4, u5] (nv u0) (nv u1) (nv u2) (nv u3) (nv u4) (nv u5)) : P us a0 a1 a2 a3 a4 a5 := by
  obtain ⟨u0, us, rfl, e0, e⟩ := map_cons e
  obtain ⟨u1, us, rfl, e1, e⟩ := map_cons e
  obtain ⟨u2, us, rfl, e2, e⟩ := map_cons e
  obtain ⟨u3, us, rfl, e3, e⟩ := map_cons e
  obtain ⟨u4, us, rfl, e4, e⟩ := map_cons e
  obtain ⟨u5, us, rfl, e5, e⟩ := map_cons e
  cases map_nil' e
  subst e0
  subst e1
  subst e2
  subst e3
  subst e4
  subst e5
  exact h u0 u1 u2 u3 u4 u5
theorem sp7 {P : List Value → Value → Value → Value → Value → Value → Value → Value → Prop} {us : List Value} {a0 a1 a2 a3 a4 a5 a6 : Value} (e : us.map nv = [a0, a1, a2, a3, a4, a5, a6]) (h : ∀ u0 u1 u2 u3 u4 u5 u6, P [u0, u1, u2, u3, u4, u5, u6] (nv u0) (nv u1) (nv u2) (nv u3) (nv u4) (nv u5) (nv u6)) : P us a0 a1 a2 a3 a4 a5 a6 := by
  obtain ⟨u0, us, rfl, e0, e⟩ := map_cons e
  obtain ⟨u1, us, rfl, e1, e⟩ := map_cons e
  obtain ⟨u2, us, rfl, e2, e⟩ := map_cons e
  obtain ⟨u3, us, rfl, e3, e⟩ := map_cons e
  obtain ⟨u4, us, rfl, e4, e⟩ := map_cons e
  obtain ⟨u5, us, rfl, e5, e⟩ := map_cons e
  obtain ⟨u6, us, rfl, e6, e⟩ := map_cons e
  cases map_nil' e
  subst e0
  subst e1
  subst e2
  subst e3
  subst e4
  subst e5
  subst e6
  exact h u0 u1 u2 u3 u4 u5 u6
noncomputable def env_35 (L : Addr) : Env := callEnv (fdo Mine.n10 Mine.n18 (me PW 6 0) .none (.str Mine.n6 194) (.ref 34)) L 35
theorem fn_35 {w : World} {k : Nat} {a0 a1 a2 a3 a4 : Value} {Q : Value → AH → Prop} {H : AH} (h : ∀ L, H L = none → EX w k (env_35 L) (fB (me PW 6 0)) (fun fl H _ => Q (retOf fl) H) H [("tables", a4), ("mark_set", a3), ("flag", a2), ("kind", a1), ("self", a0)]) : TC w (k + 1) (.ref 35) [a0, a1, a2, a3, a4] Q H := by
  refine tc_def (fd := (fdo Mine.n10 Mine.n18 (me PW 6 0) .none (.str Mine.n6 194) (.ref 34))) (oc := .type "function") (od := none) (sl := Array.mk []) (m0 := [("tables", a4), ("mark_set", a3), ("flag", a2), ("kind", a1), ("self", a0)]) (by kernel_rfl) rfl (by kernel_rfl) (by kernel_rfl) (fun us e => ?_) (by kernel_rfl) h (by kernel_rfl) (by kernel_rfl) (by kernel_rfl)
  apply sp5 e; exact fun u0 u1 u2 u3 u4 => ⟨[("self", u0), ("kind", u1), ("flag", u2), ("mark_set", u3), ("tables", u4)], fun s _ => BindsTo.of_eq (by kernel_rfl), rfl⟩
noncomputable def env_62 (L : Addr) : Env := callEnv (fdo Mine.n10 Mine.n30 (me PW 7 0) (.ref 55) (.str Mine.n6 194) (.ref 61)) L 62
theorem fn_62 {w : World} {k : Nat} {a0 a1 a2 a3 a4 a5 a6 : Value} {Q : Value → AH → Prop} {H : AH} (h : ∀ L, H L = none → EX w k (env_62 L) (fB (me PW 7 0)) (fun fl H _ => Q (retOf fl) H) H [("depth", a6), ("mask", a5), ("lookup", a4), ("lookups", a3), ("gdef", a2), ("buffer", a1), ("self", a0)]) : TC w (k + 1) (.ref 62) [a0, a1, a2, a3, a4, a5, a6] Q H := by
  refine tc_def (fd := (fdo Mine.n10 Mine.n30 (me PW 7 0) (.ref 55) (.str Mine.n6 194) (.ref 61))) (oc := .type "function") (od := none) (sl := Array.mk []) (m0 := [("depth", a6), ("mask", a5), ("lookup", a4), ("lookups", a3), ("gdef", a2), ("buffer", a1), ("self", a0)]) (by kernel_rfl) rfl (by kernel_rfl) (by kernel_rfl) (fun us e => ?_) (by kernel_rfl) h (by kernel_rfl) (by kernel_rfl) (by kernel_rfl)
  apply sp7 e; exact fun u0 u1 u2 u3 u4 u5 u6 => ⟨[("self", u0), ("buffer", u1), ("gdef", u2), ("lookups", u3), ("lookup", u4), ("mask", u5), ("depth", u6)], fun s X => binds_K (T := 55) (o := Mine.tp [.int 0 257]) (items := Array.mk [.int 0 257]) (n := 0) X rfl (by kernel_rfl) rfl rfl (by kernel_rfl), rfl⟩
theorem fn_62_1 {w : World} {k : Nat} {a0 a1 a2 a3 a4 a5 : Value} {Q : Value → AH → Prop} {H : AH} (h : ∀ L, H L = none → EX w k (env_62 L) (fB (me PW 7 0)) (fun fl H _ => Q (retOf fl) H) H [("depth", .int 0 0), ("mask", a5), ("lookup", a4), ("lookups", a3), ("gdef", a2), ("buffer", a1), ("self", a0)]) : TC w (k + 1) (.ref 62) [a0, a1, a2, a3, a4, a5] Q H := by
  refine tc_def (fd := (fdo Mine.n10 Mine.n30 (me PW 7 0) (.ref 55) (.str Mine.n6 194) (.ref 61))) (oc := .type "function") (od := none) (sl := Array.mk []) (m0 := [("depth", .int 0 0), ("mask", a5), ("lookup", a4), ("lookups", a3), ("gdef", a2), ("buffer", a1), ("self", a0)]) (by kernel_rfl) rfl (by kernel_rfl) (by kernel_rfl) (fun us e => ?_) (by kernel_rfl) h (by kernel_rfl) (by kernel_rfl) (by kernel_rfl)
  apply sp6 e; exact fun u0 u1 u2 u3 u4 u5 => ⟨[("self", u0), ("buffer", u1), ("gdef", u2), ("lookups", u3), ("lookup", u4), ("mask", u5), ("depth", .int 0 257)], fun s X => binds_K (T := 55) (o := Mine.tp [.int 0 257]) (items := Array.mk [.int 0 257]) (n := 0) X rfl (by kernel_rfl) rfl rfl (by kernel_rfl), rfl⟩
noncomputable def env_76 (L : Addr) : Env := callEnv (fdo Mine.n31 Mine.n31 (st PW 8) .none (.str Mine.n6 194) (.ref 75)) L 76
theorem fn_76 {w : World} {k : Nat} {a0 : Value} {Q : Value → AH → Prop} {H : AH} (h : ∀ L, H L = none → EX w k (env_76 L) (fB (st PW 8)) (fun fl H _ => Q (retOf fl) H) H [("flag", a0)]) : TC w (k + 1) (.ref 76) [a0] Q H := by
  refine tc_def (fd := (fdo Mine.n31 Mine.n31 (st PW 8) .none (.str Mine.n6 194) (.ref 75))) (oc := .type "function") (od := none) (sl := Array.mk []) (m0 := [("flag", a0)]) (by kernel_rfl) rfl (by kernel_rfl) (by kernel_rfl) (fun us e => ?_) (by kernel_rfl) h (by kernel_rfl) (by kernel_rfl) (by kernel_rfl)
  apply sp1 e; exact fun u0 => ⟨[("flag", u0)], fun s _ => BindsTo.of_eq (by kernel_rfl), rfl⟩
noncomputable def env_83 (L : Addr) : Env := callEnv (fdo Mine.n33 Mine.n33 (st PW 9) .none (.str Mine.n6 194) (.ref 82)) L 83
theorem fn_83 {w : World} {k : Nat} {a0 : Value} {Q : Value → AH → Prop} {H : AH} (h : ∀ L, H L = none → EX w k (env_83 L) (fB (st PW 9)) (fun fl H _ => Q (retOf fl) H) H [("number", a0)]) : TC w (k + 1) (.ref 83) [a0] Q H := by
  refine tc_def (fd := (fdo Mine.n33 Mine.n33 (st PW 9) .none (.str Mine.n6 194) (.ref 82))) (oc := .type "function") (od := none) (sl := Array.mk []) (m0 := [("number", a0)]) (by kernel_rfl) rfl (by kernel_rfl) (by kernel_rfl) (fun us e => ?_) (by kernel_rfl) h (by kernel_rfl) (by kernel_rfl) (by kernel_rfl)
  apply sp1 e; exact fun u0 => ⟨[("number", u0)], fun s _ => BindsTo.of_eq (by kernel_rfl), rfl⟩
noncomputable def env_90 (L : Addr) : Env := callEnv (fdo Mine.n36 Mine.n36 (st PW 10) .none (.str Mine.n6 194) (.ref 89)) L 90
theorem fn_90 {w : World} {k : Nat} {a0 a1 a2 : Value} {Q : Value → AH → Prop} {H : AH} (h : ∀ L, H L = none → EX w k (env_90 L) (fB (st PW 10)) (fun fl H _ => Q (retOf fl) H) H [("glyph", a2), ("lookup", a1), ("gdef", a0)]) : TC w (k + 1) (.ref 90) [a0, a1, a2] Q H := by
  refine tc_def (fd := (fdo Mine.n36 Mine.n36 (st PW 10) .none (.str Mine.n6 194) (.ref 89))) (oc := .type "function") (od := none) (sl := Array.mk []) (m0 := [("glyph", a2), ("lookup", a1), ("gdef", a0)]) (by kernel_rfl) rfl (by kernel_rfl) (by kernel_rfl) (fun us e => ?_) (by kernel_rfl) h (by kernel_rfl) (by kernel_rfl) (by kernel_rfl)
  apply sp3 e; exact fun u0 u1 u2 => ⟨[("gdef", u0), ("lookup", u1), ("glyph", u2)], fun s _ => BindsTo.of_eq (by kernel_rfl), rfl⟩
noncomputable def env_97 (L : Addr) : Env := callEnv (fdo Mine.n39 Mine.n39 (st PW 11) .none (.str Mine.n6 194) (.ref 96)) L 97
theorem fn_97 {w : World} {k : Nat} {a0 a1 : Value} {Q : Value → AH → Prop} {H : AH} (h : ∀ L, H L = none → EX w k (env_97 L) (fB (st PW 11)) (fun fl H _ => Q (retOf fl) H) H [("at", a1), ("scene", a0)]) : TC w (k + 1) (.ref 97) [a0, a1] Q H := by
  refine tc_def (fd := (fdo Mine.n39 Mine.n39 (st PW 11) .none (.str Mine.n6 194) (.ref 96))) (oc := .type "function") (od := none) (sl := Array.mk []) (m0 := [("at", a1), ("scene", a0)]) (by kernel_rfl) rfl (by kernel_rfl) (by kernel_rfl) (fun us e => ?_) (by kernel_rfl) h (by kernel_rfl) (by kernel_rfl) (by kernel_rfl)
  apply sp2 e; exact fun u0 u1 => ⟨[("scene", u0), ("at", u1)], fun s _ => BindsTo.of_eq (by kernel_rfl), rfl⟩
noncomputable def env_104 (L : Addr) : Env := callEnv (fdo Mine.n40 Mine.n40 (st PW 12) .none (.str Mine.n6 194) (.ref 103)) L 104
theorem fn_104 {w : World} {k : Nat} {a0 a1 : Value} {Q : Value → AH → Prop} {H : AH} (h : ∀ L, H L = none → EX w k (env_104 L) (fB (st PW 12)) (fun fl H _ => Q (retOf fl) H) H [("at", a1), ("scene", a0)]) : TC w (k + 1) (.ref 104) [a0, a1] Q H := by
  refine tc_def (fd := (fdo Mine.n40 Mine.n40 (st PW 12) .none (.str Mine.n6 194) (.ref 103))) (oc := .type "function") (od := none) (sl := Array.mk []) (m0 := [("at", a1), ("scene", a0)]) (by kernel_rfl) rfl (by kernel_rfl) (by kernel_rfl) (fun us e => ?_) (by kernel_rfl) h (by kernel_rfl) (by kernel_rfl) (by kernel_rfl)
  apply sp2 e; exact fun u0 u1 => ⟨[("scene", u0), ("at", u1)], fun s _ => BindsTo.of_eq (by kernel_rfl), rfl⟩
noncomputable def env_111 (L : Addr) : Env := callEnv (fdo Mine.n41 Mine.n41 (st PW 13) .none (.str Mine.n6 194) (.ref 110)) L 111
theorem fn_111 {w : World} {k : Nat} {a0 a1 : Value} {Q : Value → AH → Prop} {H : AH} (h : ∀ L, H L = none → EX w k (env_111 L) (fB (st PW 13)) (fun fl H _ => Q (retOf fl) H) H [("number", a1), ("scene", a0)]) : TC w (k + 1) (.ref 111) [a0, a1] Q H := by
  refine tc_def (fd := (fdo Mine.n41 Mine.n41 (st PW 13) .none (.str Mine.n6 194) (.ref 110))) (oc := .type "function") (od := none) (sl := Array.mk []) (m0 := [("number", a1), ("scene", a0)]) (by kernel_rfl) rfl (by kernel_rfl) (by kernel_rfl) (fun us e => ?_) (by kernel_rfl) h (by kernel_rfl) (by kernel_rfl) (by kernel_rfl)
  apply sp2 e; exact fun u0 u1 => ⟨[("scene", u0), ("number", u1)], fun s _ => BindsTo.of_eq (by kernel_rfl), rfl⟩
noncomputable def env_125 (L : Addr) : Env := callEnv (fdo Mine.n10 Mine.n47 (me PW 15 0) .none (.str Mine.n42 334) (.ref 124)) L 125
theorem fn_125 {w : World} {k : Nat} {a0 a1 a2 a3 : Value} {Q : Value → AH → Prop} {H : AH} (h : ∀ L, H L = none → EX w k (env_125 L) (fB (me PW 15 0)) (fun fl H _ => Q (retOf fl) H) H [("cluster", a3), ("glyph", a2), ("code", a1), ("self", a0)]) : TC w (k + 1) (.ref 125) [a0, a1, a2, a3] Q H := by
  refine tc_def (fd := (fdo Mine.n10 Mine.n47 (me PW 15 0) .none (.str Mine.n42 334) (.ref 124))) (oc := .type "function") (od := none) (sl := Array.mk []) (m0 := [("cluster", a3), ("glyph", a2), ("code", a1), ("self", a0)]) (by kernel_rfl) rfl (by kernel_rfl) (by kernel_rfl) (fun us e => ?_) (by kernel_rfl) h (by kernel_rfl) (by kernel_rfl) (by kernel_rfl)
  apply sp4 e; exact fun u0 u1 u2 u3 => ⟨[("self", u0), ("code", u1), ("glyph", u2), ("cluster", u3)], fun s _ => BindsTo.of_eq (by kernel_rfl), rfl⟩
noncomputable def env_132 (L : Addr) : Env := callEnv (fdo Mine.n44 Mine.n49 (me PW 15 1) .none (.str Mine.n42 334) (.ref 131)) L 132
theorem fn_132 {w : World} {k : Nat} {a0 : Value} {Q : Value → AH → Prop} {H : AH} (h : ∀ L, H L = none → EX w k (env_132 L) (fB (me PW 15 1)) (fun fl H _ => Q (retOf fl) H) H [("self", a0)]) : TC w (k + 1) (.ref 132) [a0] Q H := by
  refine tc_def (fd := (fdo Mine.n44 Mine.n49 (me PW 15 1) .none (.str Mine.n42 334) (.ref 131))) (oc := .type "function") (od := none) (sl := Array.mk []) (m0 := [("self", a0)]) (by kernel_rfl) rfl (by kernel_rfl) (by kernel_rfl) (fun us e => ?_) (by kernel_rfl) h (by kernel_rfl) (by kernel_rfl) (by kernel_rfl)
  apply sp1 e; exact fun u0 => ⟨[("self", u0)], fun s _ => BindsTo.of_eq (by kernel_rfl), rfl⟩
noncomputable def env_161 (L : Addr) : Env := callEnv (fdo Mine.n10 Mine.n67 (me PW 16 0) (.ref 154) (.str Mine.n42 334) (.ref 160)) L 161
theorem fn_161_1 {w : World} {k : Nat} {a0 a1 : Value} {Q : Value → AH → Prop} {H : AH} (h : ∀ L, H L = none → EX w k (env_161 L) (fB (me PW 16 0)) (fun fl H _ => Q (retOf fl) H) H [("is_backward", .bool false), ("infos", a1), ("self", a0)]) : TC w (k + 1) (.ref 161) [a0, a1] Q H := by
  refine tc_def (fd := (fdo Mine.n10 Mine.n67 (me PW 16 0) (.ref 154) (.str Mine.n42 334) (.ref 160))) (oc := .type "function") (od := none) (sl := Array.mk []) (m0 := [("is_backward", .bool false), ("infos", a1), ("self", a0)]) (by kernel_rfl) rfl (by kernel_rfl) (by kernel_rfl) (fun us e => ?_) (by kernel_rfl) h (by kernel_rfl) (by kernel_rfl) (by kernel_rfl)
  apply sp2 e; exact fun u0 u1 => ⟨[("self", u0), ("infos", u1), ("is_backward", .bool false)], fun s X => binds_K (T := 154) (o := Mine.tp [.bool false]) (items := Array.mk [.bool false]) (n := 0) X rfl (by kernel_rfl) rfl rfl (by kernel_rfl), rfl⟩
noncomputable def env_209 (L : Addr) : Env := callEnv (fdo Mine.n81 Mine.n81 (st PW 19) .none (.str Mine.n42 334) (.ref 208)) L 209
theorem fn_209 {w : World} {k : Nat} {a0 a1 a2 : Value} {Q : Value → AH → Prop} {H : AH} (h : ∀ L, H L = none → EX w k (env_209 L) (fB (st PW 19)) (fun fl H _ => Q (retOf fl) H) H [("end", a2), ("begin", a1), ("buffer", a0)]) : TC w (k + 1) (.ref 209) [a0, a1, a2] Q H := by
  refine tc_def (fd := (fdo Mine.n81 Mine.n81 (st PW 19) .none (.str Mine.n42 334) (.ref 208))) (oc := .type "function") (od := none) (sl := Array.mk []) (m0 := [("end", a2), ("begin", a1), ("buffer", a0)]) (by kernel_rfl) rfl (by kernel_rfl) (by kernel_rfl) (fun us e => ?_) (by kernel_rfl) h (by kernel_rfl) (by kernel_rfl) (by kernel_rfl)
  apply sp3 e; exact fun u0 u1 u2 => ⟨[("buffer", u0), ("begin", u1), ("end", u2)], fun s _ => BindsTo.of_eq (by kernel_rfl), rfl⟩
noncomputable def env_214 (L : Addr) : Env := callEnv (fdo Mine.n82 Mine.n82 (st PW 20) .none (.str Mine.n42 334) (.ref 213)) L 214
theorem fn_214 {w : World} {k : Nat} {a0 a1 a2 : Value} {Q : Value → AH → Prop} {H : AH} (h : ∀ L, H L = none → EX w k (env_214 L) (fB (st PW 20)) (fun fl H _ => Q (retOf fl) H) H [("end", a2), ("begin", a1), ("buffer", a0)]) : TC w (k + 1) (.ref 214) [a0, a1, a2] Q H := by
  refine tc_def (fd := (fdo Mine.n82 Mine.n82 (st PW 20) .none (.str Mine.n42 334) (.ref 213))) (oc := .type "function") (od := none) (sl := Array.mk []) (m0 := [("end", a2), ("begin", a1), ("buffer", a0)]) (by kernel_rfl) rfl (by kernel_rfl) (by kernel_rfl) (fun us e => ?_) (by kernel_rfl) h (by kernel_rfl) (by kernel_rfl) (by kernel_rfl)
  apply sp3 e; exact fun u0 u1 u2 => ⟨[("buffer", u0), ("begin", u1), ("end", u2)], fun s _ => BindsTo.of_eq (by kernel_rfl), rfl⟩
noncomputable def env_226 (L : Addr) : Env := callEnv (fdo Mine.n85 Mine.n85 (st PW 22) .none (.str Mine.n42 334) (.ref 225)) L 226
theorem fn_226 {w : World} {k : Nat} {a0 a1 a2 a3 : Value} {Q : Value → AH → Prop} {H : AH} (h : ∀ L, H L = none → EX w k (env_226 L) (fB (st PW 22)) (fun fl H _ => Q (retOf fl) H) H [("glyphs", a3), ("count", a2), ("at", a1), ("buffer", a0)]) : TC w (k + 1) (.ref 226) [a0, a1, a2, a3] Q H := by
  refine tc_def (fd := (fdo Mine.n85 Mine.n85 (st PW 22) .none (.str Mine.n42 334) (.ref 225))) (oc := .type "function") (od := none) (sl := Array.mk []) (m0 := [("glyphs", a3), ("count", a2), ("at", a1), ("buffer", a0)]) (by kernel_rfl) rfl (by kernel_rfl) (by kernel_rfl) (fun us e => ?_) (by kernel_rfl) h (by kernel_rfl) (by kernel_rfl) (by kernel_rfl)
  apply sp4 e; exact fun u0 u1 u2 u3 => ⟨[("buffer", u0), ("at", u1), ("count", u2), ("glyphs", u3)], fun s _ => BindsTo.of_eq (by kernel_rfl), rfl⟩
noncomputable def env_245 (L : Addr) : Env := callEnv (fdo Mine.n93 Mine.n93 (st PW 28) .none (.str Mine.n90 504) (.ref 244)) L 245
theorem fn_245 {w : World} {k : Nat} {a0 a1 : Value} {Q : Value → AH → Prop} {H : AH} (h : ∀ L, H L = none → EX w k (env_245 L) (fB (st PW 28)) (fun fl H _ => Q (retOf fl) H) H [("glyph", a1), ("test", a0)]) : TC w (k + 1) (.ref 245) [a0, a1] Q H := by
  refine tc_def (fd := (fdo Mine.n93 Mine.n93 (st PW 28) .none (.str Mine.n90 504) (.ref 244))) (oc := .type "function") (od := none) (sl := Array.mk []) (m0 := [("glyph", a1), ("test", a0)]) (by kernel_rfl) rfl (by kernel_rfl) (by kernel_rfl) (fun us e => ?_) (by kernel_rfl) h (by kernel_rfl) (by kernel_rfl) (by kernel_rfl)
  apply sp2 e; exact fun u0 u1 => ⟨[("test", u0), ("glyph", u1)], fun s _ => BindsTo.of_eq (by kernel_rfl), rfl⟩
noncomputable def env_266 (L : Addr) : Env := callEnv (fdo Mine.n101 Mine.n101 (st PW 31) .none (.str Mine.n90 504) (.ref 265)) L 266
theorem fn_266 {w : World} {k : Nat} {a0 a1 a2 : Value} {Q : Value → AH → Prop} {H : AH} (h : ∀ L, H L = none → EX w k (env_266 L) (fB (st PW 31)) (fun fl H _ => Q (retOf fl) H) H [("tests", a2), ("at", a1), ("scene", a0)]) : TC w (k + 1) (.ref 266) [a0, a1, a2] Q H := by
  refine tc_def (fd := (fdo Mine.n101 Mine.n101 (st PW 31) .none (.str Mine.n90 504) (.ref 265))) (oc := .type "function") (od := none) (sl := Array.mk []) (m0 := [("tests", a2), ("at", a1), ("scene", a0)]) (by kernel_rfl) rfl (by kernel_rfl) (by kernel_rfl) (fun us e => ?_) (by kernel_rfl) h (by kernel_rfl) (by kernel_rfl) (by kernel_rfl)
  apply sp3 e; exact fun u0 u1 u2 => ⟨[("scene", u0), ("at", u1), ("tests", u2)], fun s _ => BindsTo.of_eq (by kernel_rfl), rfl⟩
noncomputable def env_273 (L : Addr) : Env := callEnv (fdo Mine.n102 Mine.n102 (st PW 32) .none (.str Mine.n90 504) (.ref 272)) L 273
theorem fn_273 {w : World} {k : Nat} {a0 a1 a2 a3 : Value} {Q : Value → AH → Prop} {H : AH} (h : ∀ L, H L = none → EX w k (env_273 L) (fB (st PW 32)) (fun fl H _ => Q (retOf fl) H) H [("tests", a3), ("step", a2), ("at", a1), ("scene", a0)]) : TC w (k + 1) (.ref 273) [a0, a1, a2, a3] Q H := by
  refine tc_def (fd := (fdo Mine.n102 Mine.n102 (st PW 32) .none (.str Mine.n90 504) (.ref 272))) (oc := .type "function") (od := none) (sl := Array.mk []) (m0 := [("tests", a3), ("step", a2), ("at", a1), ("scene", a0)]) (by kernel_rfl) rfl (by kernel_rfl) (by kernel_rfl) (fun us e => ?_) (by kernel_rfl) h (by kernel_rfl) (by kernel_rfl) (by kernel_rfl)
  apply sp4 e; exact fun u0 u1 u2 u3 => ⟨[("scene", u0), ("at", u1), ("step", u2), ("tests", u3)], fun s _ => BindsTo.of_eq (by kernel_rfl), rfl⟩
noncomputable def env_280 (L : Addr) : Env := callEnv (fdo Mine.n103 Mine.n103 (st PW 33) .none (.str Mine.n90 504) (.ref 279)) L 280
theorem fn_280 {w : World} {k : Nat} {a0 a1 a2 : Value} {Q : Value → AH → Prop} {H : AH} (h : ∀ L, H L = none → EX w k (env_280 L) (fB (st PW 33)) (fun fl H _ => Q (retOf fl) H) H [("tests", a2), ("at", a1), ("scene", a0)]) : TC w (k + 1) (.ref 280) [a0, a1, a2] Q H := by
  refine tc_def (fd := (fdo Mine.n103 Mine.n103 (st PW 33) .none (.str Mine.n90 504) (.ref 279))) (oc := .type "function") (od := none) (sl := Array.mk []) (m0 := [("tests", a2), ("at", a1), ("scene", a0)]) (by kernel_rfl) rfl (by kernel_rfl) (by kernel_rfl) (fun us e => ?_) (by kernel_rfl) h (by kernel_rfl) (by kernel_rfl) (by kernel_rfl)
  apply sp3 e; exact fun u0 u1 u2 => ⟨[("scene", u0), ("at", u1), ("tests", u2)], fun s _ => BindsTo.of_eq (by kernel_rfl), rfl⟩
noncomputable def env_287 (L : Addr) : Env := callEnv (fdo Mine.n104 Mine.n104 (st PW 34) .none (.str Mine.n90 504) (.ref 286)) L 287
theorem fn_287 {w : World} {k : Nat} {a0 a1 a2 : Value} {Q : Value → AH → Prop} {H : AH} (h : ∀ L, H L = none → EX w k (env_287 L) (fB (st PW 34)) (fun fl H _ => Q (retOf fl) H) H [("tests", a2), ("at", a1), ("scene", a0)]) : TC w (k + 1) (.ref 287) [a0, a1, a2] Q H := by
  refine tc_def (fd := (fdo Mine.n104 Mine.n104 (st PW 34) .none (.str Mine.n90 504) (.ref 286))) (oc := .type "function") (od := none) (sl := Array.mk []) (m0 := [("tests", a2), ("at", a1), ("scene", a0)]) (by kernel_rfl) rfl (by kernel_rfl) (by kernel_rfl) (fun us e => ?_) (by kernel_rfl) h (by kernel_rfl) (by kernel_rfl) (by kernel_rfl)
  apply sp3 e; exact fun u0 u1 u2 => ⟨[("scene", u0), ("at", u1), ("tests", u2)], fun s _ => BindsTo.of_eq (by kernel_rfl), rfl⟩
noncomputable def env_360 (L : Addr) : Env := callEnv (fdo Mine.n10 Mine.n132 (me PW 48 0) .none (.str Mine.n128 694) (.ref 359)) L 360
theorem fn_360 {w : World} {k : Nat} {a0 a1 : Value} {Q : Value → AH → Prop} {H : AH} (h : ∀ L, H L = none → EX w k (env_360 L) (fB (me PW 48 0)) (fun fl H _ => Q (retOf fl) H) H [("glyphs", a1), ("self", a0)]) : TC w (k + 1) (.ref 360) [a0, a1] Q H := by
  refine tc_def (fd := (fdo Mine.n10 Mine.n132 (me PW 48 0) .none (.str Mine.n128 694) (.ref 359))) (oc := .type "function") (od := none) (sl := Array.mk []) (m0 := [("glyphs", a1), ("self", a0)]) (by kernel_rfl) rfl (by kernel_rfl) (by kernel_rfl) (fun us e => ?_) (by kernel_rfl) h (by kernel_rfl) (by kernel_rfl) (by kernel_rfl)
  apply sp2 e; exact fun u0 u1 => ⟨[("self", u0), ("glyphs", u1)], fun s _ => BindsTo.of_eq (by kernel_rfl), rfl⟩
noncomputable def env_367 (L : Addr) : Env := callEnv (fdo Mine.n130 Mine.n136 (me PW 48 1) .none (.str Mine.n128 694) (.ref 366)) L 367
theorem fn_367 {w : World} {k : Nat} {a0 a1 : Value} {Q : Value → AH → Prop} {H : AH} (h : ∀ L, H L = none → EX w k (env_367 L) (fB (me PW 48 1)) (fun fl H _ => Q (retOf fl) H) H [("glyph", a1), ("self", a0)]) : TC w (k + 1) (.ref 367) [a0, a1] Q H := by
  refine tc_def (fd := (fdo Mine.n130 Mine.n136 (me PW 48 1) .none (.str Mine.n128 694) (.ref 366))) (oc := .type "function") (od := none) (sl := Array.mk []) (m0 := [("glyph", a1), ("self", a0)]) (by kernel_rfl) rfl (by kernel_rfl) (by kernel_rfl) (fun us e => ?_) (by kernel_rfl) h (by kernel_rfl) (by kernel_rfl) (by kernel_rfl)
  apply sp2 e; exact fun u0 u1 => ⟨[("self", u0), ("glyph", u1)], fun s _ => BindsTo.of_eq (by kernel_rfl), rfl⟩
noncomputable def env_374 (L : Addr) : Env := callEnv (fdo Mine.n131 Mine.n137 (me PW 48 2) .none (.str Mine.n128 694) (.ref 373)) L 374
theorem fn_374 {w : World} {k : Nat} {a0 a1 : Value} {Q : Value → AH → Prop} {H : AH} (h : ∀ L, H L = none → EX w k (env_374 L) (fB (me PW 48 2)) (fun fl H _ => Q (retOf fl) H) H [("glyph", a1), ("self", a0)]) : TC w (k + 1) (.ref 374) [a0, a1] Q H := by
  refine tc_def (fd := (fdo Mine.n131 Mine.n137 (me PW 48 2) .none (.str Mine.n128 694) (.ref 373))) (oc := .type "function") (od := none) (sl := Array.mk []) (m0 := [("glyph", a1), ("self", a0)]) (by kernel_rfl) rfl (by kernel_rfl) (by kernel_rfl) (fun us e => ?_) (by kernel_rfl) h (by kernel_rfl) (by kernel_rfl) (by kernel_rfl)
  apply sp2 e; exact fun u0 u1 => ⟨[("self", u0), ("glyph", u1)], fun s _ => BindsTo.of_eq (by kernel_rfl), rfl⟩
noncomputable def env_395 (L : Addr) : Env := callEnv (fdo Mine.n139 Mine.n139 (st PW 49) .none (.str Mine.n128 694) (.ref 394)) L 395
theorem fn_395 {w : World} {k : Nat} {a0 : Value} {Q : Value → AH → Prop} {H : AH} (h : ∀ L, H L = none → EX w k (env_395 L) (fB (st PW 49)) (fun fl H _ => Q (retOf fl) H) H [("glyphs", a0)]) : TC w (k + 1) (.ref 395) [a0] Q H := by
  refine tc_def (fd := (fdo Mine.n139 Mine.n139 (st PW 49) .none (.str Mine.n128 694) (.ref 394))) (oc := .type "function") (od := none) (sl := Array.mk []) (m0 := [("glyphs", a0)]) (by kernel_rfl) rfl (by kernel_rfl) (by kernel_rfl) (fun us e => ?_) (by kernel_rfl) h (by kernel_rfl) (by kernel_rfl) (by kernel_rfl)
  apply sp1 e; exact fun u0 => ⟨[("glyphs", u0)], fun s _ => BindsTo.of_eq (by kernel_rfl), rfl⟩
noncomputable def env_409 (L : Addr) : Env := callEnv (fdo Mine.n10 Mine.n146 (me PW 53 0) .none (.str Mine.n140 760) (.ref 408)) L 409
theorem fn_409 {w : World} {k : Nat} {a0 a1 a2 a3 a4 : Value} {Q : Value → AH → Prop} {H : AH} (h : ∀ L, H L = none → EX w k (env_409 L) (fB (me PW 53 0)) (fun fl H _ => Q (retOf fl) H) H [("actions", a4), ("ahead", a3), ("inside", a2), ("back", a1), ("self", a0)]) : TC w (k + 1) (.ref 409) [a0, a1, a2, a3, a4] Q H := by
  refine tc_def (fd := (fdo Mine.n10 Mine.n146 (me PW 53 0) .none (.str Mine.n140 760) (.ref 408))) (oc := .type "function") (od := none) (sl := Array.mk []) (m0 := [("actions", a4), ("ahead", a3), ("inside", a2), ("back", a1), ("self", a0)]) (by kernel_rfl) rfl (by kernel_rfl) (by kernel_rfl) (fun us e => ?_) (by kernel_rfl) h (by kernel_rfl) (by kernel_rfl) (by kernel_rfl)
  apply sp5 e; exact fun u0 u1 u2 u3 u4 => ⟨[("self", u0), ("back", u1), ("inside", u2), ("ahead", u3), ("actions", u4)], fun s _ => BindsTo.of_eq (by kernel_rfl), rfl⟩
noncomputable def env_445 (L : Addr) : Env := callEnv (fdo Mine.n10 Mine.n157 (me PW 54 0) (.ref 438) (.str Mine.n140 760) (.ref 444)) L 445
theorem fn_445_2 {w : World} {k : Nat} {a0 a1 a2 a3 : Value} {Q : Value → AH → Prop} {H : AH} (h : ∀ L, H L = none → EX w k (env_445 L) (fB (me PW 54 0)) (fun fl H _ => Q (retOf fl) H) H [("classes", .none), ("coverage", .none), ("sets", a3), ("is_chained", a2), ("form", a1), ("self", a0)]) : TC w (k + 1) (.ref 445) [a0, a1, a2, a3] Q H := by
  refine tc_def (fd := (fdo Mine.n10 Mine.n157 (me PW 54 0) (.ref 438) (.str Mine.n140 760) (.ref 444))) (oc := .type "function") (od := none) (sl := Array.mk []) (m0 := [("classes", .none), ("coverage", .none), ("sets", a3), ("is_chained", a2), ("form", a1), ("self", a0)]) (by kernel_rfl) rfl (by kernel_rfl) (by kernel_rfl) (fun us e => ?_) (by kernel_rfl) h (by kernel_rfl) (by kernel_rfl) (by kernel_rfl)
  apply sp4 e; exact fun u0 u1 u2 u3 => ⟨[("self", u0), ("form", u1), ("is_chained", u2), ("sets", u3), ("coverage", .none), ("classes", .none)], fun s X => binds_K (T := 438) (o := Mine.tp [.none, .none]) (items := Array.mk [.none, .none]) (n := 0) X rfl (by kernel_rfl) rfl rfl (by kernel_rfl), rfl⟩
noncomputable def env_464 (L : Addr) : Env := callEnv (fdo Mine.n151 Mine.n162 (me PW 54 3) .none (.str Mine.n140 760) (.ref 463)) L 464
theorem fn_464 {w : World} {k : Nat} {a0 : Value} {Q : Value → AH → Prop} {H : AH} (h : ∀ L, H L = none → EX w k (env_464 L) (fB (me PW 54 3)) (fun fl H _ => Q (retOf fl) H) H [("self", a0)]) : TC w (k + 1) (.ref 464) [a0] Q H := by
  refine tc_def (fd := (fdo Mine.n151 Mine.n162 (me PW 54 3) .none (.str Mine.n140 760) (.ref 463))) (oc := .type "function") (od := none) (sl := Array.mk []) (m0 := [("self", a0)]) (by kernel_rfl) rfl (by kernel_rfl) (by kernel_rfl) (fun us e => ?_) (by kernel_rfl) h (by kernel_rfl) (by kernel_rfl) (by kernel_rfl)
  apply sp1 e; exact fun u0 => ⟨[("self", u0)], fun s _ => BindsTo.of_eq (by kernel_rfl), rfl⟩
noncomputable def env_481 (L : Addr) : Env := callEnvC (fdo Mine.n164 Mine.n164 (st PW 56) .none (.str Mine.n140 760) (.ref 480)) L 481
theorem fn_481 {w : World} {k : Nat} {a0 a1 a2 : Value} {Q : Value → AH → Prop} {H : AH} (h : ∀ L, (∀ n, H (L + n) = none) → EX w k (env_481 L) (fB (st PW 56)) (fun fl H1 _ => ∃ H', Sub H' H1 ∧ Q (retOf fl) H') (upd (upd H (L + 1) (.cell (some a1))) (L + 2) (.cell (some a2))) [("row", a0)]) : TC w (k + 1) (.ref 481) [a0, a1, a2] Q H := by
  refine tc_defc (fd := (fdo Mine.n164 Mine.n164 (st PW 56) .none (.str Mine.n140 760) (.ref 480))) (oc := .type "function") (od := none) (sl := Array.mk []) (ml := [("row", a0)]) (bc := [("classdef", a2), ("word", a1)]) (names := ["classdef", "word"]) (by kernel_rfl) rfl (by kernel_rfl) rfl (fun us e => ?_) (fun n => by kernel_rfl) (by decide) (fun L hL => ?_) (by kernel_rfl) (by kernel_rfl) (by kernel_rfl)
  · apply sp3 e; exact fun u0 u1 u2 => ⟨[("row", u0), ("word", u1), ("classdef", u2)], by kernel_rfl, ⟨by kernel_rfl, by kernel_rfl⟩, by kernel_rfl⟩
  · have e : cellUp [("classdef", a2), ("word", a1)] (cellsFrom (L + 1) (fdo Mine.n164 Mine.n164 (st PW 56) .none (.str Mine.n140 760) (.ref 480)).scope.names []) H = (upd (upd H (L + 1) (.cell (some a1))) (L + 2) (.cell (some a2))) := by kernel_rfl
    rw [e]; exact h L hL
noncomputable def env_488 (L : Addr) : Env := callEnv (fdo Mine.n166 Mine.n166 (st PW 57) .none (.str Mine.n140 760) (.ref 487)) L 488
theorem fn_488 {w : World} {k : Nat} {a0 a1 : Value} {Q : Value → AH → Prop} {H : AH} (h : ∀ L, H L = none → EX w k (env_488 L) (fB (st PW 57)) (fun fl H _ => Q (retOf fl) H) H [("rule", a1), ("table", a0)]) : TC w (k + 1) (.ref 488) [a0, a1] Q H := by
  refine tc_def (fd := (fdo Mine.n166 Mine.n166 (st PW 57) .none (.str Mine.n140 760) (.ref 487))) (oc := .type "function") (od := none) (sl := Array.mk []) (m0 := [("rule", a1), ("table", a0)]) (by kernel_rfl) rfl (by kernel_rfl) (by kernel_rfl) (fun us e => ?_) (by kernel_rfl) h (by kernel_rfl) (by kernel_rfl) (by kernel_rfl)
  apply sp2 e; exact fun u0 u1 => ⟨[("table", u0), ("rule", u1)], fun s _ => BindsTo.of_eq (by kernel_rfl), rfl⟩
noncomputable def env_493 (L : Addr) : Env := callEnvC (fdo Mine.n167 Mine.n167 (st PW 58) .none (.str Mine.n140 760) (.ref 492)) L 493
theorem fn_493 {w : World} {k : Nat} {a0 a1 : Value} {Q : Value → AH → Prop} {H : AH} (h : ∀ L, (∀ n, H (L + n) = none) → EX w k (env_493 L) (fB (st PW 58)) (fun fl H1 _ => ∃ H', Sub H' H1 ∧ Q (retOf fl) H') (upd (upd H (L + 1) (.cell (some a0))) (L + 2) (.cell (some a1))) []) : TC w (k + 1) (.ref 493) [a0, a1] Q H := by
  refine tc_defc (fd := (fdo Mine.n167 Mine.n167 (st PW 58) .none (.str Mine.n140 760) (.ref 492))) (oc := .type "function") (od := none) (sl := Array.mk []) (ml := []) (bc := [("glyph", a1), ("table", a0)]) (names := ["glyph", "table"]) (by kernel_rfl) rfl (by kernel_rfl) rfl (fun us e => ?_) (fun n => by kernel_rfl) (by decide) (fun L hL => ?_) (by kernel_rfl) (by kernel_rfl) (by kernel_rfl)
  · apply sp2 e; exact fun u0 u1 => ⟨[("table", u0), ("glyph", u1)], by kernel_rfl, ⟨by kernel_rfl, by kernel_rfl⟩, by kernel_rfl⟩
  · have e : cellUp [("glyph", a1), ("table", a0)] (cellsFrom (L + 1) (fdo Mine.n167 Mine.n167 (st PW 58) .none (.str Mine.n140 760) (.ref 492)).scope.names []) H = (upd (upd H (L + 1) (.cell (some a0))) (L + 2) (.cell (some a1))) := by kernel_rfl
    rw [e]; exact h L hL
noncomputable def env_507 (L : Addr) : Env := callEnv (fdo Mine.n10 Mine.n170 (me PW 62 0) .none (.str Mine.n168 905) (.ref 506)) L 507
theorem fn_507 {w : World} {k : Nat} {a0 a1 a2 : Value} {Q : Value → AH → Prop} {H : AH} (h : ∀ L, H L = none → EX w k (env_507 L) (fB (me PW 62 0)) (fun fl H _ => Q (retOf fl) H) H [("end", a2), ("row", a1), ("self", a0)]) : TC w (k + 1) (.ref 507) [a0, a1, a2] Q H := by
  refine tc_def (fd := (fdo Mine.n10 Mine.n170 (me PW 62 0) .none (.str Mine.n168 905) (.ref 506))) (oc := .type "function") (od := none) (sl := Array.mk []) (m0 := [("end", a2), ("row", a1), ("self", a0)]) (by kernel_rfl) rfl (by kernel_rfl) (by kernel_rfl) (fun us e => ?_) (by kernel_rfl) h (by kernel_rfl) (by kernel_rfl) (by kernel_rfl)
  apply sp3 e; exact fun u0 u1 u2 => ⟨[("self", u0), ("row", u1), ("end", u2)], fun s _ => BindsTo.of_eq (by kernel_rfl), rfl⟩
noncomputable def env_521 (L : Addr) : Env := callEnv (fdo Mine.n171 Mine.n171 (st PW 63) .none (.str Mine.n168 905) (.ref 520)) L 521
theorem fn_521 {w : World} {k : Nat} {a0 a1 a2 : Value} {Q : Value → AH → Prop} {H : AH} (h : ∀ L, H L = none → EX w k (env_521 L) (fB (st PW 63)) (fun fl H _ => Q (retOf fl) H) H [("tests", a2), ("at", a1), ("scene", a0)]) : TC w (k + 1) (.ref 521) [a0, a1, a2] Q H := by
  refine tc_def (fd := (fdo Mine.n171 Mine.n171 (st PW 63) .none (.str Mine.n168 905) (.ref 520))) (oc := .type "function") (od := none) (sl := Array.mk []) (m0 := [("tests", a2), ("at", a1), ("scene", a0)]) (by kernel_rfl) rfl (by kernel_rfl) (by kernel_rfl) (fun us e => ?_) (by kernel_rfl) h (by kernel_rfl) (by kernel_rfl) (by kernel_rfl)
  apply sp3 e; exact fun u0 u1 u2 => ⟨[("scene", u0), ("at", u1), ("tests", u2)], fun s _ => BindsTo.of_eq (by kernel_rfl), rfl⟩
noncomputable def env_528 (L : Addr) : Env := callEnv (fdo Mine.n172 Mine.n172 (st PW 64) .none (.str Mine.n168 905) (.ref 527)) L 528
theorem fn_528 {w : World} {k : Nat} {a0 a1 : Value} {Q : Value → AH → Prop} {H : AH} (h : ∀ L, H L = none → EX w k (env_528 L) (fB (st PW 64)) (fun fl H _ => Q (retOf fl) H) H [("number", a1), ("scene", a0)]) : TC w (k + 1) (.ref 528) [a0, a1] Q H := by
  refine tc_def (fd := (fdo Mine.n172 Mine.n172 (st PW 64) .none (.str Mine.n168 905) (.ref 527))) (oc := .type "function") (od := none) (sl := Array.mk []) (m0 := [("number", a1), ("scene", a0)]) (by kernel_rfl) rfl (by kernel_rfl) (by kernel_rfl) (fun us e => ?_) (by kernel_rfl) h (by kernel_rfl) (by kernel_rfl) (by kernel_rfl)
  apply sp2 e; exact fun u0 u1 => ⟨[("scene", u0), ("number", u1)], fun s _ => BindsTo.of_eq (by kernel_rfl), rfl⟩
noncomputable def env_533 (L : Addr) : Env := callEnvC (fdo Mine.n173 Mine.n173 (st PW 65) .none (.str Mine.n168 905) (.ref 532)) L 533
theorem fn_533 {w : World} {k : Nat} {a0 a1 a2 : Value} {Q : Value → AH → Prop} {H : AH} (h : ∀ L, (∀ n, H (L + n) = none) → EX w k (env_533 L) (fB (st PW 65)) (fun fl H1 _ => ∃ H', Sub H' H1 ∧ Q (retOf fl) H') (upd (upd (upd H (L + 1) (.cell (some a0))) (L + 2) (.cell (some a1))) (L + 3) (.cell (some a2))) []) : TC w (k + 1) (.ref 533) [a0, a1, a2] Q H := by
  refine tc_defc (fd := (fdo Mine.n173 Mine.n173 (st PW 65) .none (.str Mine.n168 905) (.ref 532))) (oc := .type "function") (od := none) (sl := Array.mk []) (ml := []) (bc := [("more", a2), ("index", a1), ("places", a0)]) (names := ["more", "index", "places"]) (by kernel_rfl) rfl (by kernel_rfl) rfl (fun us e => ?_) (fun n => by kernel_rfl) (by decide) (fun L hL => ?_) (by kernel_rfl) (by kernel_rfl) (by kernel_rfl)
  · apply sp3 e; exact fun u0 u1 u2 => ⟨[("places", u0), ("index", u1), ("more", u2)], by kernel_rfl, ⟨by kernel_rfl, by kernel_rfl⟩, by kernel_rfl⟩
  · have e : cellUp [("more", a2), ("index", a1), ("places", a0)] (cellsFrom (L + 1) (fdo Mine.n173 Mine.n173 (st PW 65) .none (.str Mine.n168 905) (.ref 532)).scope.names []) H = (upd (upd (upd H (L + 1) (.cell (some a0))) (L + 2) (.cell (some a1))) (L + 3) (.cell (some a2))) := by kernel_rfl
    rw [e]; exact h L hL
noncomputable def env_545 (L : Addr) : Env := callEnv (fdo Mine.n176 Mine.n176 (st PW 67) .none (.str Mine.n168 905) (.ref 544)) L 545
theorem fn_545 {w : World} {k : Nat} {a0 a1 a2 : Value} {Q : Value → AH → Prop} {H : AH} (h : ∀ L, H L = none → EX w k (env_545 L) (fB (st PW 67)) (fun fl H _ => Q (retOf fl) H) H [("change", a2), ("index", a1), ("places", a0)]) : TC w (k + 1) (.ref 545) [a0, a1, a2] Q H := by
  refine tc_def (fd := (fdo Mine.n176 Mine.n176 (st PW 67) .none (.str Mine.n168 905) (.ref 544))) (oc := .type "function") (od := none) (sl := Array.mk []) (m0 := [("change", a2), ("index", a1), ("places", a0)]) (by kernel_rfl) rfl (by kernel_rfl) (by kernel_rfl) (fun us e => ?_) (by kernel_rfl) h (by kernel_rfl) (by kernel_rfl) (by kernel_rfl)
  apply sp3 e; exact fun u0 u1 u2 => ⟨[("places", u0), ("index", u1), ("change", u2)], fun s _ => BindsTo.of_eq (by kernel_rfl), rfl⟩
noncomputable def env_552 (L : Addr) : Env := callEnv (fdo Mine.n181 Mine.n181 (st PW 68) .none (.str Mine.n168 905) (.ref 551)) L 552
theorem fn_552 {w : World} {k : Nat} {a0 a1 a2 a3 : Value} {Q : Value → AH → Prop} {H : AH} (h : ∀ L, H L = none → EX w k (env_552 L) (fB (st PW 68)) (fun fl H _ => Q (retOf fl) H) H [("apply_at", a3), ("action", a2), ("places", a1), ("scene", a0)]) : TC w (k + 1) (.ref 552) [a0, a1, a2, a3] Q H := by
  refine tc_def (fd := (fdo Mine.n181 Mine.n181 (st PW 68) .none (.str Mine.n168 905) (.ref 551))) (oc := .type "function") (od := none) (sl := Array.mk []) (m0 := [("apply_at", a3), ("action", a2), ("places", a1), ("scene", a0)]) (by kernel_rfl) rfl (by kernel_rfl) (by kernel_rfl) (fun us e => ?_) (by kernel_rfl) h (by kernel_rfl) (by kernel_rfl) (by kernel_rfl)
  apply sp4 e; exact fun u0 u1 u2 u3 => ⟨[("scene", u0), ("places", u1), ("action", u2), ("apply_at", u3)], fun s _ => BindsTo.of_eq (by kernel_rfl), rfl⟩
noncomputable def env_559 (L : Addr) : Env := callEnv (fdo Mine.n182 Mine.n182 (st PW 69) .none (.str Mine.n168 905) (.ref 558)) L 559
theorem fn_559 {w : World} {k : Nat} {a0 a1 a2 a3 : Value} {Q : Value → AH → Prop} {H : AH} (h : ∀ L, H L = none → EX w k (env_559 L) (fB (st PW 69)) (fun fl H _ => Q (retOf fl) H) H [("apply_at", a3), ("actions", a2), ("places", a1), ("scene", a0)]) : TC w (k + 1) (.ref 559) [a0, a1, a2, a3] Q H := by
  refine tc_def (fd := (fdo Mine.n182 Mine.n182 (st PW 69) .none (.str Mine.n168 905) (.ref 558))) (oc := .type "function") (od := none) (sl := Array.mk []) (m0 := [("apply_at", a3), ("actions", a2), ("places", a1), ("scene", a0)]) (by kernel_rfl) rfl (by kernel_rfl) (by kernel_rfl) (fun us e => ?_) (by kernel_rfl) h (by kernel_rfl) (by kernel_rfl) (by kernel_rfl)
  apply sp4 e; exact fun u0 u1 u2 u3 => ⟨[("scene", u0), ("places", u1), ("actions", u2), ("apply_at", u3)], fun s _ => BindsTo.of_eq (by kernel_rfl), rfl⟩
noncomputable def env_566 (L : Addr) : Env := callEnv (fdo Mine.n183 Mine.n183 (st PW 70) .none (.str Mine.n168 905) (.ref 565)) L 566
theorem fn_566 {w : World} {k : Nat} {a0 a1 a2 a3 : Value} {Q : Value → AH → Prop} {H : AH} (h : ∀ L, H L = none → EX w k (env_566 L) (fB (st PW 70)) (fun fl H _ => Q (retOf fl) H) H [("apply_at", a3), ("at", a2), ("table", a1), ("scene", a0)]) : TC w (k + 1) (.ref 566) [a0, a1, a2, a3] Q H := by
  refine tc_def (fd := (fdo Mine.n183 Mine.n183 (st PW 70) .none (.str Mine.n168 905) (.ref 565))) (oc := .type "function") (od := none) (sl := Array.mk []) (m0 := [("apply_at", a3), ("at", a2), ("table", a1), ("scene", a0)]) (by kernel_rfl) rfl (by kernel_rfl) (by kernel_rfl) (fun us e => ?_) (by kernel_rfl) h (by kernel_rfl) (by kernel_rfl) (by kernel_rfl)
  apply sp4 e; exact fun u0 u1 u2 u3 => ⟨[("scene", u0), ("table", u1), ("at", u2), ("apply_at", u3)], fun s _ => BindsTo.of_eq (by kernel_rfl), rfl⟩
noncomputable def env_580 (L : Addr) : Env := callEnv (fdo Mine.n10 Mine.n187 (me PW 72 0) .none (.str Mine.n184 1025) (.ref 579)) L 580
theorem fn_580 {w : World} {k : Nat} {a0 a1 a2 a3 : Value} {Q : Value → AH → Prop} {H : AH} (h : ∀ L, H L = none → EX w k (env_580 L) (fB (me PW 72 0)) (fun fl H _ => Q (retOf fl) H) H [("ahead", a3), ("back", a2), ("mapping", a1), ("self", a0)]) : TC w (k + 1) (.ref 580) [a0, a1, a2, a3] Q H := by
  refine tc_def (fd := (fdo Mine.n10 Mine.n187 (me PW 72 0) .none (.str Mine.n184 1025) (.ref 579))) (oc := .type "function") (od := none) (sl := Array.mk []) (m0 := [("ahead", a3), ("back", a2), ("mapping", a1), ("self", a0)]) (by kernel_rfl) rfl (by kernel_rfl) (by kernel_rfl) (fun us e => ?_) (by kernel_rfl) h (by kernel_rfl) (by kernel_rfl) (by kernel_rfl)
  apply sp4 e; exact fun u0 u1 u2 u3 => ⟨[("self", u0), ("mapping", u1), ("back", u2), ("ahead", u3)], fun s _ => BindsTo.of_eq (by kernel_rfl), rfl⟩
noncomputable def env_599 (L : Addr) : Env := callEnv (fdo Mine.n189 Mine.n189 (st PW 73) .none (.str Mine.n184 1025) (.ref 598)) L 599
theorem fn_599 {w : World} {k : Nat} {a0 a1 a2 : Value} {Q : Value → AH → Prop} {H : AH} (h : ∀ L, H L = none → EX w k (env_599 L) (fB (st PW 73)) (fun fl H _ => Q (retOf fl) H) H [("at", a2), ("table", a1), ("scene", a0)]) : TC w (k + 1) (.ref 599) [a0, a1, a2] Q H := by
  refine tc_def (fd := (fdo Mine.n189 Mine.n189 (st PW 73) .none (.str Mine.n184 1025) (.ref 598))) (oc := .type "function") (od := none) (sl := Array.mk []) (m0 := [("at", a2), ("table", a1), ("scene", a0)]) (by kernel_rfl) rfl (by kernel_rfl) (by kernel_rfl) (fun us e => ?_) (by kernel_rfl) h (by kernel_rfl) (by kernel_rfl) (by kernel_rfl)
  apply sp3 e; exact fun u0 u1 u2 => ⟨[("scene", u0), ("table", u1), ("at", u2)], fun s _ => BindsTo.of_eq (by kernel_rfl), rfl⟩
noncomputable def env_613 (L : Addr) : Env := callEnv (fdo Mine.n10 Mine.n192 (me PW 75 0) .none (.str Mine.n190 1078) (.ref 612)) L 613
theorem fn_613 {w : World} {k : Nat} {a0 a1 : Value} {Q : Value → AH → Prop} {H : AH} (h : ∀ L, H L = none → EX w k (env_613 L) (fB (me PW 75 0)) (fun fl H _ => Q (retOf fl) H) H [("mapping", a1), ("self", a0)]) : TC w (k + 1) (.ref 613) [a0, a1] Q H := by
  refine tc_def (fd := (fdo Mine.n10 Mine.n192 (me PW 75 0) .none (.str Mine.n190 1078) (.ref 612))) (oc := .type "function") (od := none) (sl := Array.mk []) (m0 := [("mapping", a1), ("self", a0)]) (by kernel_rfl) rfl (by kernel_rfl) (by kernel_rfl) (fun us e => ?_) (by kernel_rfl) h (by kernel_rfl) (by kernel_rfl) (by kernel_rfl)
  apply sp2 e; exact fun u0 u1 => ⟨[("self", u0), ("mapping", u1)], fun s _ => BindsTo.of_eq (by kernel_rfl), rfl⟩
noncomputable def env_639 (L : Addr) : Env := callEnv (fdo Mine.n10 Mine.n195 (me PW 76 0) .none (.str Mine.n190 1078) (.ref 638)) L 639
theorem fn_639 {w : World} {k : Nat} {a0 a1 : Value} {Q : Value → AH → Prop} {H : AH} (h : ∀ L, H L = none → EX w k (env_639 L) (fB (me PW 76 0)) (fun fl H _ => Q (retOf fl) H) H [("mapping", a1), ("self", a0)]) : TC w (k + 1) (.ref 639) [a0, a1] Q H := by
  refine tc_def (fd := (fdo Mine.n10 Mine.n195 (me PW 76 0) .none (.str Mine.n190 1078) (.ref 638))) (oc := .type "function") (od := none) (sl := Array.mk []) (m0 := [("mapping", a1), ("self", a0)]) (by kernel_rfl) rfl (by kernel_rfl) (by kernel_rfl) (fun us e => ?_) (by kernel_rfl) h (by kernel_rfl) (by kernel_rfl) (by kernel_rfl)
  apply sp2 e; exact fun u0 u1 => ⟨[("self", u0), ("mapping", u1)], fun s _ => BindsTo.of_eq (by kernel_rfl), rfl⟩
noncomputable def env_658 (L : Addr) : Env := callEnv (fdo Mine.n197 Mine.n197 (st PW 77) .none (.str Mine.n190 1078) (.ref 657)) L 658
theorem fn_658 {w : World} {k : Nat} {a0 a1 a2 : Value} {Q : Value → AH → Prop} {H : AH} (h : ∀ L, H L = none → EX w k (env_658 L) (fB (st PW 77)) (fun fl H _ => Q (retOf fl) H) H [("at", a2), ("table", a1), ("scene", a0)]) : TC w (k + 1) (.ref 658) [a0, a1, a2] Q H := by
  refine tc_def (fd := (fdo Mine.n197 Mine.n197 (st PW 77) .none (.str Mine.n190 1078) (.ref 657))) (oc := .type "function") (od := none) (sl := Array.mk []) (m0 := [("at", a2), ("table", a1), ("scene", a0)]) (by kernel_rfl) rfl (by kernel_rfl) (by kernel_rfl) (fun us e => ?_) (by kernel_rfl) h (by kernel_rfl) (by kernel_rfl) (by kernel_rfl)
  apply sp3 e; exact fun u0 u1 u2 => ⟨[("scene", u0), ("table", u1), ("at", u2)], fun s _ => BindsTo.of_eq (by kernel_rfl), rfl⟩
noncomputable def env_665 (L : Addr) : Env := callEnv (fdo Mine.n200 Mine.n200 (st PW 78) .none (.str Mine.n190 1078) (.ref 664)) L 665
theorem fn_665 {w : World} {k : Nat} {a0 a1 a2 : Value} {Q : Value → AH → Prop} {H : AH} (h : ∀ L, H L = none → EX w k (env_665 L) (fB (st PW 78)) (fun fl H _ => Q (retOf fl) H) H [("at", a2), ("table", a1), ("scene", a0)]) : TC w (k + 1) (.ref 665) [a0, a1, a2] Q H := by
  refine tc_def (fd := (fdo Mine.n200 Mine.n200 (st PW 78) .none (.str Mine.n190 1078) (.ref 664))) (oc := .type "function") (od := none) (sl := Array.mk []) (m0 := [("at", a2), ("table", a1), ("scene", a0)]) (by kernel_rfl) rfl (by kernel_rfl) (by kernel_rfl) (fun us e => ?_) (by kernel_rfl) h (by kernel_rfl) (by kernel_rfl) (by kernel_rfl)
  apply sp3 e; exact fun u0 u1 u2 => ⟨[("scene", u0), ("table", u1), ("at", u2)], fun s _ => BindsTo.of_eq (by kernel_rfl), rfl⟩
noncomputable def env_686 (L : Addr) : Env := callEnv (fdo Mine.n206 Mine.n206 (st PW 82) .none (.str Mine.n207 1194) (.ref 685)) L 686
theorem fn_686 {w : World} {k : Nat} {a0 a1 a2 a3 : Value} {Q : Value → AH → Prop} {H : AH} (h : ∀ L, H L = none → EX w k (env_686 L) (fB (st PW 82)) (fun fl H _ => Q (retOf fl) H) H [("at", a3), ("table", a2), ("kind", a1), ("scene", a0)]) : TC w (k + 1) (.ref 686) [a0, a1, a2, a3] Q H := by
  refine tc_def (fd := (fdo Mine.n206 Mine.n206 (st PW 82) .none (.str Mine.n207 1194) (.ref 685))) (oc := .type "function") (od := none) (sl := Array.mk []) (m0 := [("at", a3), ("table", a2), ("kind", a1), ("scene", a0)]) (by kernel_rfl) rfl (by kernel_rfl) (by kernel_rfl) (fun us e => ?_) (by kernel_rfl) h (by kernel_rfl) (by kernel_rfl) (by kernel_rfl)
  apply sp4 e; exact fun u0 u1 u2 u3 => ⟨[("scene", u0), ("kind", u1), ("table", u2), ("at", u3)], fun s _ => BindsTo.of_eq (by kernel_rfl), rfl⟩
noncomputable def env_693 (L : Addr) : Env := callEnv (fdo Mine.n208 Mine.n208 (st PW 83) .none (.str Mine.n207 1194) (.ref 692)) L 693
theorem fn_693 {w : World} {k : Nat} {a0 a1 : Value} {Q : Value → AH → Prop} {H : AH} (h : ∀ L, H L = none → EX w k (env_693 L) (fB (st PW 83)) (fun fl H _ => Q (retOf fl) H) H [("at", a1), ("scene", a0)]) : TC w (k + 1) (.ref 693) [a0, a1] Q H := by
  refine tc_def (fd := (fdo Mine.n208 Mine.n208 (st PW 83) .none (.str Mine.n207 1194) (.ref 692))) (oc := .type "function") (od := none) (sl := Array.mk []) (m0 := [("at", a1), ("scene", a0)]) (by kernel_rfl) rfl (by kernel_rfl) (by kernel_rfl) (fun us e => ?_) (by kernel_rfl) h (by kernel_rfl) (by kernel_rfl) (by kernel_rfl)
  apply sp2 e; exact fun u0 u1 => ⟨[("scene", u0), ("at", u1)], fun s _ => BindsTo.of_eq (by kernel_rfl), rfl⟩
noncomputable def env_700 (L : Addr) : Env := callEnv (fdo Mine.n209 Mine.n209 (st PW 84) .none (.str Mine.n207 1194) (.ref 699)) L 700
theorem fn_700 {w : World} {k : Nat} {a0 : Value} {Q : Value → AH → Prop} {H : AH} (h : ∀ L, H L = none → EX w k (env_700 L) (fB (st PW 84)) (fun fl H _ => Q (retOf fl) H) H [("scene", a0)]) : TC w (k + 1) (.ref 700) [a0] Q H := by
  refine tc_def (fd := (fdo Mine.n209 Mine.n209 (st PW 84) .none (.str Mine.n207 1194) (.ref 699))) (oc := .type "function") (od := none) (sl := Array.mk []) (m0 := [("scene", a0)]) (by kernel_rfl) rfl (by kernel_rfl) (by kernel_rfl) (fun us e => ?_) (by kernel_rfl) h (by kernel_rfl) (by kernel_rfl) (by kernel_rfl)
  apply sp1 e; exact fun u0 => ⟨[("scene", u0)], fun s _ => BindsTo.of_eq (by kernel_rfl), rfl⟩
noncomputable def env_714 (L : Addr) : Env := callEnv (fdo Mine.n211 Mine.n211 (st PW 86) .none (.str Mine.n207 1194) (.ref 713)) L 714
theorem fn_714 {w : World} {k : Nat} {a0 a1 a2 a3 a4 : Value} {Q : Value → AH → Prop} {H : AH} (h : ∀ L, H L = none → EX w k (env_714 L) (fB (st PW 86)) (fun fl H _ => Q (retOf fl) H) H [("mask", a4), ("number", a3), ("lookups", a2), ("gdef", a1), ("buffer", a0)]) : TC w (k + 1) (.ref 714) [a0, a1, a2, a3, a4] Q H := by
  refine tc_def (fd := (fdo Mine.n211 Mine.n211 (st PW 86) .none (.str Mine.n207 1194) (.ref 713))) (oc := .type "function") (od := none) (sl := Array.mk []) (m0 := [("mask", a4), ("number", a3), ("lookups", a2), ("gdef", a1), ("buffer", a0)]) (by kernel_rfl) rfl (by kernel_rfl) (by kernel_rfl) (fun us e => ?_) (by kernel_rfl) h (by kernel_rfl) (by kernel_rfl) (by kernel_rfl)
  apply sp5 e; exact fun u0 u1 u2 u3 u4 => ⟨[("buffer", u0), ("gdef", u1), ("lookups", u2), ("number", u3), ("mask", u4)], fun s _ => BindsTo.of_eq (by kernel_rfl), rfl⟩
noncomputable def env_728 (L : Addr) : Env := callEnv (fdo Mine.n10 Mine.n216 (me PW 88 0) .none (.str Mine.n212 1247) (.ref 727)) L 728
theorem fn_728 {w : World} {k : Nat} {a0 a1 : Value} {Q : Value → AH → Prop} {H : AH} (h : ∀ L, H L = none → EX w k (env_728 L) (fB (me PW 88 0)) (fun fl H _ => Q (retOf fl) H) H [("classes", a1), ("self", a0)]) : TC w (k + 1) (.ref 728) [a0, a1] Q H := by
  refine tc_def (fd := (fdo Mine.n10 Mine.n216 (me PW 88 0) .none (.str Mine.n212 1247) (.ref 727))) (oc := .type "function") (od := none) (sl := Array.mk []) (m0 := [("classes", a1), ("self", a0)]) (by kernel_rfl) rfl (by kernel_rfl) (by kernel_rfl) (fun us e => ?_) (by kernel_rfl) h (by kernel_rfl) (by kernel_rfl) (by kernel_rfl)
  apply sp2 e; exact fun u0 u1 => ⟨[("self", u0), ("classes", u1)], fun s _ => BindsTo.of_eq (by kernel_rfl), rfl⟩
noncomputable def env_735 (L : Addr) : Env := callEnv (fdo Mine.n214 Mine.n217 (me PW 88 1) .none (.str Mine.n212 1247) (.ref 734)) L 735
theorem fn_735 {w : World} {k : Nat} {a0 a1 : Value} {Q : Value → AH → Prop} {H : AH} (h : ∀ L, H L = none → EX w k (env_735 L) (fB (me PW 88 1)) (fun fl H _ => Q (retOf fl) H) H [("glyph", a1), ("self", a0)]) : TC w (k + 1) (.ref 735) [a0, a1] Q H := by
  refine tc_def (fd := (fdo Mine.n214 Mine.n217 (me PW 88 1) .none (.str Mine.n212 1247) (.ref 734))) (oc := .type "function") (od := none) (sl := Array.mk []) (m0 := [("glyph", a1), ("self", a0)]) (by kernel_rfl) rfl (by kernel_rfl) (by kernel_rfl) (fun us e => ?_) (by kernel_rfl) h (by kernel_rfl) (by kernel_rfl) (by kernel_rfl)
  apply sp2 e; exact fun u0 u1 => ⟨[("self", u0), ("glyph", u1)], fun s _ => BindsTo.of_eq (by kernel_rfl), rfl⟩
noncomputable def env_776 (L : Addr) : Env := callEnv (fdo Mine.n10 Mine.n230 (me PW 93 0) (.ref 769) (.str Mine.n222 1309) (.ref 775)) L 776
theorem fn_776_2 {w : World} {k : Nat} {a0 a1 a2 a3 : Value} {Q : Value → AH → Prop} {H : AH} (h : ∀ L, H L = none → EX w k (env_776 L) (fB (me PW 93 0)) (fun fl H _ => Q (retOf fl) H) H [("carets", .none), ("points", .none), ("sets", a3), ("attach", a2), ("classes", a1), ("self", a0)]) : TC w (k + 1) (.ref 776) [a0, a1, a2, a3] Q H := by
  refine tc_def (fd := (fdo Mine.n10 Mine.n230 (me PW 93 0) (.ref 769) (.str Mine.n222 1309) (.ref 775))) (oc := .type "function") (od := none) (sl := Array.mk []) (m0 := [("carets", .none), ("points", .none), ("sets", a3), ("attach", a2), ("classes", a1), ("self", a0)]) (by kernel_rfl) rfl (by kernel_rfl) (by kernel_rfl) (fun us e => ?_) (by kernel_rfl) h (by kernel_rfl) (by kernel_rfl) (by kernel_rfl)
  apply sp4 e; exact fun u0 u1 u2 u3 => ⟨[("self", u0), ("classes", u1), ("attach", u2), ("sets", u3), ("points", .none), ("carets", .none)], fun s X => binds_K (T := 769) (o := Mine.tp [.none, .none]) (items := Array.mk [.none, .none]) (n := 0) X rfl (by kernel_rfl) rfl rfl (by kernel_rfl), rfl⟩
noncomputable def env_783 (L : Addr) : Env := callEnv (fdo Mine.n224 Mine.n231 (me PW 93 1) .none (.str Mine.n222 1309) (.ref 782)) L 783
theorem fn_783 {w : World} {k : Nat} {a0 a1 : Value} {Q : Value → AH → Prop} {H : AH} (h : ∀ L, H L = none → EX w k (env_783 L) (fB (me PW 93 1)) (fun fl H _ => Q (retOf fl) H) H [("glyph", a1), ("self", a0)]) : TC w (k + 1) (.ref 783) [a0, a1] Q H := by
  refine tc_def (fd := (fdo Mine.n224 Mine.n231 (me PW 93 1) .none (.str Mine.n222 1309) (.ref 782))) (oc := .type "function") (od := none) (sl := Array.mk []) (m0 := [("glyph", a1), ("self", a0)]) (by kernel_rfl) rfl (by kernel_rfl) (by kernel_rfl) (fun us e => ?_) (by kernel_rfl) h (by kernel_rfl) (by kernel_rfl) (by kernel_rfl)
  apply sp2 e; exact fun u0 u1 => ⟨[("self", u0), ("glyph", u1)], fun s _ => BindsTo.of_eq (by kernel_rfl), rfl⟩
noncomputable def env_816 (L : Addr) : Env := callEnv (fdo Mine.n235 Mine.n235 (st PW 95) .none (.str Mine.n236 1386) (.ref 815)) L 816
theorem fn_816 {w : World} {k : Nat} {z : Unit} {Q : Value → AH → Prop} {H : AH} (h : ∀ L, H L = none → EX w k (env_816 L) (fB (st PW 95)) (fun fl H _ => Q (retOf fl) H) H []) : TC w (k + 1) (.ref 816) [] Q H := by
  unfold env_816 at h
  refine tc_def (fd := (fdo Mine.n235 Mine.n235 (st PW 95) .none (.str Mine.n236 1386) (.ref 815))) (oc := .type "function") (od := none) (sl := Array.mk []) (m0 := []) (by kernel_rfl) rfl (by kernel_rfl) (by kernel_rfl) (fun us e => ?_) (by kernel_rfl) (by with_reducible exact h) (by kernel_rfl) (by kernel_rfl) (by kernel_rfl)
  cases map_nil' e
  exact ⟨[], fun s _ => BindsTo.of_eq (by kernel_rfl), by rfl⟩
noncomputable def env_824 (L : Addr) : Env := callEnvC (fdo Mine.n241 Mine.n241 (st PW 97) .none (.str Mine.n236 1386) (.ref 823)) L 824
theorem fn_824 {w : World} {k : Nat} {a0 : Value} {Q : Value → AH → Prop} {H : AH} (h : ∀ L, (∀ n, H (L + n) = none) → EX w k (env_824 L) (fB (st PW 97)) (fun fl H1 _ => ∃ H', Sub H' H1 ∧ Q (retOf fl) H') (upd (upd H (L + 1) (.cell none)) (L + 2) (.cell none)) [("script", a0)]) : TC w (k + 1) (.ref 824) [a0] Q H := by
  refine tc_defc (fd := (fdo Mine.n241 Mine.n241 (st PW 97) .none (.str Mine.n236 1386) (.ref 823))) (oc := .type "function") (od := none) (sl := Array.mk []) (ml := [("script", a0)]) (bc := []) (names := ["place", "cells"]) (by kernel_rfl) rfl (by kernel_rfl) rfl (fun us e => ?_) (fun n => by kernel_rfl) (by decide) (fun L hL => ?_) (by kernel_rfl) (by kernel_rfl) (by kernel_rfl)
  · apply sp1 e; exact fun u0 => ⟨[("script", u0)], by kernel_rfl, ⟨by kernel_rfl, by kernel_rfl⟩, by kernel_rfl⟩
  · have e : cellUp [] (cellsFrom (L + 1) (fdo Mine.n241 Mine.n241 (st PW 97) .none (.str Mine.n236 1386) (.ref 823)).scope.names []) H = (upd (upd H (L + 1) (.cell none)) (L + 2) (.cell none)) := by kernel_rfl
    rw [e]; exact h L hL
noncomputable def env_829 (L : Addr) : Env := callEnvC (fdo Mine.n242 Mine.n242 (st PW 98) .none (.str Mine.n236 1386) (.ref 828)) L 829
theorem fn_829 {w : World} {k : Nat} {a0 a1 : Value} {Q : Value → AH → Prop} {H : AH} (h : ∀ L, (∀ n, H (L + n) = none) → EX w k (env_829 L) (fB (st PW 98)) (fun fl H1 _ => ∃ H', Sub H' H1 ∧ Q (retOf fl) H') (upd H (L + 1) (.cell (some a0))) [("is_multiple", a1)]) : TC w (k + 1) (.ref 829) [a0, a1] Q H := by
  refine tc_defc (fd := (fdo Mine.n242 Mine.n242 (st PW 98) .none (.str Mine.n236 1386) (.ref 828))) (oc := .type "function") (od := none) (sl := Array.mk []) (ml := [("is_multiple", a1)]) (bc := [("take", a0)]) (names := ["take"]) (by kernel_rfl) rfl (by kernel_rfl) rfl (fun us e => ?_) (fun n => by kernel_rfl) (by decide) (fun L hL => ?_) (by kernel_rfl) (by kernel_rfl) (by kernel_rfl)
  · apply sp2 e; exact fun u0 u1 => ⟨[("take", u0), ("is_multiple", u1)], by kernel_rfl, ⟨by kernel_rfl, by kernel_rfl⟩, by kernel_rfl⟩
  · have e : cellUp [("take", a0)] (cellsFrom (L + 1) (fdo Mine.n242 Mine.n242 (st PW 98) .none (.str Mine.n236 1386) (.ref 828)).scope.names []) H = (upd H (L + 1) (.cell (some a0))) := by kernel_rfl
    rw [e]; exact h L hL
noncomputable def env_836 (L : Addr) : Env := callEnv (fdo Mine.n243 Mine.n243 (st PW 99) .none (.str Mine.n236 1386) (.ref 835)) L 836
theorem fn_836 {w : World} {k : Nat} {a0 a1 : Value} {Q : Value → AH → Prop} {H : AH} (h : ∀ L, H L = none → EX w k (env_836 L) (fB (st PW 99)) (fun fl H _ => Q (retOf fl) H) H [("glyph", a1), ("flag", a0)]) : TC w (k + 1) (.ref 836) [a0, a1] Q H := by
  refine tc_def (fd := (fdo Mine.n243 Mine.n243 (st PW 99) .none (.str Mine.n236 1386) (.ref 835))) (oc := .type "function") (od := none) (sl := Array.mk []) (m0 := [("glyph", a1), ("flag", a0)]) (by kernel_rfl) rfl (by kernel_rfl) (by kernel_rfl) (fun us e => ?_) (by kernel_rfl) h (by kernel_rfl) (by kernel_rfl) (by kernel_rfl)
  apply sp2 e; exact fun u0 u1 => ⟨[("flag", u0), ("glyph", u1)], fun s _ => BindsTo.of_eq (by kernel_rfl), rfl⟩
noncomputable def env_841 (L : Addr) : Env := callEnvC (fdo Mine.n244 Mine.n244 (st PW 100) .none (.str Mine.n236 1386) (.ref 840)) L 841
theorem fn_841 {w : World} {k : Nat} {a0 : Value} {Q : Value → AH → Prop} {H : AH} (h : ∀ L, (∀ n, H (L + n) = none) → EX w k (env_841 L) (fB (st PW 100)) (fun fl H1 _ => ∃ H', Sub H' H1 ∧ Q (retOf fl) H') (upd (upd (upd H (L + 1) (.cell none)) (L + 2) (.cell none)) (L + 3) (.cell none)) [("script", a0)]) : TC w (k + 1) (.ref 841) [a0] Q H := by
  refine tc_defc (fd := (fdo Mine.n244 Mine.n244 (st PW 100) .none (.str Mine.n236 1386) (.ref 840))) (oc := .type "function") (od := none) (sl := Array.mk []) (ml := [("script", a0)]) (bc := []) (names := ["own", "row", "take"]) (by kernel_rfl) rfl (by kernel_rfl) rfl (fun us e => ?_) (fun n => by kernel_rfl) (by decide) (fun L hL => ?_) (by kernel_rfl) (by kernel_rfl) (by kernel_rfl)
  · apply sp1 e; exact fun u0 => ⟨[("script", u0)], by kernel_rfl, ⟨by kernel_rfl, by kernel_rfl⟩, by kernel_rfl⟩
  · have e : cellUp [] (cellsFrom (L + 1) (fdo Mine.n244 Mine.n244 (st PW 100) .none (.str Mine.n236 1386) (.ref 840)).scope.names []) H = (upd (upd (upd H (L + 1) (.cell none)) (L + 2) (.cell none)) (L + 3) (.cell none)) := by kernel_rfl
    rw [e]; exact h L hL
theorem mk_43 (w : World) : MakeOk w 43 35 := by unfold MakeOk; kernel_rfl
theorem mk_65 (w : World) : MakeOk w 65 62 := by unfold MakeOk; kernel_rfl
theorem mk_142 (w : World) : MakeOk w 142 125 := by unfold MakeOk; kernel_rfl
theorem mk_186 (w : World) : MakeOk w 186 161 := by unfold MakeOk; kernel_rfl
theorem mk_384 (w : World) : MakeOk w 384 360 := by unfold MakeOk; kernel_rfl
theorem mk_426 (w : World) : MakeOk w 426 409 := by unfold MakeOk; kernel_rfl
theorem mk_467 (w : World) : MakeOk w 467 445 := by unfold MakeOk; kernel_rfl
theorem mk_510 (w : World) : MakeOk w 510 507 := by unfold MakeOk; kernel_rfl
theorem mk_588 (w : World) : MakeOk w 588 580 := by unfold MakeOk; kernel_rfl
theorem mk_621 (w : World) : MakeOk w 621 613 := by unfold MakeOk; kernel_rfl
theorem mk_647 (w : World) : MakeOk w 647 639 := by unfold MakeOk; kernel_rfl
theorem mk_757 (w : World) : MakeOk w 757 728 := by unfold MakeOk; kernel_rfl
theorem mk_805 (w : World) : MakeOk w 805 776 := by unfold MakeOk; kernel_rfl
theorem me_805_glyph_class (w : World) : MethOk w 805 "glyph_class" 783 := by unfold MethOk; kernel_rfl
theorem me_757_class_of (w : World) : MethOk w 757 "class_of" 735 := by unfold MethOk; kernel_rfl
theorem me_384_has (w : World) : MethOk w 384 "has" 374 := by unfold MethOk; kernel_rfl
theorem me_384_index (w : World) : MethOk w 384 "index" 367 := by unfold MethOk; kernel_rfl
theorem me_467_rules (w : World) : MethOk w 467 "rules" 464 := by unfold MethOk; kernel_rfl
theorem me_142_copied (w : World) : MethOk w 142 "copied" 132 := by unfold MethOk; kernel_rfl
theorem lkr_lk : ∀ (m : List (Str × Value)) (x : Str), lkr m x = lk m x
  | [], _ => rfl
  | (n, v) :: r, x => by
    unfold lkr lk
    rw [List.find?_cons]
    dsimp only
    cases hb : n == x with
    | true => rfl
    | false => exact lkr_lk r x
section
variable {w : World} {k : Nat} {env : Env} {b : Heap} {H : AH} {m : Lc} {h : Heap} {A : Around} {s : Shared} {E : Value → Shared → Prop} {Q : Value → AH → Lc → Prop} {QF : Flow → AH → Lc → Prop} {QU : Unit → AH → Lc → Prop} {QB : Bool → AH → Lc → Prop}
theorem Fl.same {m' : Lc} (F : Fl w b env H m h) (e : ∀ x, lk m x = lk m' x) : Fl w b env H m' h := by
  obtain ⟨mr, hn, em⟩ := F.ns
  exact F.set (fun _ _ _ q => q) hn fun x => (em x).trans (e x)
theorem v_loc {x : Str} {pos : Pos} {v : Value} (hl : env.kindOf x = some .local) (hv : lkr m x = some v) (q : Q v H m) (hk : env.scope.kind = .function) (hd : (x == ("__debug__" : Str)) = false) : EV w k env (.Name x pos) Q H m := ev_loc (by rw [← lkr_lk]; exact hv) q hk hl hd
theorem v_globr {x : Str} {pos : Pos} {a : Addr} (hl : env.kindOf x = some .globalImplicit) (e : nsIn (KK PW w.params) mainGlobals x = some (some (.ref a))) (q : Q (.ref a) H m) (hk : env.scope.kind = .function) (hg : env.globals = mainGlobals) (hd : (x == ("__debug__" : Str)) = false) : EV w k env (.Name x pos) Q H m := ev_glob e q hk hl hg hd
theorem v_globi {x : Str} {pos : Pos} {i : Int} {t : Tok} (hl : env.kindOf x = some .globalImplicit) (e : nsIn (KK PW w.params) mainGlobals x = some (some (.int i t))) (q : Q (.int i 0) H m) (hk : env.scope.kind = .function) (hg : env.globals = mainGlobals) (hd : (x == ("__debug__" : Str)) = false) : EV w k env (.Name x pos) Q H m := ev_glob e q hk hl hg hd
theorem v_bt {x : Str} {pos : Pos} {i : String} (hl : env.kindOf x = some .globalImplicit) (e : lkr BIT x = some (.builtin i)) (q : Q (.builtin i) H m) (hk : env.scope.kind = .function) (hg : env.globals = mainGlobals) (hgb : env.builtins = builtinsNs) (hn : x ≠ "__name__") (hd : (x == ("__debug__" : Str)) = false) : EV w k env (.Name x pos) Q H m :=
  have h := Prod.mk.inj (bi_of w.params e)
  ev_bi h.1 h.2 q hk hl hg hgb hn hd
theorem v_tt {x : Str} {pos : Pos} {i : String} (hl : env.kindOf x = some .globalImplicit) (e : lkr BIT x = some (.type i)) (q : Q (.type i) H m) (hk : env.scope.kind = .function) (hg : env.globals = mainGlobals) (hgb : env.builtins = builtinsNs) (hn : x ≠ "__name__") (hd : (x == ("__debug__" : Str)) = false) : EV w k env (.Name x pos) Q H m :=
  have h := Prod.mk.inj (bi_of w.params e)
  ev_bi h.1 h.2 q hk hl hg hgb hn hd
theorem v_cell {x : Str} {pos : Pos} {c : Addr} {v : Value} (hl : env.kindOf x = some .cell) (hc : env.cells.lookup x = some c) (hv : H c = some (.cell (some v))) (q : Q v H m) (hk : env.scope.kind = .function) (hd : (x == ("__debug__" : Str)) = false) : EV w k env (.Name x pos) Q H m := ev_cell hc hv q hk hl hd
theorem v_free {x : Str} {pos : Pos} {c : Addr} {v : Value} (hl : env.kindOf x = some .free) (hc : env.cells.lookup x = some c) (hv : H c = some (.cell (some v))) (q : Q v H m) (hk : env.scope.kind = .function) (hd : (x == ("__debug__" : Str)) = false) (hn : (x == ("__classdict__" : Str)) = false) : EV w k env (.Name x pos) Q H m := ev_free hc hv q hk hl hd hn
theorem v_attr {o : Expr} {name : Str} {pos : Pos} (h1 : EV w k env o (fun ov H m => ∃ x C fs v, ov = .ref x ∧ H x = some (.inst C fs) ∧ FieldOk C name ∧ lkr fs name = some v ∧ handedIn v = true ∧ Q v H m) H m)
    (he : eval (.Attribute o name pos) env = (do
      let ov ← eval o env
      standAt pos.atName
      let r ← holding [ov] (getAttr ov name true)
      letTemporaryGo o ov r
      pure r)) : EV w k env (.Attribute o name pos) Q H m :=
  ev_attr (AW.mono h1 fun v H m q => by obtain ⟨x, C, fs, u, e1, e2, e3, e4, e5, e6⟩ := q; exact ⟨x, C, fs, u, e1, e2, e3, (lkr_lk _ _).symm.trans e4, e5, e6⟩) he
theorem v_gm {x C f : Addr} {fs : List (Str × Value)} {name : Str} {pl : Sem Bool} {Q' : Value × List Value → AH → Lc → Prop} (hx : H x = some (.inst C fs)) (ok : MethOk w C name f) (hv : lkr fs name = none) (q : Q' (.ref f, [.ref x]) H m) : ∀ u, nv u = .ref x → AW w k env (getMethod u name pl) Q' H m := fun u e => by
  rw [nv_ref e]; exact gm_inst hx ok (by rw [← lkr_lk]; exact hv) q
theorem v_gget {a : Addr} {kvs : List (Int × Value)} {pl : Sem Bool} {Q' : Value × List Value → AH → Lc → Prop} (ha : H a = some (.dict kvs)) (q : Q' (.builtin "dict.get", [.ref a]) H m) : ∀ u, nv u = .ref a → AW w k env (getMethod u "get" pl) Q' H m := fun u e => by
  rw [nv_ref e]; exact gm_get ha q
theorem v_gapp {a : Addr} {xs : List Value} {pl : Sem Bool} {Q' : Value × List Value → AH → Lc → Prop} (ha : H a = some (.list xs)) (q : Q' (.builtin "list.append", [.ref a]) H m) : ∀ u, nv u = .ref a → AW w k env (getMethod u "append" pl) Q' H m := fun u e => by
  rw [nv_ref e]; exact gm_append ha q
theorem a_loc {x : Str} {p : Pos} {v : Value} (hl : env.kindOf x = some .local) (q : QU () H ((x, v) :: m)) (hk : env.scope.kind = .function) : AS w k env (.Name x p) v QU H m := by
  intro u e A s b E hr hb hf
  refine wpAny_mono (as_loc (w := w) (k := k) (p := p) (v := v) (QU := fun _ H' m' => H' = H ∧ m' = putF x v m) ⟨rfl, rfl⟩ hl hk u e A s b E hr hb hf) (fun _ s1 z => ?_) fun _ _ x => x
  obtain ⟨H1, m1, h1, t1, rfl, hf1, rfl, rfl⟩ := z
  refine ⟨_, _, h1, t1, rfl, hf1.same fun y => ?_, q⟩
  rw [lk_put]
  unfold lk
  rw [List.find?_cons]
  dsimp only
  by_cases z : y = x
  · subst z; simp
  · have : (x == y) = false := by simp [Ne.symm z]
    rw [this]; simp [z]
theorem a_cell {x : Str} {p : Pos} {c : Addr} {u0 : Option Value} {v : Value} (hl : env.kindOf x = some .cell) (hc : env.cells.lookup x = some c) (hv : H c = some (.cell u0)) (q : QU () (upd H c (.cell (some v))) m) (hk : env.scope.kind = .function) : AS w k env (.Name x p) v QU H m := as_cell hc hv q hl hk
theorem h_fresh {a c : Addr} {o o' : O} (hc : H c = none) (ha : H a = some o) : upd H c o' a = some o := by
  rw [upd_ne]; exact ha
  rintro rfl; rw [hc] at ha; cases ha
theorem h_old {a c : Addr} {o o' : O} (hn : a ≠ c) (ha : H a = some o) : upd H c o' a = some o := by rw [upd_ne _ _ hn]; exact ha
theorem ne_obj {a c : Addr} {o o' : O} (ha : H a = some o) (hc : H c = some o') (hn : o ≠ o') : a ≠ c := by
  rintro rfl; rw [ha] at hc; exact hn (Option.some.inj hc)
theorem ne_new {a c : Addr} {o : O} (ha : H a = some o) (hc : H c = none) : a ≠ c := by
  rintro rfl; rw [ha] at hc; cases hc
theorem k_call {k' : Nat} {f : Value} {vs : List Value} (t : TC w k' f vs (fun v H' => H' env.locals = none → Q v H' m) H) (hk : k' ≤ k) : CR w k env f vs Q H m := cr_tri hk t.tri
theorem v_neg {e : Expr} {pos : Pos} (h1 : EV w k env e (fun v H m => ∃ i, v = .int i 0 ∧ Q (.int (-i) 0) H m) H m) : EV w k env (.UnaryOp .USub e pos) Q H m := by
  intro A s b E hr hb hf
  refine wpAny_UnaryOp (wpAny_mono (h1 A s b E hr hb hf) (fun u s1 x => ?_) fun _ _ x => x)
  obtain ⟨H1, m1, h1', t1, rfl, hf1, i, e, q⟩ := x
  obtain ⟨t, rfl⟩ := nv_int e
  exact PyProof.Rows.neg_int ⟨H1, m1, h1', _, rfl, hf1, q⟩
theorem x_ret {P : Value → AH → Prop} {e : Expr} {pos : Pos} (h : EV w k env e (fun v H _ => P v H) H m) (r : ∀ v H m, P (nv v) H → QF (.ret v) H m) : E1 w k env (.Return (some e) pos) QF H m := e1_ret (AW.mono h fun v H m q => r v H m q)
theorem x_asn {t value : Expr} {pos : Pos} (h : EV w k env value (fun v H m => AS w k env t v (fun _ => QF .next) H m) H m) (ha : assignEach [t] env = [(false, assign t env)]) (hs : swapsWithSole [t] value pos.line env = pure false) (hw : swappedStores [t] value env = pure none) : E1 w k env (.Assign [t] value pos) QF H m := e1_assign h ha hs hw
theorem dp_nil {pos : Pos} {Q : List (Value × Value) → AH → Lc → Prop} (h : Q [] H m) : DP w k env pos [] Q H m := h
theorem dp_cons {pos : Pos} {x y : Expr} {r : List (Expr × Expr)} {Q : List (Value × Value) → AH → Lc → Prop} (h : EV w k env x (fun a H m => EV w k env y (fun c H m => DP w k env pos r (fun l => Q ((a, c) :: l)) H m) H m) H m) : DP w k env pos ((x, y) :: r) Q H m := h
noncomputable def DEnd (H0 : AH) (c : Addr) (Q : Value → AH → Lc → Prop) (ps : List (Value × Value)) (H : AH) (m : Lc) : Prop := ∃ kvs : List (Int × Value), ps = kvs.map (fun p => (.int p.1 0, p.2)) ∧ (kvs.map (·.1)).Nodup ∧ H c = some (.dict []) ∧ Q (.ref c) (upd H c (.dict kvs)) m
theorem ev_dict1 {k0 v0 : Expr} {pos : Pos} (h : ∀ c, H c = none → c ≠ env.locals → DP w k env pos [(k0, v0)] (DEnd H c Q) (upd H c (.dict [])) m) : EV w k env (.Dict [some k0] [v0] pos) Q H m := ev_dict (l := [(k0, v0)]) rfl (by simp) (by simp) h
theorem ev_dict2 {k0 v0 k1 v1 : Expr} {pos : Pos} (h : ∀ c, H c = none → c ≠ env.locals → DP w k env pos [(k0, v0), (k1, v1)] (DEnd H c Q) (upd H c (.dict [])) m) : EV w k env (.Dict [some k0, some k1] [v0, v1] pos) Q H m := ev_dict (l := [(k0, v0), (k1, v1)]) rfl (by simp) (by simp) h
theorem ev_dict3 {k0 v0 k1 v1 k2 v2 : Expr} {pos : Pos} (h : ∀ c, H c = none → c ≠ env.locals → DP w k env pos [(k0, v0), (k1, v1), (k2, v2)] (DEnd H c Q) (upd H c (.dict [])) m) : EV w k env (.Dict [some k0, some k1, some k2] [v0, v1, v2] pos) Q H m := ev_dict (l := [(k0, v0), (k1, v1), (k2, v2)]) rfl (by simp) (by simp) h
theorem ev_dict4 {k0 v0 k1 v1 k2 v2 k3 v3 : Expr} {pos : Pos} (h : ∀ c, H c = none → c ≠ env.locals → DP w k env pos [(k0, v0), (k1, v1), (k2, v2), (k3, v3)] (DEnd H c Q) (upd H c (.dict [])) m) : EV w k env (.Dict [some k0, some k1, some k2, some k3] [v0, v1, v2, v3] pos) Q H m := ev_dict (l := [(k0, v0), (k1, v1), (k2, v2), (k3, v3)]) rfl (by simp) (by simp) h
theorem dend2 {i0 i1 : Int} {v0 v1 : Value} {H0 : AH} {c : Addr} (hn : ([i0, i1] : List Int).Nodup) (q : Q (.ref c) (upd H0 c (.dict [(i0, v0), (i1, v1)])) m) : DEnd H0 c Q [(.int i0 0, v0), (.int i1 0, v1)] (upd H0 c (.dict [])) m := ⟨[(i0, v0), (i1, v1)], rfl, hn, upd_self .., by rw [upd_twice]; exact q⟩
theorem dend3 {i0 i1 i2 : Int} {v0 v1 v2 : Value} {H0 : AH} {c : Addr} (hn : ([i0, i1, i2] : List Int).Nodup) (q : Q (.ref c) (upd H0 c (.dict [(i0, v0), (i1, v1), (i2, v2)])) m) : DEnd H0 c Q [(.int i0 0, v0), (.int i1 0, v1), (.int i2 0, v2)] (upd H0 c (.dict [])) m := ⟨[(i0, v0), (i1, v1), (i2, v2)], rfl, hn, upd_self .., by rw [upd_twice]; exact q⟩
theorem dend4 {i0 i1 i2 i3 : Int} {v0 v1 v2 v3 : Value} {H0 : AH} {c : Addr} (hn : ([i0, i1, i2, i3] : List Int).Nodup) (q : Q (.ref c) (upd H0 c (.dict [(i0, v0), (i1, v1), (i2, v2), (i3, v3)])) m) : DEnd H0 c Q [(.int i0 0, v0), (.int i1 0, v1), (.int i2 0, v2), (.int i3 0, v3)] (upd H0 c (.dict [])) m := ⟨[(i0, v0), (i1, v1), (i2, v2), (i3, v3)], rfl, hn, upd_self .., by rw [upd_twice]; exact q⟩
theorem fresh_ {n : Nat} {P : Addr → Prop} (hz : n ≤ 1000) (h : ∀ a, H a = none → a ≠ env.locals → P a) : n ≤ 1000 ∧ ∀ a, H a = none → a ≠ env.locals → P a := ⟨hz, h⟩
noncomputable def DQ (Q : Value → AH → Prop) (v : Value) (H1 : AH) : Prop := ∃ H', Sub H' H1 ∧ Q v H'
theorem dq {P : Value → AH → Prop} {v : Value} {H' : AH} (h : Sub H' H) (q : P v H') : DQ P v H := ⟨H', h, q⟩
theorem dq0 {P : Value → AH → Prop} {v : Value} (q : P v H) : DQ P v H := ⟨H, Sub.rfl', q⟩
theorem TC.drop {f : Value} {args : List Value} {P : Value → AH → Prop} (t : TC w k f args (DQ P) H) : TC w k f args P H := fun A s b R vs hr hb Rl e hR => t A s b R vs hr hb Rl e fun v s' d => hR v s' (let ⟨H1, h', t', e, r, H', hs, q⟩ := d; ⟨H', h', t', e, r.sub hs, q⟩)
theorem ex_body {l l' : List Stmt} (e : l = l') (h : EX w k env l' QF H m) : EX w k env l QF H m := e ▸ h
theorem lkr_skip {n x : Str} {u v : Value} {m : Lc} (h : lkr m x = some v) (hn : (n == x) = false) : lkr ((n, u) :: m) x = some v := by
  unfold lkr; rw [hn]; exact h
theorem putF_lt {x : Str} {v : Value} {fs : List (Str × Value)} {n : Nat} (h : fs.length < n) : (putF x v fs).length < n + 1 := Nat.lt_of_le_of_lt (putF_len x v fs) (Nat.succ_lt_succ h)
theorem inst_congr {P : Value → AH → Prop} {v : Value} {a C : Addr} {fs fs' : List (Str × Value)} (e : fs = fs') (q : P v (upd H a (.inst C fs'))) : P v (upd H a (.inst C fs)) := e ▸ q
theorem it_slice {value slice : Expr} {a sl : Addr} {xs : List Value} {l u l' u' : Value} {lo hi : Option Int} (ha : H a = some (.list xs)) (hs : H sl = some (.raw (sliceObj l' u'))) (el : nv l' = l) (eu : nv u' = u) (pl : PT l lo) (pu : PT u hi) (hz : xs.length ≤ 1000)
    (ps : ∀ o i, subscripted slice false o i = operate [i, o] (getItem o i)) (q : ∀ c, H c = none → c ≠ env.locals → Q (.ref c) (upd H c (.list (cut xs lo hi))) m) : IT w k env value slice (.ref a) (.ref sl) Q H m := by
  intro z v e1 e2 A s b E hr hb hf
  rw [nv_ref e1, nv_ref e2]
  obtain ⟨dx, R, vs, n, e, em⟩ := hf.at_ ha
  obtain ⟨_, _, es⟩ := hf.at_ hs
  have es' : s.heap.get? sl = some (sliceObj l' u') := es
  have hlen := map_len em
  have hL : s.heap.IsList a vs.toArray := PySem.IsL.isList (n := n) e
  obtain ⟨f1, f2, f3⟩ := hf.push (ob := { cls := .type "list", data := .seq (slicePick vs.toArray lo hi none) }) (o := .list (cut xs lo hi)) (fun C fs z => by cases z) fun dx => ⟨(slicePick vs.toArray lo hi none).toList, 0, by rw [Heap.get?_push_size _ rfl], by rw [cut_map, em]⟩
  exact tail_any hL.typeIs slot_list_getitem.lookup (wpAny_getItem_list_slice hL ⟨_, es', rfl, rfl⟩ (pl.part el) (pu.part eu) .none (by simp) ⟨_, m, _, s.toks, rfl, f3, q _ f1 f2⟩ (by rw [List.size_toArray, hlen]; exact Nat.le_trans hz (by decide))) (ps _ _)
theorem intro_sl {l u : Value} {P : Addr → Value → Value → Prop} (h : ∀ c l' u', nv l' = l → nv u' = u → H c = none → c ≠ env.locals → P c l' u') : ∀ c l' u', nv l' = l → nv u' = u → H c = none → c ≠ env.locals → P c l' u' := h
theorem nx_next {rest : List Stmt} (h : EX w k env rest QF H m) : Nx w k env rest QF .next H m := h
theorem lq_next {I : AH → Lc → Prop} (h : I H m) : LoopQ I QF .next H m := h
theorem if_true' {P R : Prop} (h : P) : if true = true then P else R := h
theorem if_false' {P R : Prop} (h : R) : if false = true then P else R := h
theorem cr_m1 {f : Value} {a : Addr} {vs : List Value} (h : CR w k env f (.ref a :: vs) Q H m) : CR w k env (f, [Value.ref a]).1 (List.map nv (f, [Value.ref a]).2 ++ vs) Q H m := h
structure KindP (env : Env) (x : Str) (n : NameKind) : Prop where
  k : env.kindOf x = some n
  s : env.scope.kind = .function
  d : (x == ("__debug__" : Str)) = false
structure GlobP (env : Env) (x : Str) : Prop where
  k : env.kindOf x = some .globalImplicit
  s : env.scope.kind = .function
  d : (x == ("__debug__" : Str)) = false
  g : env.globals = mainGlobals
structure BltP (env : Env) (x : Str) (pos : Pos) (args : List Expr) : Prop where
  k : env.kindOf x = some .globalImplicit
  s : env.scope.kind = .function
  d : (x == ("__debug__" : Str)) = false
  g : env.globals = mainGlobals
  b : env.builtins = builtinsNs
  n : (x == ("__name__" : Str)) = false
  a : (backTo pos (starEach args env)).any (·.1) = false
theorem nm_ne {x : Str} (h : (x == ("__name__" : Str)) = false) : x ≠ "__name__" := fun z => by rw [z] at h; simp at h
noncomputable def PV (w : World) (k : Nat) (env : Env) (e : Expr) (v : Value) (H : AH) (m : Lc) : Prop := ∀ Q : Value → AH → Lc → Prop, Q v H m → EV w k env e Q H m
theorem ev_pv {e : Expr} {v : Value} (h : PV w k env e v H m) (q : Q v H m) : EV w k env e Q H m := h Q q
theorem el_pv {pos : Pos} {e : Expr} {l : List Expr} {v : Value} {Q : List Value → AH → Lc → Prop} (h : PV w k env e v H m) (r : starEach (e :: l) env = (false, eval e env) :: starEach l env) (q : EL w k env pos l (fun vs => Q (v :: vs)) H m) : EL w k env pos (e :: l) Q H m := el_cons (h _ q) r
theorem pv_loc {x : Str} {pos : Pos} {v : Value} (r : KindP env x .local) (hv : lkr m x = some v) : PV w k env (.Name x pos) v H m := fun Q q => v_loc r.k hv q r.s r.d
theorem pv_cell {x : Str} {pos : Pos} {c : Addr} {v : Value} (r : KindP env x .cell) (hc : env.cells.lookup x = some c) (hv : H c = some (.cell (some v))) : PV w k env (.Name x pos) v H m := fun Q q => v_cell r.k hc hv q r.s r.d
theorem pv_free {x : Str} {pos : Pos} {c : Addr} {v : Value} (r : KindP env x .free) (rn : (x == ("__classdict__" : Str)) = false) (hc : env.cells.lookup x = some c) (hv : H c = some (.cell (some v))) : PV w k env (.Name x pos) v H m := fun Q q => v_free r.k hc hv q r.s r.d rn
theorem pv_globr {x : Str} {pos : Pos} {a : Addr} (r : GlobP env x) (he : lkr GLT x = some (.ref a)) : PV w k env (.Name x pos) (.ref a) H m := fun Q q => v_globr r.k (gl_of _ he) q r.s r.g r.d
theorem pv_globi {x : Str} {pos : Pos} {i : Int} {t : Tok} (r : GlobP env x) (he : lkr GIT x = some (.int i t)) : PV w k env (.Name x pos) (.int i 0) H m := fun Q q => v_globi r.k (gi_of _ he) q r.s r.g r.d
theorem pv_int {i : Int} {n : Nat} {pos : Pos} : PV w k env (.Constant (.int i) n pos) (.int i 0) H m := fun Q q => ev_int q
theorem pv_str {x : Str} {n : Nat} {pos : Pos} : PV w k env (.Constant (.str x) n pos) (.str x 0) H m := fun Q q => ev_str q
theorem pv_none {n : Nat} {pos : Pos} : PV w k env (.Constant .none n pos) .none H m := fun Q q => ev_none q
theorem pv_bool {x : Bool} {n : Nat} {pos : Pos} : PV w k env (.Constant (.bool x) n pos) (.bool x) H m := fun Q q => ev_bool q
theorem pv_attr {o : Expr} {name : Str} {pos : Pos} {x C : Addr} {fs : List (Str × Value)} {v : Value} (h1 : PV w k env o (.ref x) H m) (hx : H x = some (.inst C fs)) (hl : lkr fs name = some v) (hf : inT FKT C name = true) (hh : handedIn v = true)
    (he : eval (.Attribute o name pos) env = (do
      let ov ← eval o env
      standAt pos.atName
      let r ← holding [ov] (getAttr ov name true)
      letTemporaryGo o ov r
      pure r)) : PV w k env (.Attribute o name pos) v H m := fun Q q => v_attr (h1 _ ⟨x, C, fs, v, rfl, hx, fk_of hf, hl, hh, q⟩) he
theorem pv_list {value slice : Expr} {pos : Pos} {a : Addr} {xs : List Value} {j : Int} {x : Value} (h1 : PV w k env value (.ref a) H m) (h2 : PV w k env slice (.int j 0) H m) (ha : H a = some (.list xs)) (hx : xs[j.toNat]? = some x) (h0 : 0 ≤ j) (hj : j < 2 ^ 63) (ps : PlainSub slice) : PV w k env (.Subscript value slice pos) x H m := fun Q q => ev_sub (h1 _ (h2 _ (it_list ha h0 hx hj q ps)))
theorem pv_tup {value slice : Expr} {pos : Pos} {a : Addr} {xs : List Value} {j : Int} {x : Value} (h1 : PV w k env value (.ref a) H m) (h2 : PV w k env slice (.int j 0) H m) (ha : H a = some (.tup xs)) (hx : xs[j.toNat]? = some x) (h0 : 0 ≤ j) (hj : j < 2 ^ 63) (ps : PlainSub slice) : PV w k env (.Subscript value slice pos) x H m := fun Q q => ev_sub (h1 _ (h2 _ (it_tup ha h0 hx hj q ps)))
theorem pv_neg {e : Expr} {pos : Pos} {i : Int} (h1 : PV w k env e (.int i 0) H m) : PV w k env (.UnaryOp .USub e pos) (.int (-i) 0) H m := fun Q q => v_neg (h1 _ ⟨i, rfl, q⟩)
theorem pv_add {l r : Expr} {pos : Pos} {a c : Int} (h1 : PV w k env l (.int a 0) H m) (h2 : PV w k env r (.int c 0) H m) : PV w k env (.BinOp l .Add r pos) (.int (a + c) 0) H m := fun Q q => ev_bin (h1 _ (h2 _ (op_add q)))
theorem pv_sub {l r : Expr} {pos : Pos} {a c : Int} (h1 : PV w k env l (.int a 0) H m) (h2 : PV w k env r (.int c 0) H m) : PV w k env (.BinOp l .Sub r pos) (.int (a - c) 0) H m := fun Q q => ev_bin (h1 _ (h2 _ (op_sub q)))
theorem ev_callk {x : Str} {p pos : Pos} {args : List Expr} {a : Addr} (he : lkr GLT x = some (.ref a)) (r : BltP env x pos args) (ko : keepIn (KK PW w.params) (.ref a) = true) (h : EL w k env pos args (fun vs H m => CR w k env (.ref a) vs Q H m) H m) : EV w k env (.Call (.Name x p) args [] pos) Q H m :=
  ev_call (v_globr r.k (gl_of _ he) (AW.mono h fun vs H m q => ⟨KO.k ko, q⟩) r.s r.g r.d) r.a
theorem ev_callb {x : Str} {p pos : Pos} {args : List Expr} {i : String} (he : lkr BIT x = some (.builtin i)) (r : BltP env x pos args) (h : EL w k env pos args (fun vs H m => CR w k env (.builtin i) vs Q H m) H m) : EV w k env (.Call (.Name x p) args [] pos) Q H m :=
  ev_call (v_bt r.k he (AW.mono h fun vs H m q => ⟨KO.bi, q⟩) r.s r.g r.b (nm_ne r.n) r.d) r.a
theorem ev_callt {x : Str} {p pos : Pos} {args : List Expr} {i : String} (he : lkr BIT x = some (.type i)) (r : BltP env x pos args) (h : EL w k env pos args (fun vs H m => CR w k env (.type i) vs Q H m) H m) : EV w k env (.Call (.Name x p) args [] pos) Q H m :=
  ev_call (v_tt r.k he (AW.mono h fun vs H m q => ⟨KO.ty, q⟩) r.s r.g r.b (nm_ne r.n) r.d) r.a
theorem xs_loc {x : Str} {p pos : Pos} {value : Expr} {rest : List Stmt} (hl : env.kindOf x = some .local) (hk : env.scope.kind = .function) (hs : swapsWithSole [.Name x p] value pos.line env = pure false) (hw : swappedStores [.Name x p] value env = pure none) (h : EV w k env value (fun v H m => EX w k env rest QF H ((x, v) :: m)) H m) : EX w k env (.Assign [.Name x p] value pos :: rest) QF H m :=
  ex_cons (x_asn (AW.mono h fun v H m q => a_loc hl q hk) rfl hs hw)
theorem as_attrp {o : Expr} {x : Str} {p : Pos} {v : Value} {a C : Addr} {fs : List (Str × Value)} (h1 : PV w k env o (.ref a) H m) (ha : H a = some (.inst C fs)) (r : inT SKT C x = true) (hz : fs.length < 900) (q : QU () (upd H a (.inst C (putF x v fs))) m) : AS w k env (.Attribute o x p) v QU H m := as_attr (h1 _ ⟨a, C, fs, rfl, ha, sk_of r, hz, q⟩)
theorem as_subp {o i : Expr} {p : Pos} {v ov iv : Value} (h1 : PV w k env o ov H m) (h2 : PV w k env i iv H m) (q : SI w k env ov iv v QU H m) : AS w k env (.Subscript o i p) v QU H m := as_sub (h1 _ (h2 _ q))
theorem sub_new {S : AH} {c : Addr} {o : O} (h : Sub S H) (hc : H c = none) : Sub S (upd H c o) := fun a o' e => by
  rw [upd_ne]; exact h a o' e
  rintro rfl; rw [h _ _ e] at hc; cases hc
theorem sub_old {S : AH} {c : Addr} {o : O} (h : Sub S H) (hc : S c = none) : Sub S (upd H c o) := fun a o' e => by
  rw [upd_ne]; exact h a o' e
  rintro rfl; rw [e] at hc; cases hc
theorem h_sub {S : AH} {a : Addr} {o : O} (h : Sub S H) (e : S a = some o) : H a = some o := h a o e
theorem ifc {c : Bool} {P R : Prop} (h1 : c = true → P) (h2 : c = false → R) : if c = true then P else R := by
  cases c with
  | true => rw [if_pos rfl]; exact h1 rfl
  | false => rw [if_neg Bool.false_ne_true]; exact h2 rfl
end
local macro_rules
  | `(tactic| walk_at "lyne") => `(tactic| first
    | with_reducible assumption
    | with_reducible exact Ne.symm (by with_reducible assumption)
    | with_reducible exact ne_new (by with_reducible assumption) (by with_reducible assumption)
    | with_reducible exact Ne.symm (ne_new (by with_reducible assumption) (by with_reducible assumption))
    | with_reducible exact ne_obj (by with_reducible assumption) (by with_reducible assumption) (by intro z; cases z))
local macro_rules
  | `(tactic| walk_at "lyh") => `(tactic| first
    | with_reducible assumption
    | with_reducible exact upd_self _ _ _
    | with_reducible exact h_sub (by with_reducible assumption) (by with_reducible assumption)
    | ((with_reducible refine' h_fresh ?hc ?ha); (case hc => with_reducible assumption); (case ha => walk_at "lyh"))
    | ((with_reducible refine' h_old ?hn ?ha); (case ha => walk_at "lyh"); (case hn => walk_at "lyne")))
local macro_rules
  | `(tactic| walk_at "lysub") => `(tactic| first
    | with_reducible assumption
    | with_reducible exact Sub.rfl'
    | ((with_reducible refine' sub_new ?hs ?hc); (case hc => with_reducible assumption); (case hs => walk_at "lysub")))
local macro_rules
  | `(tactic| walk_at "lyme") => `(tactic| first
    | with_reducible exact me_805_glyph_class _
    | with_reducible exact me_757_class_of _
    | with_reducible exact me_384_has _
    | with_reducible exact me_384_index _
    | with_reducible exact me_467_rules _
    | with_reducible exact me_142_copied _)
local macro_rules
  | `(tactic| walk_at "lyr") => `(tactic| exact rfl)
local macro_rules
  | `(tactic| walk_at "lyl") => `(tactic| first
    | exact rfl
    | with_reducible assumption
    | ((with_reducible refine' lkr_skip ?hs ?hn); (case hn => exact rfl); (case hs => walk_at "lyl")))
local macro_rules
  | `(tactic| walk_at "lyz") => `(tactic| first
    | ((with_reducible refine' putF_lt ?hz); (case hz => walk_at "lyz"))
    | exact Nat.le_of_ble_eq_true rfl)
local macro_rules
  | `(tactic| walk_at "lyko") => `(tactic| first
    | with_reducible exact KO.bi
    | with_reducible exact KO.ty
    | ((with_reducible refine' KO.k ?ke); (case ke => kernel_rfl)))
local macro_rules
  | `(tactic| walk_at "lypv") => `(tactic| first
    | ((with_reducible refine' pv_loc ?r ?hv); (case r => exact ⟨rfl, rfl, rfl⟩); (case hv => walk_at "lyl"))
    | with_reducible exact pv_int
    | with_reducible exact pv_str
    | with_reducible exact pv_none
    | with_reducible exact pv_bool
    | ((with_reducible refine' pv_attr ?h1 ?hx ?hl ?r ?s ?he); (case h1 => walk_at "lypv"); (case hx => walk_at "lyh"); (case hl | r | s | he => exact rfl))
    | ((with_reducible refine' pv_globr ?r ?he); (case r => exact ⟨rfl, rfl, rfl, rfl⟩); (case he => exact rfl))
    | ((with_reducible refine' pv_globi ?r ?he); (case r => exact ⟨rfl, rfl, rfl, rfl⟩); (case he => exact rfl))
    | ((with_reducible refine' pv_cell ?r ?hc ?hv); (case r => exact ⟨rfl, rfl, rfl⟩); (case hc => exact rfl); (case hv => walk_at "lyh"))
    | ((with_reducible refine' pv_free ?r ?s ?hc ?hv); (case r => exact ⟨rfl, rfl, rfl⟩); (case s | hc => exact rfl); (case hv => walk_at "lyh"))
    | ((with_reducible refine' pv_list ?h1 ?h2 ?ha ?hx ?h0 ?hj ?ps); (case h1 | h2 => walk_at "lypv"); (case ha => walk_at "lyh"); (case hx => walk_at "lyx"); (case h0 | hj => walk_at "lyi"); (case ps => (intro _ _; exact rfl)))
    | ((with_reducible refine' pv_tup ?h1 ?h2 ?ha ?hx ?h0 ?hj ?ps); (case h1 | h2 => walk_at "lypv"); (case ha => walk_at "lyh"); (case hx => walk_at "lyx"); (case h0 | hj => walk_at "lyi"); (case ps => (intro _ _; exact rfl)))
    | ((with_reducible refine' pv_neg ?h1); (case h1 => walk_at "lypv"))
    | ((with_reducible refine' pv_add ?h1 ?h2); (case h1 | h2 => walk_at "lypv"))
    | ((with_reducible refine' pv_sub ?h1 ?h2); (case h1 | h2 => walk_at "lypv")))
local macro_rules
  | `(tactic| walk_at "lyx") => `(tactic| first
    | with_reducible assumption
    | exact rfl)
local macro_rules
  | `(tactic| walk_at "lyi") => `(tactic| first
    | decide
    | omega)
local macro_rules
  | `(tactic| walk_at "ly1") => `(tactic| first
    | ((with_reducible refine' ev_pv ?h ?_); (case h => walk_at "lypv"))
    | ((with_reducible refine' el_pv ?h ?r ?_); (case h => walk_at "lypv"); (case r => exact rfl))
    | ((with_reducible refine' xs_loc ?r ?s ?hs ?hw ?_); (case r | s | hs | hw => exact rfl))
    | ((with_reducible refine' ev_callk ?he ?r ?ko ?_); (case he => exact rfl); (case r => exact ⟨rfl, rfl, rfl, rfl, rfl, rfl, rfl⟩); (case ko => kernel_rfl))
    | ((with_reducible refine' ev_callb ?he ?r ?_); (case he => exact rfl); (case r => exact ⟨rfl, rfl, rfl, rfl, rfl, rfl, rfl⟩))
    | ((with_reducible refine' ev_callt ?he ?r ?_); (case he => exact rfl); (case r => exact ⟨rfl, rfl, rfl, rfl, rfl, rfl, rfl⟩))
    | ((with_reducible refine' as_attrp ?h1 ?ha ?r ?hz ?_); (case h1 => walk_at "lypv"); (case ha => walk_at "lyh"); (case r => exact rfl); (case hz => walk_at "lyz"))
    | ((with_reducible refine' as_subp ?h1 ?h2 ?_); (case h1 | h2 => walk_at "lypv"))
    | ((with_reducible first
      | refine' v_attr ?_ ?r
      | refine' ev_call ?_ ?r
      | refine' ev_cmp ?_ ?r
      | refine' el_cons ?_ ?r
      | refine' tr_cmp ?_ ?r
      | refine' tr_chain2 ?_ ?r); (case r => exact rfl))
    | ((with_reducible refine' ev_meth ?_ ?hp ?he); (case hp | he => exact rfl))
    | (with_reducible first
      | refine' ev_bin ?_
      | refine' ev_and2 ?_
      | refine' ev_not ?_
      | refine' v_neg ?_
      | refine' ev_ifexp ?_
      | refine' ev_sub ?_
      | refine' ev_tuple ?_
      | refine' ev_list ?_
      | refine' dp_cons ?_
      | refine' dp_nil ?_
      | refine' ev_sliceobj ?_
      | refine' el_nil ?_
      | refine' ep_none ?_
      | refine' ep_some ?_
      | refine' tr_not ?_
      | refine' tr_bool ?_
      | refine' at_and ?_
      | refine' at_and_nil ?_
      | refine' at_or ?_
      | refine' at_or_nil ?_
      | refine' nx_next ?_
      | refine' ex_cons ?_
      | refine' if_true' ?_
      | refine' if_false' ?_
      | refine' e1_if ?_
      | refine' as_attr ?_
      | refine' as_sub ?_)
    | ((with_reducible refine' tr_val ?_ ?he); (case he => exact rfl))
    | ((with_reducible refine' fresh_ ?hz ?_); (case hz => first | decide | exact Nat.le_of_ble_eq_true rfl | (simp; omega)); intro _ _ _)
    | ((with_reducible first
      | refine' ev_dict0 ?_
      | refine' ev_dict1 ?_
      | refine' ev_dict2 ?_
      | refine' ev_dict3 ?_
      | refine' ev_dict4 ?_); intro _ _ _)
    | ((with_reducible first
      | refine' dend2 ?hn ?_
      | refine' dend3 ?hn ?_
      | refine' dend4 ?hn ?_); (case hn => decide))
    | ((with_reducible refine' x_asn ?_ ?ha ?hs ?hw); (case ha | hs | hw => exact rfl))
    | ((with_reducible refine' e1_expr ?_ ?hi ?hs); (case hi | hs => exact rfl))
    | ((with_reducible refine' a_loc ?hl ?_ ?hk); (case hl | hk => exact rfl))
    | ((with_reducible refine' a_cell ?hl ?hc ?hv ?_ ?hk); (case hl | hc => exact rfl); (case hv => walk_at "lyh"); (case hk => exact rfl)))
local macro_rules
  | `(tactic| walk_at "ly2") => `(tactic| first
    | (with_reducible first
      | refine' op_add ?_
      | refine' op_sub ?_
      | refine' op_and ?_
      | refine' cm_lt ?_
      | refine' cm_le ?_
      | refine' cm_gt ?_
      | refine' cm_ge ?_
      | refine' cm_eq ?_
      | refine' cm_ne ?_
      | refine' cm_eqs ?_
      | refine' tv_bool ?_
      | refine' tv_int ?_
      | refine' cr_m1 ?_)
    | ((with_reducible refine' op_div ?h0 ?hp ?_); (case h0 => decide); (case hp => exact PyProof.noPylong_small (by decide)))
    | ((with_reducible refine' op_mod ?h0 ?_); (case h0 => decide))
    | ((with_reducible refine' cm_is ?hp ?_); (case hp => exact rfl))
    | ((with_reducible refine' cm_isnot ?hp ?_); (case hp => exact rfl))
    | ((with_reducible refine' cm_notin_dict ?ha ?_); (case ha => walk_at "lyh"))
    | ((with_reducible refine' intro_sl ?_); intro _ _ _ _ _ _ _)
    | ((with_reducible refine' ⟨?i, ?e, ?_⟩); (case e => with_reducible exact rfl))
    | ((with_reducible refine' v_gget ?ha ?_); (case ha => walk_at "lyh"))
    | ((with_reducible refine' v_gapp ?ha ?_); (case ha => walk_at "lyh"))
    | ((with_reducible refine' v_gm ?hx ?ok ?hv ?_); (case hx => walk_at "lyh"); (case ok => walk_at "lyme"); (case hv => exact rfl))
    | ((with_reducible refine' And.intro (a := KO _ _ _) ?ko ?_); (case ko => walk_at "lyko"))
    | (((with_reducible refine' it_slice ?ha ?hs ?el ?eu ?pl ?pu ?hz ?ps ?_); (case ha | hs => walk_at "lyh"); (case el | eu => with_reducible assumption); (case pl => first | exact PT.none | exact PT.int _); (case pu => first | exact PT.none | exact PT.int _); (case hz => first | omega | exact Nat.le_of_ble_eq_true rfl | (simp; omega)); (case ps => (intro _ _; exact rfl))); intro _ _ _)
    | ((with_reducible refine' it_dict ?ha ?hx ?_ ?ps); (case ha => walk_at "lyh"); (case hx => with_reducible assumption); (case ps => (intro _ _; exact rfl)))
    | ((with_reducible refine' cr_len_list ?ha ?hz ?_); (case ha => walk_at "lyh"); (case hz => first | omega | (simp; omega) | (simp [intl]; omega)))
    | ((with_reducible refine' cr_len_tup ?ha ?hz ?_); (case ha => walk_at "lyh"); (case hz => first | omega | (simp; omega) | (simp [intl]; omega)))
    | ((with_reducible refine' cr_get2 ?ha ?_); (case ha => walk_at "lyh")))
local macro_rules
  | `(tactic| walk_at "ly") => `(tactic| repeat (first | walk_at "ly1" | walk_at "ly2" | walk_at "ly3"))
local macro_rules
  | `(tactic| walk_at "lyb") => `(tactic| ((with_reducible refine' ex_body ?e (ex_cons ?_)); (case e => exact rfl)))
local macro_rules
  | `(tactic| walk_at "lyret") => `(tactic| ((with_reducible refine' x_ret ?_ ?r); (case r => exact fun _ _ _ h => h)))
local macro_rules
  | `(tactic| walk_at "lycomp") => `(tactic| first
    | ((with_reducible refine' ev_comp ?_ ?hclos ?hcell ?hkind ?hnames ?hxx ?hs); (case hclos | hcell | hkind | hnames | hxx => exact rfl); (case hs => (intro _; exact rfl)))
    | ((with_reducible refine' e1_comp ?hsw ?_ ?hy ?hke ?hclos ?hcell ?hkind ?hnames ?hxx ?hs); (case hsw | hy | hke | hclos | hcell | hkind | hnames | hxx => exact rfl); (case hs => (intro _; exact rfl))))
section P1
theorem c_class_of {w : World} {k : Nat} {H : AH} {x d : Addr} {kvs : List (Int × Value)} {g : Int} {Q : Value → AH → Prop} (hx : H x = some (.inst 757 [("classes", .ref d)])) (hd : H d = some (.dict kvs)) (q : Q ((dk kvs g).getD (.int 0 0)) H) : TC w (k + 1) (.ref 735) [.ref x, .int g 0] Q H := by
  with_reducible refine' fn_735 ?_; intro L hL
  walk_at "lyb"
  with_reducible refine' x_ret (P := Q) ?_ ?r
  case r => exact fun _ _ _ h => h
  walk_at "ly"
  exact q
noncomputable def CLS : List (Int × Value) := [(1, .int 1 0), (2, .int 1 0), (3, .int 3 0), (4, .int 3 0)]
noncomputable def cls (g : Int) : Int := if g = 1 ∨ g = 2 then 1 else if g = 3 ∨ g = 4 then 3 else 0
theorem dk_cls (g : Int) : (dk CLS g).getD (.int 0 0) = .int (cls g) 0 := by
  unfold dk CLS cls
  by_cases h1 : g = 1
  · subst h1; rfl
  by_cases h2 : g = 2
  · subst h2; rfl
  by_cases h3 : g = 3
  · subst h3; rfl
  by_cases h4 : g = 4
  · subst h4; rfl
  simp [h1, h2, h3, h4, Ne.symm h1, Ne.symm h2, Ne.symm h3, Ne.symm h4]
theorem cls_cases (g : Int) : cls g = 1 ∨ cls g = 3 ∨ cls g = 0 := by
  unfold cls
  split
  · simp
  · split <;> simp
local macro_rules
  | `(tactic| walk_at "ly3") => `(tactic| (((with_reducible refine' k_call (c_class_of ?hx ?hd ?_) ?hk); (case hk => exact Nat.le_refl _); (case hx | hd => walk_at "lyh")); intro _))
theorem c_glyph_class {w : World} {k : Nat} {H : AH} {x cd d : Addr} {a1 a2 a3 a4 : Value} {g : Int} {Q : Value → AH → Prop} (hx : H x = some (.inst 805 [("classes", .ref cd), ("attach", a1), ("sets", a2), ("points", a3), ("carets", a4)])) (hc : H cd = some (.inst 757 [("classes", .ref d)])) (hd : H d = some (.dict CLS)) (q : Q (.int (cls g) 0) H) : TC w (k + 2) (.ref 783) [.ref x, .int g 0] Q H := by
  with_reducible refine' fn_783 ?_; intro L hL
  walk_at "lyb"
  walk_at "ly"
  rw [dk_cls]
  walk_at "ly"
  with_reducible refine' x_ret (P := Q) ?_ ?r
  case r => exact fun _ _ _ h => h
  walk_at "ly"
  have hc := cls_cases g
  refine ifc (fun h1 => ?_) (fun h1 => ?_) <;> (simp at h1; walk_at "ly")
  · refine ifc (fun h2 => ?_) (fun h2 => ?_) <;> (simp at h2; walk_at "ly")
    · exact q
    · omega
  · have e : cls g = 0 := by omega
    rw [← e]; exact q
noncomputable def cbit (g : Int) : Int := if g = 1 then 2 else if g = 2 then 4 else if g = 3 then 8 else 0
theorem dk_cbit (g : Int) : (dk [(1, .int 2 0), (2, .int 4 0), (3, .int 8 0)] g).getD (.int 0 0) = .int (cbit g) 0 := by
  unfold dk cbit
  by_cases h1 : g = 1
  · subst h1; rfl
  by_cases h2 : g = 2
  · subst h2; rfl
  by_cases h3 : g = 3
  · subst h3; rfl
  simp [h1, h2, h3, Ne.symm h1, Ne.symm h2, Ne.symm h3]
theorem c_class_bit {w : World} {k : Nat} {H : AH} {g : Int} {Q : Value → AH → Prop} (q : Q (.int (cbit g) 0) H) : TC w (k + 1) (.ref 83) [.int g 0] Q H := by
  with_reducible refine' TC.drop (fn_83 ?_); intro L hL
  walk_at "lyb"
  with_reducible refine' x_ret (P := DQ Q) ?_ ?r
  case r => exact fun _ _ _ h => h
  walk_at "ly"
  rw [dk_cbit]
  exact dq (by walk_at "lysub") q
theorem c_attach_wanted {w : World} {k : Nat} {H : AH} {g : Int} {Q : Value → AH → Prop} (q : Q (.int ((g.fdiv 256).fmod 256) 0) H) : TC w (k + 1) (.ref 76) [.int g 0] Q H := by
  with_reducible refine' fn_76 ?_; intro L hL
  walk_at "lyb"
  with_reducible refine' x_ret (P := Q) ?_ ?r
  case r => exact fun _ _ _ h => h
  walk_at "ly"
  exact q
noncomputable def passed (flag g : Int) : Bool := (flag == 2 && cls g == 1) || (flag == 8 && cls g == 3)
local macro_rules
  | `(tactic| walk_at "ly3") => `(tactic| (((with_reducible refine' k_call (c_glyph_class ?hx ?hc ?hd ?_) ?hk); (case hk => exact Nat.le_refl _); (case hx | hc | hd => walk_at "lyh")); intro _))
local macro_rules
  | `(tactic| walk_at "ly3") => `(tactic| (((with_reducible refine' k_call (c_class_bit ?_) ?hk); (case hk => exact Nat.le_add_left _ _)); intro _))
local macro_rules
  | `(tactic| walk_at "ly3") => `(tactic| (((with_reducible refine' k_call (c_attach_wanted ?_) ?hk); (case hk => exact Nat.le_add_left _ _)); intro _))
theorem c_is_ignored {w : World} {k : Nat} {H : AH} {gd lo cd d : Addr} {a1 a2 a3 a4 b1 b2 b3 : Value} {g flag : Int} {Q : Value → AH → Prop} (hg : H gd = some (.inst 805 [("classes", .ref cd), ("attach", a1), ("sets", a2), ("points", a3), ("carets", a4)])) (hc : H cd = some (.inst 757 [("classes", .ref d)])) (hd : H d = some (.dict CLS))
    (hl : H lo = some (.inst 43 [("kind", b1), ("flag", .int flag 0), ("mark_set", b2), ("tables", b3)])) (hf : flag = 0 ∨ flag = 2 ∨ flag = 8) (q : Q (.bool (passed flag g)) H) : TC w (k + 3) (.ref 90) [.ref gd, .ref lo, .int g 0] Q H := by
  with_reducible refine' TC.drop (fn_90 ?_); intro L hL
  walk_at "lyb"
  walk_at "ly"
  have e1 : (Builtin.bitAnd flag (cbit (cls g)) != 0) = passed flag g := by
    unfold passed cbit
    rcases hf with rfl | rfl | rfl <;> rcases cls_cases g with h | h | h <;> rw [h] <;> decide
  have e2 : (Builtin.bitAnd flag 16 != 0) = false := by rcases hf with rfl | rfl | rfl <;> decide
  have e3 : decide (0 < (flag.fdiv 256).fmod 256) = false := by rcases hf with rfl | rfl | rfl <;> decide
  rw [e1]
  refine ifc (fun h1 => ?_) (fun h1 => ?_)
  · walk_at "ly"
    with_reducible refine' x_ret (P := DQ Q) ?_ ?r
    case r => exact fun _ _ _ h => h
    walk_at "ly"
    rw [h1] at q
    exact dq0 q
  · rw [h1] at q
    walk_at "ly"
    with_reducible refine' ex_nil ?_
    walk_at "ly"
    refine ifc (fun h2 => ?_) (fun h2 => ?_)
    · walk_at "ly"
      with_reducible refine' x_ret (P := DQ Q) ?_ ?r
      case r => exact fun _ _ _ h => h
      walk_at "ly"
      exact dq0 q
    · walk_at "ly"
      with_reducible refine' ex_nil ?_
      walk_at "ly"
      rw [e2]
      walk_at "ly"
      with_reducible refine' ex_nil ?_
      walk_at "ly"
      with_reducible refine' x_ret (P := DQ Q) ?_ ?r
      case r => exact fun _ _ _ h => h
      walk_at "ly"
      rw [e3]
      walk_at "ly"
      exact dq0 q
end P1
section P2
structure Inf where
  g : Int
  c : Int
  m : Int
  p : Int
noncomputable def ifs (i : Inf) : List (Str × Value) := [("code", .int 0 0), ("glyph", .int i.g 0), ("cluster", .int i.c 0), ("mask", .int i.m 0), ("is_unsafe", .bool false), ("lig_id", .int 0 0), ("lig_part", .int i.p 0), ("lig_count", .int 0 0), ("kind", .str "" 0), ("x_advance", .int 0 0), ("y_advance", .int 0 0), ("x_offset", .int 0 0), ("y_offset", .int 0 0), ("parent", .int 0 0), ("bond", .str "" 0)]
structure GA where
  gd : Addr
  cd : Addr
  cdict : Addr
  ga1 : Value
  ga2 : Value
  ga3 : Value
  ga4 : Value
  bf : Addr
  rl : Addr
  b1 : Value
  b2 : Value
  lks : Addr
structure Still (S : AH) (G : GA) : Prop where
  gd : S G.gd = some (.inst 805 [("classes", .ref G.cd), ("attach", G.ga1), ("sets", G.ga2), ("points", G.ga3), ("carets", G.ga4)])
  cd : S G.cd = some (.inst 757 [("classes", .ref G.cdict)])
  cdict : S G.cdict = some (.dict CLS)
  bf : S G.bf = some (.inst 186 [("row", .ref G.rl), ("is_backward", G.b1), ("last_lig", G.b2)])
noncomputable def scn (G : GA) (l : Addr) (mask depth : Int) : O := .inst 65 [("buffer", .ref G.bf), ("gdef", .ref G.gd), ("lookups", .ref G.lks), ("lookup", .ref l), ("mask", .int mask 0), ("depth", .int depth 0)]
noncomputable def lkp (kind : Str) (flag : Int) (ms : Value) (tb : Addr) : O := .inst 43 [("kind", .str kind 0), ("flag", .int flag 0), ("mark_set", ms), ("tables", .ref tb)]
structure Row (S H : AH) (G : GA) (is : List (Addr × Inf)) : Prop where
  rl : H G.rl = some (.list (is.map fun p => .ref p.1))
  at_ : ∀ p ∈ is, H p.1 = some (.inst 142 (ifs p.2))
  ap : is.Pairwise fun x y => x.1 ≠ y.1
  nr : S G.rl = none
  ns : ∀ p ∈ is, S p.1 = none
  len : is.length < 100
theorem row_get {S H : AH} {G : GA} {is : List (Addr × Inf)} (r : Row S H G is) {j : Nat} {p : Addr × Inf} (h : is[j]? = some p) : (is.map fun p : Addr × Inf => Value.ref p.1)[j]? = some (.ref p.1) ∧ H p.1 = some (.inst 142 (ifs p.2)) := by
  refine ⟨by rw [List.getElem?_map, h]; rfl, r.at_ p (List.mem_of_getElem? h)⟩
section
variable {w : World} {k : Nat} {S H : AH} {G : GA} {is : List (Addr × Inf)} {sc lo tb : Addr} {kind : Str} {flag mask depth : Int} {ms : Value} {j : Nat} {p : Addr × Inf} {Q : Value → AH → Prop}
local macro_rules
  | `(tactic| walk_at "ly3") => `(tactic| (((with_reducible refine' k_call (c_is_ignored ?hg ?hc ?hd ?hl ?hf ?_) ?hk); (case hk => exact Nat.le_refl _); (case hg | hc | hd | hl => walk_at "lyh"); (case hf => with_reducible assumption)); intro _))
local macro_rules
  | `(tactic| walk_at "ly3") => `(tactic| ((with_reducible refine' it_list ?ha ?h0 ?hx ?hj ?_ ?ps); (case ha => walk_at "lyh"); (case hx => with_reducible assumption); (case h0 => omega); (case hj => omega); (case ps => (intro _ _; exact rfl))))
theorem c_passes (hS : Sub S H) (T : Still S G) (R : Row S H G is) (hsc : H sc = some (scn G lo mask depth)) (hlo : S lo = some (lkp kind flag ms tb)) (hf : flag = 0 ∨ flag = 2 ∨ flag = 8) (hj : is[j]? = some p) (q : Q (.bool (passed flag p.2.g)) H) : TC w (k + 4) (.ref 97) [.ref sc, .int j 0] Q H := by
  obtain ⟨t1, t2, t3, t4⟩ := T
  obtain ⟨g1, g2⟩ := row_get R hj
  have rl := R.rl
  have hlen : j < is.length := (List.getElem?_eq_some_iff.mp hj).1
  have h100 := R.len
  have g1' : (is.map fun p : Addr × Inf => Value.ref p.1)[(j : Int).toNat]? = some (.ref p.1) := g1
  unfold scn at hsc
  unfold lkp at hlo
  unfold ifs at g2
  with_reducible refine' TC.drop (fn_97 ?_); intro L hL
  walk_at "lyb"
  with_reducible refine' x_ret (P := DQ Q) ?_ ?r
  case r => exact fun _ _ _ h => h
  walk_at "ly"
  exact dq0 q
local macro_rules
  | `(tactic| walk_at "ly3") => `(tactic| (((with_reducible refine' k_call (c_passes ?hS ?T ?R ?hsc ?hlo ?hf ?hj ?_) ?hk); (case hk => exact Nat.le_refl _); (case hS | T | R => with_reducible assumption); (case hsc => walk_at "lyh"); (case hlo | hf | hj => with_reducible assumption)); intro _))
theorem c_takes (hS : Sub S H) (T : Still S G) (R : Row S H G is) (hsc : H sc = some (scn G lo mask depth)) (hlo : S lo = some (lkp kind flag ms tb)) (hf : flag = 0 ∨ flag = 2 ∨ flag = 8) (hj : is[j]? = some p) (q : Q (.bool (Builtin.bitAnd p.2.m mask != 0 && !passed flag p.2.g)) H) : TC w (k + 5) (.ref 104) [.ref sc, .int j 0] Q H := by
  have T0 := T
  obtain ⟨t1, t2, t3, t4⟩ := T
  obtain ⟨g1, g2⟩ := row_get R hj
  have rl := R.rl
  have hlen : j < is.length := (List.getElem?_eq_some_iff.mp hj).1
  have h100 := R.len
  have g1' : (is.map fun p : Addr × Inf => Value.ref p.1)[(j : Int).toNat]? = some (.ref p.1) := g1
  have hsc0 := hsc
  unfold scn at hsc
  have hlo0 := hlo
  unfold lkp at hlo
  unfold ifs at g2
  with_reducible refine' TC.drop (fn_104 ?_); intro L hL
  walk_at "lyb"
  with_reducible refine' x_ret (P := DQ Q) ?_ ?r
  case r => exact fun _ _ _ h => h
  walk_at "ly"
  refine ifc (fun h1 => ?_) (fun h1 => ?_)
  · rw [h1] at q
    walk_at "ly"
    exact dq0 q
  · rw [h1] at q
    exact dq0 (by rw [h1]; exact q)
end
end P2
section P3
section
variable {w : World} {k : Nat} {S H : AH} {Q : Value → AH → Prop} {xs : List Int} {g : Int} {x t : Addr}
theorem intl_at {j : Int} {y : Int} (h0 : 0 ≤ j) (h : xs[j.toNat]? = some y) : (intl xs)[j.toNat]? = some (.int y 0) := by unfold intl; rw [List.getElem?_map, h]; rfl
theorem intl_len : (intl xs).length = xs.length := by unfold intl; simp
local macro_rules
  | `(tactic| walk_at "ly3") => `(tactic| ((with_reducible refine' it_tup ?ha ?h0 ?hx ?hj ?_ ?ps); (case ha => walk_at "lyh"); (case hx => with_reducible assumption); (case h0 => omega); (case hj => omega); (case ps => (intro _ _; exact rfl))))
theorem c_index (hx : H x = some (.inst 384 [("glyphs", .ref t)])) (ht : H t = some (.tup (intl xs))) (hl : xs.length < 100) (hs : xs.Pairwise (· < ·)) (q : ∀ r : Int, decide (0 ≤ r) = decide (g ∈ xs) → Q (.int r 0) H) : TC w (k + 1) (.ref 367) [.ref x, .int g 0] Q H := by
  with_reducible refine' TC.drop (fn_367 ?_); intro L hL
  walk_at "lyb"
  walk_at "ly"
  rw [intl_len]
  walk_at "ly"
  refine e1_while (fun n H' m => H' = H ∧ ∃ lo hi : Int, lkr m "low" = some (.int lo 0) ∧ lkr m "high" = some (.int hi 0) ∧ lkr m "glyph" = some (.int g 0) ∧ lkr m "self" = some (.ref x) ∧ 0 ≤ lo ∧ lo ≤ hi ∧ hi ≤ xs.length ∧ (n : Int) = hi - lo ∧ (∀ i : Nat, (i : Int) < lo → ∀ y, xs[i]? = some y → y < g) ∧ (∀ i : Nat, hi ≤ (i : Int) → ∀ y, xs[i]? = some y → g ≤ y)) xs.length ?_ ?_
  · refine ⟨rfl, 0, xs.length, rfl, rfl, rfl, rfl, by omega, by omega, by omega, by omega, fun i h => by omega, fun i h y hy => ?_⟩
    have := (List.getElem?_eq_some_iff.mp hy).1; omega
  · rintro n H' m ⟨rfl, lo, hi, l1, l2, l3, l4, h1, h2, h3, h4, h5, h6⟩
    walk_at "ly"
    refine ifc (fun c => ?_) (fun c => ?_)
    · have c' : lo < hi := of_decide_eq_true c
      have hmid : (lo + hi).fdiv 2 = (lo + hi) / 2 := Int.fdiv_eq_ediv_of_nonneg _ (by decide)
      have hm1 : lo ≤ (lo + hi) / 2 := by omega
      have hm2 : (lo + hi) / 2 < hi := by omega
      walk_at "ly"
      rw [hmid]
      generalize hmm : (lo + hi) / 2 = mid at hm1 hm2 ⊢
      have hlt : mid.toNat < xs.length := by omega
      have hy : xs[mid.toNat]? = some xs[mid.toNat] := List.getElem?_eq_getElem hlt
      generalize xs[mid.toNat] = y at hy
      have hyy := intl_at (xs := xs) (j := mid) (by omega) hy
      walk_at "ly"
      have sorted : ∀ (a b : Nat) (u v : Int), a ≤ b → xs[a]? = some u → xs[b]? = some v → u ≤ v := fun a b u v hab hu hv => by
        obtain ⟨la, rfl⟩ := List.getElem?_eq_some_iff.mp hu
        obtain ⟨lb, rfl⟩ := List.getElem?_eq_some_iff.mp hv
        rcases Nat.lt_or_eq_of_le hab with hlt | rfl
        · exact Int.le_of_lt (List.pairwise_iff_getElem.mp hs a b la lb hlt)
        · exact Int.le_refl _
      refine ifc (fun d => ?_) (fun d => ?_)
      · have d' : y < g := of_decide_eq_true d
        walk_at "ly"
        with_reducible refine' ex_nil ?_
        walk_at "ly"
        with_reducible refine' ex_nil ?_
        with_reducible refine' lq_next ?_
        refine ⟨(hi - (mid + 1)).toNat, by omega, rfl, mid + 1, hi, rfl, by walk_at "lyl", by walk_at "lyl", by walk_at "lyl", by omega, by omega, by omega, by omega, fun i hi' u hu => ?_, h6⟩
        have := sorted i mid.toNat u y (by omega) hu hy
        omega
      · have d' : ¬ y < g := of_decide_eq_false d
        walk_at "ly"
        with_reducible refine' ex_nil ?_
        walk_at "ly"
        with_reducible refine' ex_nil ?_
        with_reducible refine' lq_next ?_
        refine ⟨(mid - lo).toNat, by omega, rfl, lo, mid, by walk_at "lyl", rfl, by walk_at "lyl", by walk_at "lyl", by omega, by omega, by omega, by omega, h5, fun i hi' u hu => ?_⟩
        have := sorted mid.toNat i y u (by omega) hy hu
        omega
    · have c' : ¬ lo < hi := of_decide_eq_false c
      have elo : lo = hi := by omega
      subst elo
      walk_at "ly"
      rw [intl_len]
      walk_at "ly"
      refine ifc (fun d => ?_) (fun d => ?_)
      · have d' : lo < xs.length := of_decide_eq_true d
        have hlt : lo.toNat < xs.length := by omega
        have hy : xs[lo.toNat]? = some xs[lo.toNat] := List.getElem?_eq_getElem hlt
        generalize xs[lo.toNat] = y at hy
        have hyy := intl_at (xs := xs) (j := lo) (by omega) hy
        walk_at "ly"
        cases hb : (y == g) with
        | true =>
          have e : y = g := beq_iff_eq.mp hb
          subst e
          walk_at "ly"
          with_reducible refine' x_ret (P := DQ Q) ?_ ?r
          case r => exact fun _ _ _ h => h
          walk_at "ly"
          refine dq0 (q _ ?_)
          have : y ∈ xs := List.mem_of_getElem? hy
          rw [decide_eq_true this, decide_eq_true (by omega)]
        | false =>
          have e : y ≠ g := by simpa using hb
          walk_at "ly"
          with_reducible refine' ex_nil ?_
          walk_at "ly"
          with_reducible refine' x_ret (P := DQ Q) ?_ ?r
          case r => exact fun _ _ _ h => h
          walk_at "ly"
          refine dq0 (q _ ?_)
          have : ¬ g ∈ xs := fun hm => by
            obtain ⟨i, hi⟩ := List.mem_iff_getElem?.mp hm
            rcases Int.lt_or_le (i : Int) lo with hl | hl
            · have := h5 i hl g hi; omega
            · rcases Int.lt_or_eq_of_le hl with hl | hl
              · have hb : lo.toNat < i := by omega
                obtain ⟨la, ea⟩ := List.getElem?_eq_some_iff.mp hy
                obtain ⟨lb, eb⟩ := List.getElem?_eq_some_iff.mp hi
                have := List.pairwise_iff_getElem.mp hs lo.toNat i la lb hb
                have := h6 lo.toNat (by omega) y hy
                omega
              · have : i = lo.toNat := by omega
                rw [this, hy] at hi
                exact e (Option.some.inj hi)
          rw [decide_eq_false this, decide_eq_false (by omega)]
      · have d' : ¬ lo < xs.length := of_decide_eq_false d
        walk_at "ly"
        with_reducible refine' ex_nil ?_
        walk_at "ly"
        with_reducible refine' x_ret (P := DQ Q) ?_ ?r
        case r => exact fun _ _ _ h => h
        walk_at "ly"
        refine dq0 (q _ ?_)
        have : ¬ g ∈ xs := fun hm => by
          obtain ⟨i, hi⟩ := List.mem_iff_getElem?.mp hm
          have := (List.getElem?_eq_some_iff.mp hi).1
          have := h5 i (by omega) g hi
          omega
        rw [decide_eq_false this, decide_eq_false (by omega)]
local macro_rules
  | `(tactic| walk_at "ly3") => `(tactic| (((with_reducible refine' k_call (c_index ?hx ?ht ?hl ?hs ?_) ?hk); (case hk => exact Nat.le_refl _); (case hx | ht => walk_at "lyh"); (case hl | hs => with_reducible assumption))))
theorem c_has (hx : H x = some (.inst 384 [("glyphs", .ref t)])) (ht : H t = some (.tup (intl xs))) (hl : xs.length < 100) (hs : xs.Pairwise (· < ·)) (q : Q (.bool (decide (g ∈ xs))) H) : TC w (k + 2) (.ref 374) [.ref x, .int g 0] Q H := by
  with_reducible refine' TC.drop (fn_374 ?_); intro L hL
  walk_at "lyb"
  with_reducible refine' x_ret (P := DQ Q) ?_ ?r
  case r => exact fun _ _ _ h => h
  walk_at "ly"
  intro r hr _
  walk_at "ly"
  rw [hr]
  exact dq0 q
end
end P3
section P4
section
variable {w : World} {k : Nat} {S H : AH} {Q : Value → AH → Prop} {x : Addr}
theorem i_info {g c : Int} (hx : H x = some (.inst 142 [])) (q : Q .none (upd H x (.inst 142 (ifs ⟨g, c, 0, 0⟩)))) : TC w (k + 1) (.ref 125) [.ref x, .int 0 0, .int g 0, .int c 0] Q H := by
  with_reducible refine' fn_125 ?_; intro L hL
  walk_at "lyb"
  walk_at "ly"
  with_reducible refine' ex_nil ?_
  simp only [upd_twice, retOf]
  have e : putF "bond" (.str "" 0) (putF "parent" (.int 0 0) (putF "y_offset" (.int 0 0) (putF "x_offset" (.int 0 0) (putF "y_advance" (.int 0 0) (putF "x_advance" (.int 0 0) (putF "kind" (.str "" 0) (putF "lig_count" (.int 0 0) (putF "lig_part" (.int 0 0) (putF "lig_id" (.int 0 0) (putF "is_unsafe" (.bool false) (putF "mask" (.int 0 0) (putF "cluster" (.int c 0) (putF "glyph" (.int g 0) (putF "code" (.int 0 0) [])))))))))))))) = ifs ⟨g, c, 0, 0⟩ := by kernel_rfl
  rw [e]
  exact q
theorem n_info {g c : Int} (q : ∀ x, H x = none → Q (.ref x) (upd H x (.inst 142 (ifs ⟨g, c, 0, 0⟩)))) : TC w (k + 2) (.ref 142) [.int 0 0, .int g 0, .int c 0] Q H :=
  tc_new (mk_142 w) fun x hx => i_info (upd_self _ _ _) ⟨rfl, by rw [upd_twice]; exact q x hx⟩
local macro_rules
  | `(tactic| walk_at "ly3") => `(tactic| (((with_reducible refine' k_call (n_info ?_) ?hk); (case hk => exact Nat.le_refl _)); intro _ _ _))
theorem c_copied {i : Inf} (hx : H x = some (.inst 142 (ifs i))) (q : ∀ a, H a = none → Q (.ref a) (upd H a (.inst 142 (ifs i)))) : TC w (k + 3) (.ref 132) [.ref x] Q H := by
  unfold ifs at hx
  with_reducible refine' fn_132 ?_; intro L hL
  walk_at "lyb"
  walk_at "ly"
  unfold ifs
  walk_at "ly"
  with_reducible refine' x_ret (P := Q) ?_ ?r
  case r => exact fun _ _ _ h => h
  walk_at "ly"
  simp only [upd_twice, retOf]
  with_reducible refine' inst_congr ?e (q _ ?h)
  case e => kernel_rfl
  case h => with_reducible assumption
theorem i_scene {a1 a2 a3 a4 a5 a6 : Value} (hx : H x = some (.inst 65 [])) (q : Q .none (upd H x (.inst 65 [("buffer", a1), ("gdef", a2), ("lookups", a3), ("lookup", a4), ("mask", a5), ("depth", a6)]))) : TC w (k + 1) (.ref 62) [.ref x, a1, a2, a3, a4, a5, a6] Q H := by
  with_reducible refine' fn_62 ?_; intro L hL
  walk_at "lyb"
  walk_at "ly"
  with_reducible refine' ex_nil ?_
  simp only [upd_twice, retOf]
  with_reducible refine' inst_congr ?e q
  case e => kernel_rfl
theorem i_scene1 {a1 a2 a3 a4 a5 : Value} (hx : H x = some (.inst 65 [])) (q : Q .none (upd H x (.inst 65 [("buffer", a1), ("gdef", a2), ("lookups", a3), ("lookup", a4), ("mask", a5), ("depth", .int 0 0)]))) : TC w (k + 1) (.ref 62) [.ref x, a1, a2, a3, a4, a5] Q H := by
  with_reducible refine' fn_62_1 ?_; intro L hL
  walk_at "lyb"
  walk_at "ly"
  with_reducible refine' ex_nil ?_
  simp only [upd_twice, retOf]
  with_reducible refine' inst_congr ?e q
  case e => kernel_rfl
theorem n_scene {a1 a2 a3 a4 a5 a6 : Value} (q : ∀ x, H x = none → Q (.ref x) (upd H x (.inst 65 [("buffer", a1), ("gdef", a2), ("lookups", a3), ("lookup", a4), ("mask", a5), ("depth", a6)]))) : TC w (k + 2) (.ref 65) [a1, a2, a3, a4, a5, a6] Q H :=
  tc_new (mk_65 w) fun x hx => i_scene (upd_self _ _ _) ⟨rfl, by rw [upd_twice]; exact q x hx⟩
theorem n_scene1 {a1 a2 a3 a4 a5 : Value} (q : ∀ x, H x = none → Q (.ref x) (upd H x (.inst 65 [("buffer", a1), ("gdef", a2), ("lookups", a3), ("lookup", a4), ("mask", a5), ("depth", .int 0 0)]))) : TC w (k + 2) (.ref 65) [a1, a2, a3, a4, a5] Q H :=
  tc_new (mk_65 w) fun x hx => i_scene1 (upd_self _ _ _) ⟨rfl, by rw [upd_twice]; exact q x hx⟩
theorem i_places {a1 a2 : Value} (hx : H x = some (.inst 510 [])) (q : Q .none (upd H x (.inst 510 [("row", a1), ("end", a2)]))) : TC w (k + 1) (.ref 507) [.ref x, a1, a2] Q H := by
  with_reducible refine' fn_507 ?_; intro L hL
  walk_at "lyb"
  walk_at "ly"
  with_reducible refine' ex_nil ?_
  simp only [upd_twice, retOf]
  with_reducible refine' inst_congr ?e q
  case e => kernel_rfl
theorem n_places {a1 a2 : Value} (q : ∀ x, H x = none → Q (.ref x) (upd H x (.inst 510 [("row", a1), ("end", a2)]))) : TC w (k + 2) (.ref 510) [a1, a2] Q H :=
  tc_new (mk_510 w) fun x hx => i_places (upd_self _ _ _) ⟨rfl, by rw [upd_twice]; exact q x hx⟩
end
end P4
section P5
theorem cut_one (xs : List Value) (j : Nat) : (cut xs (some (j : Int)) (some ((j : Int) + 1))).length ≤ 1 := by
  unfold cut cutLo cutHi
  have : ((j : Int) + 1) = ((j + 1 : Nat) : Int) := by omega
  rw [this]
  simp only [Option.elim, clipAt_nat, List.length_take]
  omega
section
variable {w : World} {k : Nat} {S H : AH} {G : GA} {is : List (Addr × Inf)} {sc lo tb t md : Addr} {kind : Str} {flag mask depth : Int} {ms : Value} {j : Nat} {p : Addr × Inf} {Q : Value → AH → Prop}
theorem c_merge {bf : Value} (q : Q .none H) : TC w (k + 1) (.ref 209) [bf, .int j 0, .int (j + 1) 0] Q H := by
  with_reducible refine' fn_209 ?_; intro L hL
  walk_at "lyb"
  walk_at "ly"
  have e : decide ((j : Int) + 1 - j < 2) = true := decide_eq_true (by omega)
  rw [e]
  walk_at "ly"
  with_reducible refine' e1_ret0 ?_
  exact q
theorem c_hang (hS : Sub S H) (T : Still S G) (R : Row S H G is) (q : Q .none H) : TC w (k + 1) (.ref 214) [.ref G.bf, .int j 0, .int (j + 1) 0] Q H := by
  obtain ⟨t1, t2, t3, t4⟩ := T
  have rl := R.rl
  have h100 := R.len
  have hlen : (is.map fun p : Addr × Inf => Value.ref p.1).length ≤ 1000 := by simp; omega
  with_reducible refine' TC.drop (fn_214 ?_); intro L hL
  walk_at "lyb"
  walk_at "ly"
  have h1 := cut_one (is.map fun p => .ref p.1) j
  with_reducible refine' cr_len_list ?ha ?hz ?_
  case ha => walk_at "lyh"
  case hz => omega
  walk_at "ly"
  have e : decide (((cut (is.map fun p => Value.ref p.1) (some (j : Int)) (some ((j : Int) + 1))).length : Int) < 2) = true := decide_eq_true (by omega)
  rw [e]
  walk_at "ly"
  with_reducible refine' e1_ret0 ?_
  exact dq (by walk_at "lysub") q
local macro_rules
  | `(tactic| walk_at "ly3") => `(tactic| ((with_reducible refine' it_list ?ha ?h0 ?hx ?hj ?_ ?ps); (case ha => walk_at "lyh"); (case hx => with_reducible assumption); (case h0 => omega); (case hj => omega); (case ps => (intro _ _; exact rfl))))
theorem c_single (hS : Sub S H) (T : Still S G) (R : Row S H G is) (hsc : H sc = some (scn G lo mask depth)) (ht : S t = some (.inst 621 [("mapping", .ref md)])) {kvs : List (Int × Value)} (hm : S md = some (.dict kvs)) (hj : is[j]? = some p)
    (q0 : dk kvs p.2.g = none → Q (.int (-1) 0) H) (q1 : ∀ v, dk kvs p.2.g = some v → ∃ i, v = .int i 0 ∧ Q (.int (j + 1) 0) (upd H p.1 (.inst 142 (ifs { p.2 with g := i })))) : TC w (k + 1) (.ref 658) [.ref sc, .ref t, .int j 0] Q H := by
  obtain ⟨t1, t2, t3, t4⟩ := T
  obtain ⟨g1, g2⟩ := row_get R hj
  have rl := R.rl
  have hlen : j < is.length := (List.getElem?_eq_some_iff.mp hj).1
  have h100 := R.len
  have g1' : (is.map fun p : Addr × Inf => Value.ref p.1)[(j : Int).toNat]? = some (.ref p.1) := g1
  unfold scn at hsc
  unfold ifs at g2
  with_reducible refine' TC.drop (fn_658 ?_); intro L hL
  walk_at "lyb"
  walk_at "ly"
  cases hd : dk kvs p.2.g with
  | none =>
    show if true = true then _ else _
    walk_at "ly"
    with_reducible refine' x_ret (P := DQ Q) ?_ ?r
    case r => exact fun _ _ _ h => h
    walk_at "ly"
    exact dq0 (q0 hd)
  | some v =>
    obtain ⟨i, rfl, q⟩ := q1 v hd
    show if false = true then _ else _
    walk_at "ly"
    with_reducible refine' ex_nil ?_
    walk_at "ly"
    with_reducible refine' x_ret (P := DQ Q) ?_ ?r
    case r => exact fun _ _ _ h => h
    walk_at "ly"
    refine dq0 ?_
    with_reducible refine' inst_congr ?e q
    case e => kernel_rfl
noncomputable def Fgn (G : GA) (is : List (Addr × Inf)) (a : Addr) : Prop := a ≠ G.rl ∧ ∀ p ∈ is, a ≠ p.1
structure Step (S : AH) (G : GA) (is : List (Addr × Inf)) (H : AH) (is' : List (Addr × Inf)) (H' : AH) : Prop where
  row : Row S H' G is'
  keep : ∀ a o, Fgn G is a → H a = some o → H' a = some o ∧ Fgn G is' a
theorem Step.refl (R : Row S H G is) : Step S G is H is H := ⟨R, fun a o f e => ⟨e, f⟩⟩
theorem Step.trans {is' is'' : List (Addr × Inf)} {H' H'' : AH} (x : Step S G is H is' H') (y : Step S G is' H' is'' H'') : Step S G is H is'' H'' := ⟨y.row, fun a o f e => let ⟨e1, f1⟩ := x.keep a o f e; y.keep a o f1 e1⟩
theorem Row.fgn (R : Row S H G is) {a : Addr} {o : O} (e : S a = some o) : Fgn G is a := ⟨fun z => (by rw [z, R.nr] at e; cases e), fun p hp z => (by rw [z, R.ns p hp] at e; cases e)⟩
theorem Step.sub {is' : List (Addr × Inf)} {H' : AH} (x : Step S G is H is' H') (R : Row S H G is) (h : Sub S H) : Sub S H' := fun a o e => (x.keep a o (R.fgn e) (h a o e)).1
theorem fgn_inst (R : Row S H G is) {a C : Addr} {fs : List (Str × Value)} (e : H a = some (.inst C fs)) (hC : C ≠ 142) : Fgn G is a := ⟨fun z => (by rw [z, R.rl] at e; cases e), fun p hp z => (by rw [z, R.at_ p hp] at e; injection e with e; injection e with e _; exact hC e.symm)⟩
theorem row_set (R : Row S H G is) (hj : is[j]? = some p) (i : Inf) : Step S G is H (is.set j (p.1, i)) (upd H p.1 (.inst 142 (ifs i))) := by
  have hm := List.mem_of_getElem? hj
  have hp := R.at_ p hm
  have hlt := (List.getElem?_eq_some_iff.mp hj).1
  have nrl : G.rl ≠ p.1 := fun z => by have := R.rl; rw [z, hp] at this; cases this
  have same : (is.set j (p.1, i)).map (fun p => p.1) = is.map (fun p => p.1) := by
    rw [List.map_set]
    apply List.ext_getElem?
    intro n
    rw [List.getElem?_set]
    split
    · rename_i e; subst e
      split
      · rw [List.getElem?_map, hj]; rfl
      · rename_i h; exact absurd (by simpa using hlt) h
    · rfl
  have addr : ∀ q ∈ is.set j (p.1, i), ∃ q' ∈ is, q'.1 = q.1 := fun q hq => by
    have : q.1 ∈ (is.set j (p.1, i)).map (fun p => p.1) := List.mem_map.mpr ⟨q, hq, rfl⟩
    rw [same] at this
    obtain ⟨q', h1, h2⟩ := List.mem_map.mp this
    exact ⟨q', h1, h2⟩
  refine ⟨⟨?_, fun q hq => ?_, ?_, R.nr, fun q hq => ?_, by rw [List.length_set]; exact R.len⟩, fun a o f e => ⟨?_, f.1, fun q hq => ?_⟩⟩
  · rw [upd_ne _ _ nrl, R.rl]
    have : (is.set j (p.1, i)).map (fun p => Value.ref p.1) = is.map fun p => Value.ref p.1 := by
      have h2 := congrArg (List.map Value.ref) same
      rw [List.map_map, List.map_map] at h2
      exact h2
    rw [this]
  · obtain ⟨n, hn⟩ := List.mem_iff_getElem?.mp hq
    rw [List.getElem?_set] at hn
    split at hn
    · first
        | (split at hn
           · cases hn; exact upd_self _ _ _
           · cases hn)
        | (cases hn; exact upd_self _ _ _)
    · rename_i hne
      have hqi := List.mem_of_getElem? hn
      have : q.1 ≠ p.1 := by
        rcases Nat.lt_or_gt_of_ne hne with h | h
        · obtain ⟨l2, e2⟩ := List.getElem?_eq_some_iff.mp hn
          obtain ⟨l1, e1⟩ := List.getElem?_eq_some_iff.mp hj
          have := List.pairwise_iff_getElem.mp R.ap j n l1 l2 h
          rw [e1, e2] at this
          exact Ne.symm this
        · obtain ⟨l2, e2⟩ := List.getElem?_eq_some_iff.mp hn
          obtain ⟨l1, e1⟩ := List.getElem?_eq_some_iff.mp hj
          have := List.pairwise_iff_getElem.mp R.ap n j l2 l1 h
          rw [e1, e2] at this
          exact this
      rw [upd_ne _ _ this]; exact R.at_ q hqi
  · have h2 : is.Pairwise (fun x y => x.1 ≠ y.1) ↔ (is.map (fun p => p.1)).Pairwise (· ≠ ·) := by rw [List.pairwise_map]
    have h3 : (is.set j (p.1, i)).Pairwise (fun x y => x.1 ≠ y.1) ↔ ((is.set j (p.1, i)).map (fun p => p.1)).Pairwise (· ≠ ·) := by rw [List.pairwise_map]
    rw [h3, same, ← h2]; exact R.ap
  · obtain ⟨q', h1, h2⟩ := addr q hq
    rw [← h2]; exact R.ns q' h1
  · rw [upd_ne _ _ (f.2 p hm)]; exact e
  · obtain ⟨q', h1, h2⟩ := addr q hq
    rw [← h2]; exact f.2 q' h1
end
end P5
section P6
local macro_rules
  | `(tactic| walk_at "ly3") => `(tactic| ((with_reducible refine' it_list ?ha ?h0 ?hx ?hj ?_ ?ps); (case ha => walk_at "lyh"); (case hx => with_reducible assumption); (case h0 => omega); (case hj => omega); (case ps => (intro _ _; exact rfl))))
local macro_rules
  | `(tactic| walk_at "ly3") => `(tactic| (((with_reducible refine' k_call (c_merge ?_) ?hk); (case hk => exact Nat.le_add_left _ _)); intro _))
local macro_rules
  | `(tactic| walk_at "ly3") => `(tactic| (((with_reducible refine' k_call (c_copied ?hx ?_) ?hk); (case hk => exact Nat.le_refl _); (case hx => walk_at "lyh")); intro _ _ _))
local macro_rules
  | `(tactic| walk_at "ly3") => `(tactic| ((with_reducible refine' cr_append ?ha ?hz ?_); (case ha => walk_at "lyh"); (case hz => first | omega | (simp; omega))))
noncomputable def refs (is : List (Addr × Inf)) : List Value := is.map fun p => .ref p.1
structure Fill (H0 : AH) (fa : Addr) (ps : List Inf) (i : Nat) (H : AH) (news : List (Addr × Inf)) : Prop where
  len : news.length = i
  is : news.map (·.2) = ps.take i
  fd : H fa = some (.list (refs news))
  at_ : ∀ q ∈ news, H q.1 = some (.inst 142 (ifs q.2))
  new : ∀ q ∈ news, H0 q.1 = none
  ap : news.Pairwise fun x y => x.1 ≠ y.1
  old : Sub H0 H
theorem sub_cong {A B : AH} {x : Addr} {o : O} (h : Sub A B) : Sub (upd A x o) (upd B x o) := fun a o' e => by
  by_cases z : a = x
  · subst z; rw [upd_self] at e ⊢; exact e
  · rw [upd_ne _ _ z] at e ⊢; exact h a o' e
theorem Fill.snoc {H0 H : AH} {fa a : Addr} {ps : List Inf} {i : Nat} {news : List (Addr × Inf)} {inf : Inf} {o : O} {fs : List (Str × Value)} (F : Fill H0 fa ps i H news) (hp : ps[i]? = some inf) (ha : H a = none) (e : fs = ifs inf) (hfa : H0 fa = none) :
    Fill H0 fa ps (i + 1) (upd (upd (upd H a o) a (.inst 142 fs)) fa (.list (refs news ++ [.ref a]))) (news ++ [(a, inf)]) := by
  have afa : a ≠ fa := fun z => by rw [z, F.fd] at ha; cases ha
  have nn : ∀ q ∈ news, q.1 ≠ a ∧ q.1 ≠ fa := fun q hq => ⟨fun z => (by have := F.at_ q hq; rw [z, ha] at this; cases this), fun z => (by have := F.at_ q hq; rw [z, F.fd] at this; cases this)⟩
  rw [upd_twice]
  refine ⟨by rw [List.length_append, F.len]; rfl, ?_, ?_, fun q hq => ?_, fun q hq => ?_, ?_, fun c o' ec => ?_⟩
  · rw [List.map_append, F.is, List.take_add_one, hp]; rfl
  · rw [upd_self]; unfold refs; rw [List.map_append]; rfl
  · rcases List.mem_append.mp hq with h | h
    · rw [upd_ne _ _ (nn q h).2, upd_ne _ _ (nn q h).1]; exact F.at_ q h
    · rw [List.mem_singleton.mp h, upd_ne _ _ afa, upd_self, e]
  · rcases List.mem_append.mp hq with h | h
    · exact F.new q h
    · rw [List.mem_singleton.mp h]
      cases z : H0 a with
      | none => rfl
      | some o' => rw [F.old a o' z] at ha; cases ha
  · rw [List.pairwise_append]
    refine ⟨F.ap, List.pairwise_singleton _ _, fun x hx y hy => ?_⟩
    rw [List.mem_singleton.mp hy]; exact (nn x hx).1
  · have h1 := F.old c o' ec
    have c1 : c ≠ fa := fun z => by rw [z, hfa] at ec; cases ec
    have c2 : c ≠ a := fun z => by rw [z, ha] at h1; cases h1
    rw [upd_ne _ _ c1, upd_ne _ _ c2]; exact h1
section
variable {w : World} {k : Nat} {S H : AH} {G : GA} {is : List (Addr × Inf)} {sc lo tb t md pt : Addr} {kind : Str} {flag mask depth : Int} {ms : Value} {j : Nat} {p : Addr × Inf} {Q : Value → AH → Prop} {gs : List Int}
theorem c_put (hS : Sub S H) (T : Still S G) (R : Row S H G is) (hj : is[j]? = some p) (hp : H pt = some (.tup (intl gs))) (h0 : gs ≠ []) (hl : gs.length < 50) (hl2 : is.length + gs.length < 90)
    (q : ∀ news H', news.map (·.2) = gs.map (fun g => ({ p.2 with g := g } : Inf)) → (∀ q ∈ news, H q.1 = none) → (∀ q ∈ news, H' q.1 = some (.inst 142 (ifs q.2))) → news.Pairwise (fun x y => x.1 ≠ y.1) → H' G.rl = some (.list (refs (is.take j ++ news ++ is.drop (j + 1)))) → (∀ a o, a ≠ G.rl → H a = some o → H' a = some o) → Q .none H') :
    TC w (k + 4) (.ref 226) [.ref G.bf, .int j 0, .int 1 0, .ref pt] Q H := by
  obtain ⟨t1, t2, t3, t4⟩ := T
  obtain ⟨g1, g2⟩ := row_get R hj
  have rl := R.rl
  have hlen : j < is.length := (List.getElem?_eq_some_iff.mp hj).1
  have h100 := R.len
  have g1' : (is.map fun p : Addr × Inf => Value.ref p.1)[(j : Int).toNat]? = some (.ref p.1) := g1
  with_reducible refine' TC.drop (fn_226 ?_); intro L hL
  walk_at "lyb"
  walk_at "ly"
  rename_i fa hfa hfL
  with_reducible refine' e1_for ?_ ?hs
  case hs => intro _; exact rfl
  walk_at "ly"
  refine ⟨.tup pt, gs.length, fun i H' m => ∃ news, Fill H fa (gs.map fun g => ({ p.2 with g := g } : Inf)) i H' news ∧ lkr m "buffer" = some (.ref G.bf) ∧ lkr m "at" = some (.int j 0) ∧ lkr m "count" = some (.int 1 0) ∧ lkr m "first" = some (.ref p.1) ∧ lkr m "found" = some (.ref fa), .tup (by walk_at "lyh"), .inl fun _ _ => rfl, ⟨[], ⟨rfl, rfl, upd_self _ _ _, fun q hq => (nomatch hq), fun q hq => (nomatch hq), .nil, sub_new Sub.rfl' hfa⟩, rfl, rfl, rfl, rfl, rfl⟩, ?_⟩
  rintro i H' m ⟨news, F, l1, l2, l3, l4, l5⟩
  have F1 := F.fd
  have Fp := F.old _ _ hp
  have Fg := F.old _ _ g2
  have hS' : Sub S H' := fun a o e => F.old _ _ (hS a o e)
  have Frl := F.old _ _ rl
  have hrf : G.rl ≠ fa := ne_new rl hfa
  clear rl g2
  refine ⟨(intl gs)[i]?, .tup Fp rfl, fun e => ?_, fun x e => ?_⟩
  · have e2 : gs.length ≤ i := by
      unfold intl at e
      rw [List.getElem?_map] at e
      have := Option.map_eq_none_iff.mp e
      exact List.getElem?_eq_none_iff.mp this
    have hi : i = gs.length := by
      have h1 := F.len
      have h2 := congrArg List.length F.is
      simp at h2
      omega
    subst hi
    walk_at "ly"
    with_reducible refine' cm_eq_nil ?ha ?hc ?_
    case ha => walk_at "lyh"
    case hc => walk_at "lyh"
    have hne : (refs news).isEmpty = false := by
      have h1 := F.len
      cases news with
      | nil => simp at h1; exact absurd h1.symm (by simpa using h0)
      | cons _ _ => rfl
    rw [hne]
    walk_at "ly"
    have hn1 := F.len
    rename_i c1 c2 c3 sl l' u' el eu s1 s2
    with_reducible refine' si_slice ?ha ?hs ?hc ?hac ?pl ?pu ?hz ?_
    case ha => walk_at "lyh"
    case hs => walk_at "lyh"
    case hc => walk_at "lyh"
    case hac => walk_at "lyne"
    case pl => rw [el]; exact PT.int _
    case pu => rw [eu]; exact PT.int _
    case hz => unfold refs; simp; omega
    walk_at "ly"
    with_reducible refine' ex_nil ?_
    walk_at "ly"
    with_reducible refine' ex_nil ?_
    have ej : cutLo (is.map fun p : Addr × Inf => Value.ref p.1) (some (j : Int)) = j := by
      unfold cutLo; simp only [Option.elim, clipAt_nat, List.length_map]; omega
    have ej2 : cutHi (is.map fun p : Addr × Inf => Value.ref p.1) (some ((j : Int) + 1)) = j + 1 := by
      have : ((j : Int) + 1) = ((j + 1 : Nat) : Int) := by omega
      rw [this]
      unfold cutHi; simp only [Option.elim, clipAt_nat, List.length_map]; omega
    rw [ej, ej2]
    have er : (is.map fun p : Addr × Inf => Value.ref p.1).take j ++ refs news ++ (is.map fun p : Addr × Inf => Value.ref p.1).drop (max j (j + 1)) = refs (is.take j ++ news ++ is.drop (j + 1)) := by
      unfold refs
      rw [Nat.max_eq_right (Nat.le_succ j), List.map_append, List.map_append, List.map_take, List.map_drop]
    rw [er]
    refine ⟨upd H' G.rl (.list (refs (is.take j ++ news ++ is.drop (j + 1)))), sub_cong (sub_new (sub_new Sub.rfl' c2) s1), q news _ ?_ F.new (fun q hq => ?_) F.ap (upd_self _ _ _) fun a o n e => ?_⟩
    · have := F.is
      rw [List.take_of_length_le (by simp)] at this
      exact this
    · rw [upd_ne]
      · exact F.at_ q hq
      · intro z
        have := F.new q hq
        rw [z] at this
        exact absurd (R.rl.symm.trans this) (by nofun)
    · rw [upd_ne _ _ n]; exact F.old a o e
  · have e3 : ∃ g, gs[i]? = some g ∧ x = .int g 0 := by
      unfold intl at e
      rw [List.getElem?_map] at e
      obtain ⟨g, h1, h2⟩ := Option.map_eq_some_iff.mp e
      exact ⟨g, h1, h2.symm⟩
    obtain ⟨g, hg, rfl⟩ := e3
    refine ⟨(List.getElem?_eq_some_iff.mp hg).1, ?_⟩
    have hfl := F.len
    have hgl := (List.getElem?_eq_some_iff.mp hg).1
    have hrl : (refs news).length ≤ 1000 := by unfold refs; simp; omega
    walk_at "ly"
    with_reducible refine' ex_nil ?_
    with_reducible refine' lq_next ?_
    refine ⟨news ++ [(_, { p.2 with g := g })], F.snoc ?_ (by assumption) ?_ hfa, by walk_at "lyl", by walk_at "lyl", by walk_at "lyl", by walk_at "lyl", by walk_at "lyl"⟩
    · rw [List.getElem?_map, hg]; rfl
    · kernel_rfl
end
end P6
section P7
local macro_rules
  | `(tactic| walk_at "ly3") => `(tactic| ((with_reducible refine' it_list ?ha ?h0 ?hx ?hj ?_ ?ps); (case ha => walk_at "lyh"); (case hx => with_reducible assumption); (case h0 => omega); (case hj => omega); (case ps => (intro _ _; exact rfl))))
local macro_rules
  | `(tactic| walk_at "ly3") => `(tactic| ((with_reducible refine' it_tup ?ha ?h0 ?hx ?hj ?_ ?ps); (case ha => walk_at "lyh"); (case hx => with_reducible assumption); (case h0 => omega); (case hj => omega); (case ps => (intro _ _; exact rfl))))
noncomputable def gm (p : Addr × Inf) : Int × Int := (p.2.g, p.2.m)
theorem put_step {S H H' : AH} {G : GA} {is news : List (Addr × Inf)} {j : Nat} (hS : Sub S H) (R : Row S H G is) (h1 : ∀ q ∈ news, H q.1 = none) (h2 : ∀ q ∈ news, H' q.1 = some (.inst 142 (ifs q.2))) (h3 : news.Pairwise fun x y => x.1 ≠ y.1) (h4 : H' G.rl = some (.list (refs (is.take j ++ news ++ is.drop (j + 1)))))
    (h5 : ∀ a o, a ≠ G.rl → H a = some o → H' a = some o) (hl : is.length + news.length < 100) : Step S G is H (is.take j ++ news ++ is.drop (j + 1)) H' := by
  have nrl : ∀ q ∈ is, q.1 ≠ G.rl := fun q hq z => by
    have := R.at_ q hq
    rw [z, R.rl] at this; cases this
  have nn : ∀ q ∈ is, ∀ n ∈ news, q.1 ≠ n.1 := fun q hq n hn z => by
    have := R.at_ q hq
    rw [z, h1 n hn] at this; cases this
  refine ⟨⟨h4, fun q hq => ?_, ?_, R.nr, fun q hq => ?_, ?_⟩, fun a o f e => ⟨h5 a o f.1 e, f.1, fun q hq => ?_⟩⟩
  · rcases List.mem_append.mp hq with hq | hq
    · rcases List.mem_append.mp hq with hq | hq
      · have hm := List.mem_of_mem_take hq
        exact h5 _ _ (nrl q hm) (R.at_ q hm)
      · exact h2 q hq
    · have hm := List.mem_of_mem_drop hq
      exact h5 _ _ (nrl q hm) (R.at_ q hm)
  · rw [List.pairwise_append, List.pairwise_append]
    refine ⟨⟨R.ap.sublist (List.take_sublist _ _), h3, fun x hx y hy => nn x (List.mem_of_mem_take hx) y hy⟩, R.ap.sublist (List.drop_sublist _ _), fun x hx y hy => ?_⟩
    rcases List.mem_append.mp hx with hx | hx
    · obtain ⟨n, hn⟩ := List.mem_iff_getElem?.mp hx
      obtain ⟨o, ho⟩ := List.mem_iff_getElem?.mp hy
      rw [List.getElem?_take] at hn
      rw [List.getElem?_drop] at ho
      split at hn
      · obtain ⟨l1, e1⟩ := List.getElem?_eq_some_iff.mp hn
        obtain ⟨l2, e2⟩ := List.getElem?_eq_some_iff.mp ho
        have := List.pairwise_iff_getElem.mp R.ap n (j + 1 + o) l1 l2 (by omega)
        rw [e1, e2] at this
        exact this
      · cases hn
    · exact Ne.symm (nn y (List.mem_of_mem_drop hy) x hx)
  · rcases List.mem_append.mp hq with hq | hq
    · rcases List.mem_append.mp hq with hq | hq
      · exact R.ns q (List.mem_of_mem_take hq)
      · cases z : S q.1 with
        | none => rfl
        | some o => have := hS _ _ z; rw [h1 q hq] at this; cases this
    · exact R.ns q (List.mem_of_mem_drop hq)
  · simp only [List.length_append, List.length_take, List.length_drop]; omega
  · rcases List.mem_append.mp hq with hq | hq
    · rcases List.mem_append.mp hq with hq | hq
      · exact f.2 q (List.mem_of_mem_take hq)
      · intro z; rw [z, h1 q hq] at e; cases e
    · exact f.2 q (List.mem_of_mem_drop hq)
theorem gm_set {is : List (Addr × Inf)} {j : Nat} {p : Addr × Inf} {x : Int} (hj : is[j]? = some p) : (is.set j (p.1, { p.2 with p := x })).map gm = is.map gm := by
  rw [List.map_set]
  apply List.ext_getElem?
  intro n
  rw [List.getElem?_set]
  split
  · rename_i e; subst e
    have := (List.getElem?_eq_some_iff.mp hj).1
    rw [if_pos (by simpa using this), List.getElem?_map, hj]; rfl
  · rfl
theorem step_new {S H H' : AH} {G : GA} {is is' : List (Addr × Inf)} {c : Addr} {o : O} (x : Step S G is H is' H') (hc : H' c = none) : Step S G is H is' (upd H' c o) :=
  ⟨⟨h_fresh hc x.row.rl, fun p hp => h_fresh hc (x.row.at_ p hp), x.row.ap, x.row.nr, x.row.ns, x.row.len⟩, fun a o' f e => ⟨h_fresh hc (x.keep a o' f e).1, (x.keep a o' f e).2⟩⟩
section
variable {w : World} {k : Nat} {S H : AH} {G : GA} {is : List (Addr × Inf)} {sc lo tb t md pt : Addr} {kind : Str} {flag mask depth : Int} {ms : Value} {j : Nat} {p : Addr × Inf} {Q : Value → AH → Prop} {gs : List Int}
theorem c_multiple (hS : Sub S H) (T : Still S G) (R : Row S H G is) (hsc : H sc = some (scn G lo mask depth)) (ht : S t = some (.inst 647 [("mapping", .ref md)])) {kvs : List (Int × Value)} (hm : S md = some (.dict kvs)) (hj : is[j]? = some p)
    (hv : ∀ v, dk kvs p.2.g = some v → ∃ pt gs, v = .ref pt ∧ S pt = some (.tup (intl gs)) ∧ 1 ≤ gs.length ∧ gs.length ≤ 3) (hl : is.length + 3 < 90)
    (q0 : dk kvs p.2.g = none → Q (.int (-1) 0) H)
    (q1 : ∀ pt gs is' H', dk kvs p.2.g = some (.ref pt) → S pt = some (.tup (intl gs)) → Step S G is H is' H' → is'.map gm = (is.map gm).take j ++ gs.map (fun g => (g, p.2.m)) ++ (is.map gm).drop (j + 1) → Q (.int (j + gs.length) 0) H') : TC w (k + 5) (.ref 665) [.ref sc, .ref t, .int j 0] Q H := by
  have T0 := T
  have hsc0 := hsc
  obtain ⟨t1, t2, t3, t4⟩ := T
  obtain ⟨g1, g2⟩ := row_get R hj
  have rl := R.rl
  have hlen : j < is.length := (List.getElem?_eq_some_iff.mp hj).1
  have h100 := R.len
  have g1' : (is.map fun p : Addr × Inf => Value.ref p.1)[(j : Int).toNat]? = some (.ref p.1) := g1
  unfold scn at hsc
  unfold ifs at g2
  with_reducible refine' TC.drop (fn_665 ?_); intro L hL
  walk_at "lyb"
  walk_at "ly"
  cases hd : dk kvs p.2.g with
  | none =>
    show if true = true then _ else _
    walk_at "ly"
    with_reducible refine' x_ret (P := DQ Q) ?_ ?r
    case r => exact fun _ _ _ h => h
    walk_at "ly"
    exact dq0 (q0 hd)
  | some v =>
    obtain ⟨pt, gs, rfl, hpt, hg1, hg3⟩ := hv v hd
    show if false = true then _ else _
    walk_at "ly"
    with_reducible refine' ex_nil ?_
    walk_at "ly"
    rw [intl_len]
    walk_at "ly"
    cases hb : ((gs.length : Int) == 1) with
    | true =>
      have e1 : gs.length = 1 := by have := beq_iff_eq.mp hb; omega
      obtain ⟨g0, rfl⟩ := List.length_eq_one_iff.mp e1
      have hz : (intl [g0])[(0 : Int).toNat]? = some (.int g0 0) := rfl
      walk_at "ly"
      with_reducible refine' x_ret (P := DQ Q) ?_ ?r
      case r => exact fun _ _ _ h => h
      walk_at "ly"
      refine dq0 ?_
      with_reducible refine' inst_congr ?e (q1 pt [g0] _ _ hd hpt (row_set R hj { p.2 with g := g0 }) ?_)
      case e => kernel_rfl
      rw [List.map_set, List.set_eq_take_append_cons_drop, if_pos (by simpa using hlen)]
      simp [gm]
    | false =>
      have e1 : gs.length ≠ 1 := by intro z; rw [z] at hb; simp at hb
      have hne : gs ≠ [] := by intro z; rw [z] at hg1; simp at hg1
      walk_at "ly"
      with_reducible refine' ex_nil ?_
      walk_at "ly"
      have hpt' := hS _ _ hpt
      with_reducible refine' k_call (c_put hS T0 R hj hpt' hne ?hl ?hl2 ?_) ?hk
      case hk => exact Nat.le_refl _
      case hl => omega
      case hl2 => omega
      intro news H' n1 n2 n3 n4 n5 n6 _
      have hnl : news.length = gs.length := by have := congrArg List.length n1; simpa using this
      have St := put_step hS R n2 n3 n4 n5 n6 (by omega)
      have hS' := St.sub R hS
      walk_at "ly"
      show if true = true then _ else _
      walk_at "ly"
      with_reducible refine' e1_for ?_ ?hs
      case hs => intro _; exact rfl
      walk_at "ly"
      rw [intl_len]
      walk_at "ly"
      with_reducible refine' cr_range1 ?_
      intro c t' u' v' hc hcn
      have hgm : (is.take j ++ news ++ is.drop (j + 1)).map gm = (is.map gm).take j ++ gs.map (fun g => (g, p.2.m)) ++ (is.map gm).drop (j + 1) := by
        rw [List.map_append, List.map_append, List.map_take, List.map_drop]
        have : news.map gm = gs.map fun g => (g, p.2.m) := by
          have h := congrArg (List.map fun i : Inf => (i.g, i.m)) n1
          rw [List.map_map, List.map_map] at h
          exact h
        rw [this]
      have fsc := fgn_inst R hsc0 (by decide)
      refine ⟨.rng 0 gs.length, gs.length, fun i H'' m => i ≤ gs.length ∧ ∃ is'', Step S G is H is'' H'' ∧ is''.map gm = (is.map gm).take j ++ gs.map (fun g => (g, p.2.m)) ++ (is.map gm).drop (j + 1) ∧ lkr m "scene" = some (.ref sc) ∧ lkr m "at" = some (.int j 0) ∧ lkr m "pieces" = some (.ref pt), .rng (upd_self _ _ _) (by omega) (by omega) (by omega) (by omega) (by omega), .inl fun _ _ => rfl, ⟨Nat.zero_le _, _, step_new St hc, hgm, rfl, rfl, rfl⟩, ?_⟩
      rintro i H'' m ⟨hi, is'', St'', eg, l1, l2, l3⟩
      have hS'' := St''.sub R hS
      have hsc'' := (St''.keep sc _ fsc hsc).1
      have hlen'' : is''.length = is.length - 1 + gs.length := by
        have := congrArg List.length eg
        simp at this
        omega
      by_cases hlt : i < gs.length
      · refine ⟨some (.int (0 + i) 0), .rng hlt, (fun e => by cases e), fun x ex => ⟨hlt, ?_⟩⟩
        cases ex
        have hjl : j + i < is''.length := by omega
        have hq : is''[j + i]? = some is''[j + i] := List.getElem?_eq_getElem hjl
        generalize is''[j + i] = qq at hq
        obtain ⟨r1, r2⟩ := row_get St''.row hq
        have rl'' := St''.row.rl
        have r1' : (is''.map fun p : Addr × Inf => Value.ref p.1)[((j : Int) + (0 + (i : Int))).toNat]? = some (.ref qq.1) := by
          have : ((j : Int) + (0 + (i : Int))).toNat = j + i := by omega
          rw [this]; exact r1
        clear rl g2 g1 g1' n5
        unfold ifs at r2
        walk_at "ly"
        with_reducible refine' ex_nil ?_
        with_reducible refine' lq_next ?_
        refine ⟨hlt, is''.set (j + i) (qq.1, { qq.2 with p := 0 + i }), ?_, by rw [gm_set hq]; exact eg, by walk_at "lyl", by walk_at "lyl", by walk_at "lyl"⟩
        have := St''.trans (row_set St''.row hq { qq.2 with p := 0 + i })
        have e9 : putF "lig_part" (.int (0 + i) 0) (ifs qq.2) = ifs { qq.2 with p := 0 + i } := by kernel_rfl
        rw [← e9] at this
        exact this
      · have hie : i = gs.length := by omega
        refine ⟨none, .rngEnd hie, fun _ => ?_, fun x ex => by cases ex⟩
        clear rl g2 n5
        walk_at "ly"
        with_reducible refine' ex_nil ?_
        walk_at "ly"
        with_reducible refine' x_ret (P := DQ Q) ?_ ?r
        case r => exact fun _ _ _ h => h
        walk_at "ly"
        rw [intl_len]
        walk_at "ly"
        exact dq0 (q1 pt gs is'' H'' hd hpt St'' eg)
end
end P7
section P8
local macro_rules
  | `(tactic| walk_at "ly3") => `(tactic| ((with_reducible refine' it_list ?ha ?h0 ?hx ?hj ?_ ?ps); (case ha => walk_at "lyh"); (case hx => with_reducible assumption); (case h0 => omega); (case hj => omega); (case ps => (intro _ _; exact rfl))))
section
variable {w : World} {k : Nat} {S H : AH} {G : GA} {is : List (Addr × Inf)} {sc lo tb t md pt : Addr} {kind : Str} {flag mask depth : Int} {ms : Value} {j : Nat} {p : Addr × Inf} {Q : Value → AH → Prop} {gs : List Int}
theorem c_reverse (hS : Sub S H) (T : Still S G) (R : Row S H G is) (hsc : H sc = some (scn G lo mask depth)) (hd : 0 < depth) {tv : Value} (hj : is[j]? = some p) (q : Q (.int (-1) 0) H) : TC w (k + 1) (.ref 599) [.ref sc, tv, .int j 0] Q H := by
  obtain ⟨t1, t2, t3, t4⟩ := T
  obtain ⟨g1, g2⟩ := row_get R hj
  have rl := R.rl
  have hlen : j < is.length := (List.getElem?_eq_some_iff.mp hj).1
  have h100 := R.len
  have g1' : (is.map fun p : Addr × Inf => Value.ref p.1)[(j : Int).toNat]? = some (.ref p.1) := g1
  unfold scn at hsc
  with_reducible refine' TC.drop (fn_599 ?_); intro L hL
  walk_at "lyb"
  walk_at "ly"
  rw [decide_eq_true hd]
  walk_at "ly"
  with_reducible refine' x_ret (P := DQ Q) ?_ ?r
  case r => exact fun _ _ _ h => h
  walk_at "ly"
  exact dq0 q
theorem c_table_single {hsv tv atv : Value} (h : TC w (k + 1) (.ref 658) [hsv, tv, atv] Q H) : TC w (k + 2) (.ref 686) [hsv, .str "single" 0, tv, atv] Q H := by
  with_reducible refine' fn_686 ?_; intro L hL
  walk_at "lyb"
  walk_at "ly"
  show if true = true then _ else _
  walk_at "ly"
  with_reducible refine' x_ret (P := Q) ?_ ?r
  case r => exact fun _ _ _ h => h
  walk_at "ly"
  with_reducible refine' k_call ?t ?hk
  case hk => exact Nat.le_refl _
  exact TC.mono h fun v H' q _ => q
theorem c_table_multiple {hsv tv atv : Value} (h : TC w (k + 5) (.ref 665) [hsv, tv, atv] Q H) : TC w (k + 6) (.ref 686) [hsv, .str "multiple" 0, tv, atv] Q H := by
  with_reducible refine' fn_686 ?_; intro L hL
  walk_at "lyb"
  walk_at "ly"
  show if false = true then _ else _
  walk_at "ly"
  with_reducible refine' ex_nil ?_
  walk_at "ly"
  show if true = true then _ else _
  walk_at "ly"
  with_reducible refine' x_ret (P := Q) ?_ ?r
  case r => exact fun _ _ _ h => h
  walk_at "ly"
  with_reducible refine' k_call ?t ?hk
  case hk => exact Nat.le_refl _
  exact TC.mono h fun v H' q _ => q
theorem c_table_reverse {hsv tv atv : Value} (h : TC w (k + 1) (.ref 599) [hsv, tv, atv] Q H) : TC w (k + 2) (.ref 686) [hsv, .str "reverse" 0, tv, atv] Q H := by
  with_reducible refine' fn_686 ?_; intro L hL
  walk_at "lyb"
  walk_at "ly"
  show if false = true then _ else _
  walk_at "ly"
  with_reducible refine' ex_nil ?_
  walk_at "ly"
  show if false = true then _ else _
  walk_at "ly"
  with_reducible refine' ex_nil ?_
  walk_at "ly"
  show if false = true then _ else _
  walk_at "ly"
  with_reducible refine' ex_nil ?_
  walk_at "ly"
  show if false = true then _ else _
  walk_at "ly"
  with_reducible refine' ex_nil ?_
  walk_at "ly"
  show if true = true then _ else _
  walk_at "ly"
  with_reducible refine' x_ret (P := Q) ?_ ?r
  case r => exact fun _ _ _ h => h
  walk_at "ly"
  with_reducible refine' k_call ?t ?hk
  case hk => exact Nat.le_refl _
  exact TC.mono h fun v H' q _ => q
theorem c_table_chain {hsv tv atv : Value} (h : TC w (k + 1) (.ref 566) [hsv, tv, atv, .ref 693] Q H) : TC w (k + 2) (.ref 686) [hsv, .str "chain" 0, tv, atv] Q H := by
  with_reducible refine' fn_686 ?_; intro L hL
  walk_at "lyb"
  walk_at "ly"
  show if false = true then _ else _
  walk_at "ly"
  with_reducible refine' ex_nil ?_
  walk_at "ly"
  show if false = true then _ else _
  walk_at "ly"
  with_reducible refine' ex_nil ?_
  walk_at "ly"
  show if false = true then _ else _
  walk_at "ly"
  with_reducible refine' ex_nil ?_
  walk_at "ly"
  show if false = true then _ else _
  walk_at "ly"
  with_reducible refine' ex_nil ?_
  walk_at "ly"
  show if false = true then _ else _
  walk_at "ly"
  with_reducible refine' ex_nil ?_
  walk_at "ly"
  with_reducible refine' x_ret (P := Q) ?_ ?r
  case r => exact fun _ _ _ h => h
  walk_at "ly"
  with_reducible refine' k_call ?t ?hk
  case hk => exact Nat.le_refl _
  exact TC.mono h fun v H' q _ => q
theorem c_subst (hS : Sub S H) (hsc : H sc = some (scn G lo mask depth)) (hlo : S lo = some (lkp kind flag ms tb)) (htb : S tb = some (.list [.ref t]))
    (h : TC w (k + 1) (.ref 686) [.ref sc, .str kind 0, .ref t, .int j 0] (fun v H' => ∃ r, v = .int r 0 ∧ Sub S H' ∧ ((0 ≤ r ∧ Q (.int r 0) H') ∨ (r < 0 ∧ Q (.int (-1) 0) H'))) H) : TC w (k + 2) (.ref 693) [.ref sc, .int j 0] Q H := by
  unfold scn at hsc
  unfold lkp at hlo
  with_reducible refine' TC.drop (fn_693 ?_); intro L hL
  walk_at "lyb"
  with_reducible refine' e1_for ?_ ?hs
  case hs => intro _; exact rfl
  walk_at "ly"
  refine ⟨.list tb, 1, fun i H' m => lkr m "scene" = some (.ref sc) ∧ lkr m "at" = some (.int j 0) ∧ Sub S H' ∧ ((i = 0 ∧ H' = H) ∨ (i = 1 ∧ Q (.int (-1) 0) H')), .list (by walk_at "lyh"), .inl fun _ _ => rfl, ⟨rfl, rfl, hS, .inl ⟨rfl, rfl⟩⟩, ?_⟩
  rintro i H' m ⟨l1, l2, hS', hi⟩
  have htb' := hS' _ _ htb
  rcases hi with ⟨rfl, rfl⟩ | ⟨rfl, hq⟩
  · refine ⟨some (.ref t), .list htb' rfl, (fun e => by cases e), fun x ex => ⟨by omega, ?_⟩⟩
    cases ex
    walk_at "ly"
    with_reducible refine' k_call (TC.mono h ?_) ?hk
    case hk => exact Nat.le_refl _
    rintro v H2 ⟨r, rfl, hS2, alt⟩ _
    walk_at "ly"
    rcases alt with ⟨hr, q⟩ | ⟨hr, q⟩
    · rw [decide_eq_true hr]
      walk_at "ly"
      with_reducible refine' x_ret (P := DQ Q) ?_ ?r
      case r => exact fun _ _ _ h => h
      walk_at "ly"
      exact dq0 q
    · rw [decide_eq_false (by omega)]
      walk_at "ly"
      with_reducible refine' ex_nil ?_
      walk_at "ly"
      with_reducible refine' ex_nil ?_
      with_reducible refine' lq_next ?_
      exact ⟨by walk_at "lyl", by walk_at "lyl", hS2, .inr ⟨rfl, q⟩⟩
  · refine ⟨none, .list htb' rfl, fun _ => ?_, fun x ex => by cases ex⟩
    walk_at "ly"
    with_reducible refine' x_ret (P := DQ Q) ?_ ?r
    case r => exact fun _ _ _ h => h
    walk_at "ly"
    exact dq0 hq
end
end P8
section P9
local macro_rules
  | `(tactic| walk_at "ly3") => `(tactic| ((with_reducible refine' it_list ?ha ?h0 ?hx ?hj ?_ ?ps); (case ha => walk_at "lyh"); (case hx => with_reducible assumption); (case h0 => omega); (case hj => omega); (case ps => (intro _ _; exact rfl))))
local macro_rules
  | `(tactic| walk_at "ly3") => `(tactic| (((with_reducible refine' k_call (n_scene ?_) ?hk); (case hk => exact Nat.le_refl _)); intro _ _ _))
section
variable {w : World} {k : Nat} {S H : AH} {G : GA} {is : List (Addr × Inf)} {sc lo tb t md pt pl pr : Addr} {kind : Str} {flag mask depth : Int} {ms : Value} {j : Nat} {p : Addr × Inf} {Q : Value → AH → Prop} {gs : List Int} {ls : List Addr}
noncomputable def lrefs (ls : List Addr) : List Value := ls.map fun a => .ref a
theorem c_nested (hS : Sub S H) (hsc : H sc = some (scn G lo mask depth)) (hls : S G.lks = some (.list (lrefs ls))) (hl : ls.length < 100) {n : Int} (q0 : ¬ (0 ≤ n ∧ n < ls.length) → Q .none H) (q1 : ∀ l a, ls[n.toNat]? = some l → 0 ≤ n → H a = none → Q (.ref a) (upd H a (scn G l mask (depth + 1)))) : TC w (k + 3) (.ref 111) [.ref sc, .int n 0] Q H := by
  unfold scn at hsc
  have hll : (lrefs ls).length = ls.length := by unfold lrefs; simp
  with_reducible refine' TC.drop (fn_111 ?_); intro L hL
  walk_at "lyb"
  walk_at "ly"
  refine ifc (fun h1 => ?_) (fun h1 => ?_)
  · have h1' := of_decide_eq_true h1
    walk_at "ly"
    cases hb : decide (n < ((lrefs ls).length : Int)) with
    | false =>
      have h2 := of_decide_eq_false hb
      show if true = true then _ else _
      walk_at "ly"
      with_reducible refine' x_ret (P := DQ Q) ?_ ?r
      case r => exact fun _ _ _ h => h
      walk_at "ly"
      exact dq0 (q0 fun z => h2 (by rw [hll]; exact z.2))
    | true =>
      have h2 := of_decide_eq_true hb
      rw [hll] at h2
      show if false = true then _ else _
      walk_at "ly"
      with_reducible refine' ex_nil ?_
      walk_at "ly"
      have hlt : n.toNat < ls.length := by omega
      have hy : ls[n.toNat]? = some ls[n.toNat] := List.getElem?_eq_getElem hlt
      generalize ls[n.toNat] = l at hy
      have hyy : (lrefs ls)[n.toNat]? = some (.ref l) := by unfold lrefs; rw [List.getElem?_map, hy]; rfl
      with_reducible refine' x_ret (P := DQ Q) ?_ ?r
      case r => exact fun _ _ _ h => h
      walk_at "ly"
      exact dq0 (q1 l _ hy h1' (by assumption))
  · have h1' := of_decide_eq_false h1
    walk_at "ly"
    show if true = true then _ else _
    walk_at "ly"
    with_reducible refine' x_ret (P := DQ Q) ?_ ?r
    case r => exact fun _ _ _ h => h
    walk_at "ly"
    exact dq0 (q0 fun z => h1' z.1)
local macro_rules
  | `(tactic| walk_at "ly3") => `(tactic| (((with_reducible refine' k_call (c_nested ?hS ?hsc ?hls ?hl ?_ ?_) ?hk); (case hk => exact Nat.le_refl _); (case hS => with_reducible assumption); (case hsc => walk_at "lyh"); (case hls | hl => with_reducible assumption))))
theorem c_inner (hS : Sub S H) (hsc : H sc = some (scn G lo mask depth)) (hd : depth < 6) (hls : S G.lks = some (.list (lrefs ls))) (hl : ls.length < 100) {n : Int} (q0 : ¬ (0 ≤ n ∧ n < ls.length) → Q .none H) (q1 : ∀ l a, ls[n.toNat]? = some l → 0 ≤ n → H a = none → Q (.ref a) (upd H a (scn G l mask (depth + 1)))) : TC w (k + 4) (.ref 528) [.ref sc, .int n 0] Q H := by
  have hsc0 := hsc
  unfold scn at hsc
  with_reducible refine' fn_528 ?_; intro L hL
  walk_at "lyb"
  with_reducible refine' x_ret (P := Q) ?_ ?r
  case r => exact fun _ _ _ h => h
  walk_at "ly"
  rw [decide_eq_false (by omega)]
  walk_at "ly"
  · exact fun z _ => q0 z
  · exact fun l a h1 h2 h3 _ => q1 l a h1 h2 h3
end
end P9
section P10
local macro_rules
  | `(tactic| walk_at "ly3") => `(tactic| ((with_reducible refine' it_list ?ha ?h0 ?hx ?hj ?_ ?ps); (case ha => walk_at "lyh"); (case hx => with_reducible assumption); (case h0 => omega); (case hj => omega); (case ps => (intro _ _; exact rfl))))
theorem sub_none {A B : AH} {a : Addr} (h : Sub A B) (hb : B a = none) : A a = none := by
  cases e : A a with
  | none => rfl
  | some o => rw [h _ _ e] at hb; cases hb
theorem ct_nil {w : World} {k : Nat} {cenv : Env} {elt : Expr} {I1 : Value → AH → Lc → Prop} {I0 : AH → Lc → Prop} {H : AH} {m : Lc} (h : EV w k cenv elt I1 H m) : CT w k cenv [] elt I1 I0 H m := h
theorem ct_one {w : World} {k : Nat} {cenv : Env} {c elt : Expr} {I1 : Value → AH → Lc → Prop} {I0 : AH → Lc → Prop} {H : AH} {m : Lc} (h : TR w k cenv c (fun t H m => if t then EV w k cenv elt I1 H m else I0 H m) H m) : CT w k cenv [c] elt I1 I0 H m := h
section
variable {w : World} {k : Nat} {S H : AH} {G : GA} {pl pr : Addr} {at_ e : Int} {tl : List Int} {c : Nat} {Q : Value → AH → Prop}
noncomputable def plc (pr : Addr) (e : Int) : O := .inst 510 [("row", .ref pr), ("end", .int e 0)]
noncomputable def tlg (at_ : Int) (c : Nat) (tl : List Int) : List Int := (List.range c).map (fun i : Nat => at_ + 1 + (i : Int)) ++ tl.map (fun x : Int => x + (c : Int))
theorem c_grow (hp : H pl = some (plc pr e)) (hr : H pr = some (.list (intl (at_ :: tl)))) (hl : tl.length + c < 90) (q : ∀ pr', H pr' = none → Q .none (upd (upd H pr' (.list (intl (at_ :: tlg at_ c tl)))) pl (plc pr' e))) : TC w (k + 1) (.ref 533) [.ref pl, .int 0 0, .int c 0] Q H := by
  have hx : (intl (at_ :: tl))[(0 : Int).toNat]? = some (.int at_ 0) := rfl
  unfold plc at hp
  have hz1 : (intl (at_ :: tl)).length ≤ 1000 := by simp [intl]; omega
  with_reducible refine' TC.drop (fn_533 ?_); intro L hL
  have hL1 : H (L + 1) = none := hL 1
  have hL2 : upd H (L + 1) (.cell (some (.ref pl))) (L + 2) = none := by rw [upd_ne _ _ (Nat.ne_of_gt (Nat.lt_succ_self _))]; exact hL 2
  have hL3 : upd (upd H (L + 1) (.cell (some (.ref pl)))) (L + 2) (.cell (some (.int 0 0))) (L + 3) = none := by rw [upd_ne _ _ (Nat.ne_of_gt (Nat.lt_succ_self _)), upd_ne _ _ (Nat.ne_of_gt (Nat.lt_succ_of_lt (Nat.lt_succ_self _)))]; exact hL 3
  walk_at "lyb"
  with_reducible refine' e1_comp ?hsw ?_ ?hy ?hke ?hclos ?hcell ?hkind ?hnames ?hxx ?hs
  case hsw => exact rfl
  case hy => exact rfl
  case hke => exact rfl
  case hclos => exact rfl
  case hcell => exact rfl
  case hkind => exact rfl
  case hnames => exact rfl
  case hxx => exact rfl
  case hs => intro _; exact rfl
  walk_at "ly"
  with_reducible refine' cr_range1 ?_
  intro rg t1 t2 t3 hrg hrgL
  refine ⟨.rng 0 c, c, fun i ys H' => i ≤ c ∧ ys = intl ((List.range i).map fun i : Nat => at_ + 1 + (i : Int)) ∧ H' = _, .rng (upd_self _ _ _) (by omega) (by omega) (by omega) (by omega) (by omega), ⟨Nat.zero_le _, rfl, rfl⟩, ?_⟩
  rintro C hC hCL i ys H' ⟨hi, rfl, rfl⟩
  refine ⟨by simp [intl]; omega, ?_⟩
  by_cases hlt : i < c
  · refine ⟨some (.int (0 + i) 0), .rng hlt, (fun e => by cases e), fun u eu => ⟨hlt, ?_⟩⟩
    cases eu
    with_reducible refine' ct_nil ?_
    walk_at "ly"
    refine ⟨rfl, hlt, ?_, rfl⟩
    unfold intl
    rw [List.range_succ, List.map_append, List.map_append]
    simp
  · have hie : i = c := by omega
    subst hie
    refine ⟨none, .rngEnd rfl, fun _ => ?_, fun u eu => by cases eu⟩
    intro D hD hDL
    walk_at "ly"
    have ex1 : cut (intl (at_ :: tl)) none (some (0 + 1)) = intl [at_] := cut_upto _ 1
    rw [ex1]
    have hzz : (intl [at_]).length + (intl ((List.range i).map fun i : Nat => at_ + 1 + (i : Int))).length ≤ 1000 := by simp [intl]; omega
    with_reducible refine' op_cat ?ha ?hc ?hz ?_
    case ha => walk_at "lyh"
    case hc => walk_at "lyh"
    case hz => exact hzz
    intro d hd hdL
    walk_at "ly"
    walk_at "lycomp"
    walk_at "ly"
    have ex2 : cut (intl (at_ :: tl)) (some (0 + 1)) none = intl tl := cut_from _ 1
    rw [ex2]
    rename_i sl l' u' el eu s1 s2 c2 hc2 hc2L
    refine ⟨.list c2, tl.length, fun n ys H' => n ≤ tl.length ∧ ys = intl ((tl.take n).map fun x : Int => x + (i : Int)) ∧ H' = _, .list (upd_self _ _ _), ⟨Nat.zero_le _, rfl, rfl⟩, ?_⟩
    rintro C hC hCL n ys H' ⟨hn, rfl, rfl⟩
    refine ⟨by simp [intl]; omega, ?_⟩
    refine ⟨(intl tl)[n]?, .list (upd_self _ _ _) rfl, fun en => ?_, fun x ex => ?_⟩
    · intro D2 hD2 hD2L
      have hn2 : tl.length ≤ n := by
        unfold intl at en
        rw [List.getElem?_map] at en
        exact List.getElem?_eq_none_iff.mp (Option.map_eq_none_iff.mp en)
      rw [List.take_of_length_le hn2]
      with_reducible refine' op_cat ?ha ?hc ?hz ?_
      case ha => walk_at "lyh"
      case hc => walk_at "lyh"
      case hz => simp [intl]; omega
      intro f hf hfL
      walk_at "ly"
      with_reducible refine' ex_nil ?_
      have el2 : intl [at_] ++ intl ((List.range i).map fun i : Nat => at_ + 1 + (i : Int)) ++ intl (tl.map fun x : Int => x + (i : Int)) = intl (at_ :: tlg at_ i tl) := by
        unfold intl tlg; simp
      rw [el2]
      refine ⟨upd (upd H f (.list (intl (at_ :: tlg at_ i tl)))) pl (.inst 510 (putF "row" (.ref f) [("row", .ref pr), ("end", .int e 0)])), sub_cong (sub_cong ?hsub), dq0 ?hq⟩
      case hq =>
        have e9 : putF "row" (.ref f) [("row", .ref pr), ("end", .int e 0)] = ([("row", .ref f), ("end", .int e 0)] : List (Str × Value)) := by kernel_rfl
        rw [e9]
        exact q f (sub_none (by walk_at "lysub") hf)
      case hsub => walk_at "lysub"
    · have e3 : ∃ y, tl[n]? = some y ∧ x = .int y 0 := by
        unfold intl at ex
        rw [List.getElem?_map] at ex
        obtain ⟨g, h1, h2⟩ := Option.map_eq_some_iff.mp ex
        exact ⟨g, h1, h2.symm⟩
      obtain ⟨y, hy, rfl⟩ := e3
      have hlt := (List.getElem?_eq_some_iff.mp hy).1
      refine ⟨hlt, ?_⟩
      with_reducible refine' ct_nil ?_
      walk_at "ly"
      refine ⟨rfl, hlt, ?_, rfl⟩
      rw [List.take_add_one, hy, List.map_append]
      unfold intl
      simp
theorem c_move (hp : H pl = some (plc pr e)) (hr : H pr = some (.list (intl (at_ :: tl)))) (hl : tl.length + c < 90) (hc : 0 < c) (he : at_ ≤ e) (q : ∀ pr', H pr' = none → Q .none (upd (upd H pr' (.list (intl (at_ :: tlg at_ c tl)))) pl (plc pr' (e + c)))) : TC w (k + 2) (.ref 545) [.ref pl, .int 0 0, .int c 0] Q H := by
  have hx : (intl (at_ :: tl))[(0 : Int).toNat]? = some (.int at_ 0) := rfl
  have hp0 := hp
  unfold plc at hp
  have hpr : pr ≠ pl := fun z => by rw [z, hp] at hr; cases hr
  with_reducible refine' TC.drop (fn_545 ?_); intro L hL
  walk_at "lyb"
  walk_at "ly"
  have e9 : putF "end" (.int (e + (c : Int)) 0) [("row", .ref pr), ("end", .int e 0)] = ([("row", .ref pr), ("end", .int (e + (c : Int)) 0)] : List (Str × Value)) := by kernel_rfl
  rw [e9]
  walk_at "ly"
  rw [decide_eq_false (by omega)]
  walk_at "ly"
  with_reducible refine' ex_nil ?_
  walk_at "ly"
  rw [decide_eq_true (by omega)]
  walk_at "ly"
  with_reducible refine' k_call (c_grow (pr := pr) (e := e + (c : Int)) (tl := tl) (at_ := at_) ?hp ?hr hl ?_) ?hk
  case hk => exact Nat.le_refl _
  case hp => exact upd_self _ _ _
  case hr => exact h_old hpr hr
  intro pr' hpn _
  have hne : pl ≠ pr' := fun z => by rw [← z, upd_self] at hpn; cases hpn
  have hn' : H pr' = none := by rw [upd_ne _ _ (Ne.symm hne)] at hpn; exact hpn
  walk_at "ly"
  with_reducible refine' ex_nil ?_
  walk_at "ly"
  with_reducible refine' ex_nil ?_
  rw [upd_comm _ _ _ hne, upd_twice]
  exact dq0 (q pr' hn')
end
end P10
section P11
local macro_rules
  | `(tactic| walk_at "ly3") => `(tactic| ((with_reducible refine' it_tup ?ha ?h0 ?hx ?hj ?_ ?ps); (case ha => walk_at "lyh"); (case hx => exact rfl); (case h0 | hj => decide); (case ps => (intro _ _; exact rfl))))
local macro_rules
  | `(tactic| walk_at "ly3") => `(tactic| (((with_reducible refine' k_call (c_has ?hx ?ht ?hl ?hs ?_) ?hk); (case hk => exact Nat.le_refl _); (case hx | ht => walk_at "lyh"); (case hl | hs => with_reducible assumption)); intro _))
section
variable {w : World} {k : Nat} {S H : AH} {G : GA} {is : List (Addr × Inf)} {sc lo ts cv ct : Addr} {kind : Str} {flag mask depth : Int} {ms : Value} {j : Nat} {p : Addr × Inf} {Q : Value → AH → Prop} {xs : List Int} {g : Int}
theorem c_fits (ht : H ts = some (.tup [.str "cover" 0, .ref cv])) (hc : H cv = some (.inst 384 [("glyphs", .ref ct)])) (hct : H ct = some (.tup (intl xs))) (hl : xs.length < 100) (hs : xs.Pairwise (· < ·)) (q : Q (.bool (decide (g ∈ xs))) H) : TC w (k + 3) (.ref 245) [.ref ts, .int g 0] Q H := by
  with_reducible refine' TC.drop (fn_245 ?_); intro L hL
  walk_at "lyb"
  walk_at "ly"
  show if false = true then _ else _
  walk_at "ly"
  with_reducible refine' ex_nil ?_
  walk_at "ly"
  show if false = true then _ else _
  walk_at "ly"
  with_reducible refine' ex_nil ?_
  walk_at "ly"
  with_reducible refine' x_ret (P := DQ Q) ?_ ?r
  case r => exact fun _ _ _ h => h
  walk_at "ly"
  exact dq0 q
local macro_rules
  | `(tactic| walk_at "ly3") => `(tactic| ((with_reducible refine' it_list ?ha ?h0 ?hx ?hj ?_ ?ps); (case ha => walk_at "lyh"); (case hx => first | with_reducible assumption | exact rfl); (case h0 => omega); (case hj => omega); (case ps => (intro _ _; exact rfl))))
local macro_rules
  | `(tactic| walk_at "ly3") => `(tactic| (((with_reducible refine' k_call (c_fits ?ht ?hc ?hct ?hl ?hs ?_) ?hk); (case hk => exact Nat.le_refl _); (case ht | hc | hct => walk_at "lyh"); (case hl | hs => with_reducible assumption)); intro _))
theorem c_input {tl : Addr} (hS : Sub S H) (T : Still S G) (R : Row S H G is) (hsc : H sc = some (scn G lo mask depth)) (hj : is[j]? = some p) (htl : H tl = some (.list [.ref ts])) (ht : H ts = some (.tup [.str "cover" 0, .ref cv])) (hc : H cv = some (.inst 384 [("glyphs", .ref ct)])) (hct : H ct = some (.tup (intl xs))) (hl : xs.length < 100) (hs : xs.Pairwise (· < ·))
    (q0 : p.2.g ∉ xs → Q .none H) (q1 : p.2.g ∈ xs → ∀ a, H a = none → Q (.ref a) (upd H a (.list [.int j 0]))) : TC w (k + 4) (.ref 266) [.ref sc, .int j 0, .ref tl] Q H := by
  obtain ⟨t1, t2, t3, t4⟩ := T
  obtain ⟨g1, g2⟩ := row_get R hj
  have rl := R.rl
  have hlen : j < is.length := (List.getElem?_eq_some_iff.mp hj).1
  have h100 := R.len
  have g1' : (is.map fun p : Addr × Inf => Value.ref p.1)[(j : Int).toNat]? = some (.ref p.1) := g1
  unfold scn at hsc
  unfold ifs at g2
  with_reducible refine' TC.drop (fn_266 ?_); intro L hL
  walk_at "lyb"
  walk_at "ly"
  by_cases hm : p.2.g ∈ xs
  · rw [decide_eq_true hm]
    show if false = true then _ else _
    walk_at "ly"
    with_reducible refine' ex_nil ?_
    walk_at "ly"
    rename_i fa hfa hfL
    have hrow := rl
    with_reducible refine' e1_for ?_ ?hs
    case hs => intro _; exact rfl
    walk_at "ly"
    have ex1 : cut [Value.ref ts] (some 1) none = [] := cut_from _ 1
    rw [ex1]
    rename_i sl l' u' el eu s1 s2 c2 hc2 hc2L
    refine ⟨.list c2, 1, fun i H' m => i = 0 ∧ H' = _ ∧ lkr m "found" = some (.ref fa), .list (upd_self _ _ _), .inl fun _ _ => rfl, ⟨rfl, rfl, rfl⟩, ?_⟩
    rintro i H' m ⟨rfl, rfl, l1⟩
    refine ⟨none, .list (upd_self _ _ _) rfl, fun _ => ?_, fun x ex => by cases ex⟩
    walk_at "ly"
    with_reducible refine' x_ret (P := DQ Q) ?_ ?r
    case r => exact fun _ _ _ h => h
    walk_at "ly"
    exact dq (by walk_at "lysub") (q1 hm fa hfa)
  · rw [decide_eq_false hm]
    show if true = true then _ else _
    walk_at "ly"
    with_reducible refine' x_ret (P := DQ Q) ?_ ?r
    case r => exact fun _ _ _ h => h
    walk_at "ly"
    exact dq (by walk_at "lysub") (q0 hm)
end
end P11
section P12
section
variable {w : World} {k : Nat} {S H : AH} {Q : Value → AH → Prop} {tl : Addr}
theorem c_last {sc : Value} {j st : Int} (htl : H tl = some (.list [])) (q : Q (.int j 0) H) : TC w (k + 1) (.ref 273) [sc, .int j 0, .int st 0, .ref tl] Q H := by
  with_reducible refine' TC.drop (fn_273 ?_); intro L hL
  walk_at "lyb"
  walk_at "ly"
  with_reducible refine' e1_for ?_ ?hs
  case hs => intro _; exact rfl
  walk_at "ly"
  refine ⟨.list tl, 1, fun i H' m => i = 0 ∧ H' = _ ∧ lkr m "here" = some (.int j 0), .list htl, .inl fun _ _ => rfl, ⟨rfl, rfl, rfl⟩, ?_⟩
  rintro i H' m ⟨rfl, rfl, l1⟩
  refine ⟨none, .list htl rfl, fun _ => ?_, fun x ex => by cases ex⟩
  walk_at "ly"
  with_reducible refine' x_ret (P := DQ Q) ?_ ?r
  case r => exact fun _ _ _ h => h
  walk_at "ly"
  exact dq0 q
local macro_rules
  | `(tactic| walk_at "ly3") => `(tactic| (((with_reducible refine' k_call (c_last ?htl ?_) ?hk); (case hk => exact Nat.le_refl _); (case htl => walk_at "lyh")); intro _))
theorem c_back {sc : Value} {j : Int} (htl : H tl = some (.list [])) (q : Q (.int j 0) H) : TC w (k + 2) (.ref 287) [sc, .int j 0, .ref tl] Q H := by
  with_reducible refine' TC.drop (fn_287 ?_); intro L hL
  walk_at "lyb"
  with_reducible refine' x_ret (P := DQ Q) ?_ ?r
  case r => exact fun _ _ _ h => h
  walk_at "ly"
  exact dq0 q
theorem c_ahead {sc : Value} {j : Int} (htl : H tl = some (.list [])) (q : Q (.int j 0) H) : TC w (k + 2) (.ref 280) [sc, .int j 0, .ref tl] Q H := by
  with_reducible refine' TC.drop (fn_280 ?_); intro L hL
  walk_at "lyb"
  with_reducible refine' x_ret (P := DQ Q) ?_ ?r
  case r => exact fun _ _ _ h => h
  walk_at "ly"
  exact dq0 q
theorem ao_cons {env : Env} {t : Expr} {ts : List Expr} {v : Value} {vs : List Value} {QU : Unit → AH → Lc → Prop} {m : Lc} (h : AS w k env t v (fun _ H m => AO w k env ts vs QU H m) H m) : AO w k env (t :: ts) (v :: vs) QU H m := h
theorem ao_nil {env : Env} {QU : Unit → AH → Lc → Prop} {m : Lc} (h : QU () H m) : AO w k env [] [] QU H m := h
end
local macro_rules
  | `(tactic| walk_at "ly3") => `(tactic| ((with_reducible refine' as_tup ?ha ?_ ?hl ?h1); (case ha => walk_at "lyh"); (case hl => exact rfl); (case h1 => (repeat' (first | exact List.forall_mem_nil _ | refine List.forall_mem_cons.mpr ⟨fun _ => rfl, ?_⟩)))))
local macro_rules
  | `(tactic| walk_at "ly3") => `(tactic| (with_reducible refine' ao_cons ?_))
local macro_rules
  | `(tactic| walk_at "ly3") => `(tactic| (with_reducible refine' ao_nil ?_))
local macro_rules
  | `(tactic| walk_at "ly3") => `(tactic| (((with_reducible refine' k_call (c_back ?htl ?_) ?hk); (case hk => exact Nat.le_add_left _ _); (case htl => walk_at "lyh")); intro _))
local macro_rules
  | `(tactic| walk_at "ly3") => `(tactic| (((with_reducible refine' k_call (c_ahead ?htl ?_) ?hk); (case hk => exact Nat.le_add_left _ _); (case htl => walk_at "lyh")); intro _))
section
variable {w : World} {k : Nat} {S H : AH} {G : GA} {is : List (Addr × Inf)} {sc lo ts cv ct tt bk ins ah ac : Addr} {kind : Str} {flag mask depth : Int} {ms : Value} {j : Nat} {p : Addr × Inf} {Q : Value → AH → Prop} {xs : List Int} {g : Int}
theorem c_match (hS : Sub S H) (T : Still S G) (R : Row S H G is) (hsc : H sc = some (scn G lo mask depth)) (hj : is[j]? = some p) (htt : H tt = some (.tup [.ref bk, .ref ins, .ref ah, .ref ac])) (hbk : H bk = some (.list [])) (hah : H ah = some (.list [])) (htl : H ins = some (.list [.ref ts])) (ht : H ts = some (.tup [.str "cover" 0, .ref cv])) (hc : H cv = some (.inst 384 [("glyphs", .ref ct)])) (hct : H ct = some (.tup (intl xs))) (hl : xs.length < 100) (hs : xs.Pairwise (· < ·))
    (q0 : p.2.g ∉ xs → Q .none H) (q1 : p.2.g ∈ xs → ∀ a b, H a = none → upd H a (.list [.int j 0]) b = none → Q (.ref b) (upd (upd H a (.list [.int j 0])) b (.tup [.ref a, .int j 0, .int j 0]))) : TC w (k + 5) (.ref 521) [.ref sc, .int j 0, .ref tt] Q H := by
  with_reducible refine' TC.drop (fn_521 ?_); intro L hL
  walk_at "lyb"
  walk_at "ly"
  with_reducible refine' k_call (c_input hS T R hsc hj htl ht hc hct hl hs ?a ?b) ?hk
  case hk => exact Nat.le_refl _
  case a =>
    intro hm _
    walk_at "ly"
    show if true = true then _ else _
    walk_at "ly"
    with_reducible refine' x_ret (P := DQ Q) ?_ ?r
    case r => exact fun _ _ _ h => h
    walk_at "ly"
    exact dq0 (q0 hm)
  case b =>
    intro hm a ha _
    have hz : ([Value.int (j : Int) 0])[((-1 : Int) + (([Value.int (j : Int) 0]).length : Int)).toNat]? = some (.int j 0) := rfl
    walk_at "ly"
    show if false = true then _ else _
    walk_at "ly"
    with_reducible refine' ex_nil ?_
    walk_at "ly"
    rw [decide_eq_false (by omega)]
    walk_at "ly"
    with_reducible refine' ex_nil ?_
    walk_at "ly"
    with_reducible refine' it_neg ?ha ?h0 ?h1 ?hj ?hx ?_ ?ps
    case ha => walk_at "lyh"
    case h0 => decide
    case h1 => simp
    case hj => decide
    case hx => exact hz
    case ps => intro _ _; exact rfl
    walk_at "ly"
    with_reducible refine' x_ret (P := DQ Q) ?_ ?r
    case r => exact fun _ _ _ h => h
    walk_at "ly"
    rw [decide_eq_false (by omega)]
    walk_at "ly"
    exact dq0 (q1 hm a _ ha (by assumption))
end
end P12
section P13
local macro_rules
  | `(tactic| walk_at "lycell") => `(tactic| (
      rename_i L hL
      have hL1 : H (L + 1) = none := hL 1
      skip))
section
variable {w : World} {k : Nat} {S H : AH} {Q : Value → AH → Prop} {rw_ cv : Addr} {cd : Value}
theorem c_tests0 (hr : H rw_ = some (.tup [])) (q : ∀ a, H a = none → Q (.ref a) (upd H a (.list []))) : TC w (k + 1) (.ref 481) [.ref rw_, .str "cover" 0, cd] Q H := by
  with_reducible refine' TC.drop (fn_481 ?_); intro L hL
  have hL1 : H (L + 1) = none := hL 1
  have hL2 : upd H (L + 1) (.cell (some (.str "cover" 0))) (L + 2) = none := by rw [upd_ne _ _ (Nat.ne_of_gt (Nat.lt_succ_self _))]; exact hL 2
  walk_at "lyb"
  walk_at "ly"
  show if false = true then _ else _
  walk_at "ly"
  with_reducible refine' ex_nil ?_
  walk_at "ly"
  with_reducible refine' x_ret (P := fun v H1 => ∃ H', Sub H' H1 ∧ DQ Q v H') ?_ ?r
  case r => exact fun _ _ _ h => h
  walk_at "lycomp"
  walk_at "ly"
  refine ⟨.tup rw_, 0, fun i ys H' => i = 0 ∧ ys = [] ∧ H' = _, .tup (by walk_at "lyh"), ⟨rfl, rfl, rfl⟩, ?_⟩
  rintro C hC hCL i ys H' ⟨rfl, rfl, rfl⟩
  refine ⟨Nat.zero_le _, none, .tup (by walk_at "lyh") rfl, fun _ => ?_, fun u eu => by cases eu⟩
  intro D hD hDL
  have hs : Sub H (upd (upd H (L + 1) (.cell (some (.str "cover" 0)))) (L + 2) (.cell (some cd))) := by walk_at "lysub"
  exact ⟨upd H D (.list []), sub_cong hs, dq0 (q D (sub_none hs hD))⟩
theorem c_tests1 (hr : H rw_ = some (.tup [.ref cv])) (q : ∀ t a, H t = none → upd H t (.tup [.str "cover" 0, .ref cv]) a = none → Q (.ref a) (upd (upd H t (.tup [.str "cover" 0, .ref cv])) a (.list [.ref t]))) : TC w (k + 1) (.ref 481) [.ref rw_, .str "cover" 0, cd] Q H := by
  with_reducible refine' TC.drop (fn_481 ?_); intro L hL
  have hL1 : H (L + 1) = none := hL 1
  have hL2 : upd H (L + 1) (.cell (some (.str "cover" 0))) (L + 2) = none := by rw [upd_ne _ _ (Nat.ne_of_gt (Nat.lt_succ_self _))]; exact hL 2
  walk_at "lyb"
  walk_at "ly"
  show if false = true then _ else _
  walk_at "ly"
  with_reducible refine' ex_nil ?_
  walk_at "ly"
  with_reducible refine' x_ret (P := fun v H1 => ∃ H', Sub H' H1 ∧ DQ Q v H') ?_ ?r
  case r => exact fun _ _ _ h => h
  walk_at "lycomp"
  walk_at "ly"
  have hs : Sub H (upd (upd H (L + 1) (.cell (some (.str "cover" 0)))) (L + 2) (.cell (some cd))) := by walk_at "lysub"
  refine ⟨.tup rw_, 1, fun i ys H' => (i = 0 ∧ ys = [] ∧ H' = (upd (upd H (L + 1) (.cell (some (.str "cover" 0)))) (L + 2) (.cell (some cd)))) ∨ (i = 1 ∧ ∃ t, (upd (upd H (L + 1) (.cell (some (.str "cover" 0)))) (L + 2) (.cell (some cd))) t = none ∧ ys = [.ref t] ∧ H' = upd (upd (upd H (L + 1) (.cell (some (.str "cover" 0)))) (L + 2) (.cell (some cd))) t (.tup [.str "cover" 0, .ref cv])), .tup (by walk_at "lyh"), .inl ⟨rfl, rfl, rfl⟩, ?_⟩
  rintro C hC hCL i ys H' (⟨rfl, rfl, rfl⟩ | ⟨rfl, t, htn, rfl, rfl⟩)
  · refine ⟨Nat.zero_le _, some (.ref cv), .tup (by walk_at "lyh") rfl, (fun e => by cases e), fun u eu => ⟨by omega, ?_⟩⟩
    cases eu
    with_reducible refine' ct_nil ?_
    walk_at "ly"
    exact ⟨rfl, .inr ⟨rfl, _, by assumption, rfl, rfl⟩⟩
  · refine ⟨by simp, none, .tup (by walk_at "lyh") rfl, fun _ => ?_, fun u eu => by cases eu⟩
    intro D hD hDL
    exact ⟨upd (upd H t (.tup [.str "cover" 0, .ref cv])) D (.list [.ref t]), sub_cong (sub_cong hs), dq0 (q t D (sub_none hs htn) (sub_none (sub_cong hs) hD))⟩
end
end P13
section P14
local macro_rules
  | `(tactic| walk_at "ly3") => `(tactic| ((with_reducible refine' as_tup ?ha ?_ ?hl ?h1); (case ha => walk_at "lyh"); (case hl => exact rfl); (case h1 => (repeat' (first | exact List.forall_mem_nil _ | refine List.forall_mem_cons.mpr ⟨fun _ => rfl, ?_⟩)))))
local macro_rules
  | `(tactic| walk_at "ly3") => `(tactic| (with_reducible refine' ao_cons ?_))
local macro_rules
  | `(tactic| walk_at "ly3") => `(tactic| (with_reducible refine' ao_nil ?_))
local macro_rules
  | `(tactic| walk_at "ly3") => `(tactic| ((with_reducible refine' it_list ?ha ?h0 ?hx ?hj ?_ ?ps); (case ha => walk_at "lyh"); (case hx => first | with_reducible assumption | exact rfl); (case h0 => first | decide | omega); (case hj => first | decide | omega); (case ps => (intro _ _; exact rfl))))
local macro_rules
  | `(tactic| walk_at "ly3") => `(tactic| ((with_reducible refine' cr_append ?ha ?hz ?_); (case ha => walk_at "lyh"); (case hz => first | decide | omega | (simp; omega))))
section
variable {w : World} {k : Nat} {S H : AH} {Q : Value → AH → Prop} {tb ru e1 e2 i1 cv ac sd sl : Addr} {v1 v2 v3 v4 : Value}
theorem c_rule_tests (ht : H tb = some (.inst 467 [("form", .int 3 0), ("is_chained", v1), ("sets", v2), ("coverage", v3), ("classes", v4)])) (hr : H ru = some (.inst 426 [("back", .ref e1), ("inside", .ref i1), ("ahead", .ref e2), ("actions", .ref ac)])) (he1 : H e1 = some (.tup [])) (hi : H i1 = some (.tup [.ref cv])) (he2 : H e2 = some (.tup []))
    (q : ∀ H' tt bk ins ts ah, Sub H H' → H' tt = some (.tup [.ref bk, .ref ins, .ref ah, .ref ac]) → H' bk = some (.list []) → H' ins = some (.list [.ref ts]) → H' ts = some (.tup [.str "cover" 0, .ref cv]) → H' ah = some (.list []) → Q (.ref tt) H') : TC w (k + 2) (.ref 488) [.ref tb, .ref ru] Q H := by
  with_reducible refine' TC.drop (fn_488 ?_); intro L hL
  walk_at "lyb"
  walk_at "ly"
  show if false = true then _ else _
  walk_at "ly"
  with_reducible refine' x_ret (P := DQ Q) ?_ ?r
  case r => exact fun _ _ _ h => h
  walk_at "ly"
  with_reducible refine' k_call (c_tests0 ?hr ?_) ?hk
  case hk => exact Nat.le_refl _
  case hr => walk_at "lyh"
  intro bk hbk _
  walk_at "ly"
  with_reducible refine' k_call (c_tests1 ?hr ?_) ?hk
  case hk => exact Nat.le_refl _
  case hr => walk_at "lyh"
  intro ts ins hts hins _
  walk_at "ly"
  with_reducible refine' k_call (c_tests0 ?hr ?_) ?hk
  case hk => exact Nat.le_refl _
  case hr => walk_at "lyh"
  intro ah hah _
  walk_at "ly"
  refine dq0 (q _ _ bk ins ts ah (by walk_at "lysub") (upd_self _ _ _) (by walk_at "lyh") (by walk_at "lyh") (by walk_at "lyh") (by walk_at "lyh"))
theorem c_rules (ht : H tb = some (.inst 467 [("form", .int 3 0), ("is_chained", v1), ("sets", .ref sd), ("coverage", v3), ("classes", v4)])) (hs : H sd = some (.dict [(0, .ref sl)])) (hl : H sl = some (.list [.ref ru]))
    (q : ∀ H' a, Sub H H' → H' a = some (.list [.ref ru]) → Q (.ref a) H') : TC w (k + 1) (.ref 464) [.ref tb] Q H := by
  with_reducible refine' TC.drop (fn_464 ?_); intro L hL
  walk_at "lyb"
  walk_at "ly"
  rename_i fa hfa hfL
  with_reducible refine' e1_for ?_ ?hs
  case hs => intro _; exact rfl
  walk_at "ly"
  with_reducible refine' cr_sorted ?ha ?hz ?_
  case ha => walk_at "lyh"
  case hz => exact Nat.le_of_ble_eq_true rfl
  intro c ns hc hcL hp _
  have hns : ns = [0] := by
    have : (List.map (fun x : Int × Value => x.1) [(0, Value.ref sl)]) = [0] := rfl
    rw [this] at hp
    exact List.perm_singleton.mp hp
  subst hns
  have hcf : fa ≠ c := fun z => by rw [← z, upd_self] at hc; cases hc
  have hf0 : upd (upd H fa (.list [])) c (.list (intl [0])) fa = some (.list (if 0 = 0 then [] else [Value.ref ru])) := by rw [upd_ne _ _ hcf, upd_self]; rfl
  refine ⟨.list c, 1, fun i H' m => ∃ S', Sub H S' ∧ S' fa = none ∧ Sub S' H' ∧ S' c = some (.list (intl [0])) ∧ H' fa = some (.list (if i = 0 then [] else [.ref ru])) ∧ i ≤ 1 ∧ lkr m "found" = some (.ref fa) ∧ lkr m "self" = some (.ref tb), .list (upd_self _ _ _), .inl fun _ _ => rfl, ⟨upd H c (.list (intl [0])), ?_, ?_, ?_, upd_self _ _ _, hf0, by omega, by walk_at "lyl", by walk_at "lyl"⟩, ?_⟩
  · have hc' : H c = none := sub_none (sub_new Sub.rfl' hfa) hc
    exact sub_new Sub.rfl' hc'
  · rw [upd_ne _ _ hcf]; exact hfa
  · exact sub_cong (sub_new Sub.rfl' hfa)
  · rintro i H' m ⟨S', s1, s2, s3, s4, hf, hi, l1, l2⟩
    have hc' := s3 _ _ s4
    have h1 := s3 _ _ (s1 _ _ ht)
    have h2 := s3 _ _ (s1 _ _ hs)
    have h3 := s3 _ _ (s1 _ _ hl)
    refine ⟨_, .list hc' rfl, fun e => ?_, fun x ex => ?_⟩
    · have hi1 : i = 1 := by
        rcases Nat.lt_or_ge i 1 with z | z
        · have : i = 0 := by omega
          subst this; cases e
        · omega
      subst hi1
      walk_at "ly"
      with_reducible refine' x_ret (P := DQ Q) ?_ ?r
      case r => exact fun _ _ _ h => h
      walk_at "ly"
      exact dq0 (q _ fa (fun a o e => s3 _ _ (s1 _ _ e)) hf)
    · have hi0 : i = 0 ∧ x = .int 0 0 := by
        match i, hi, ex with
        | 0, _, ex => cases ex; exact ⟨rfl, rfl⟩
        | 1, _, ex => cases ex
      obtain ⟨rfl, rfl⟩ := hi0
      refine ⟨by omega, ?_⟩
      walk_at "ly"
      with_reducible refine' e1_for ?_ ?hs
      case hs => intro _; exact rfl
      have hd : dk [((0 : Int), Value.ref sl)] 0 = some (.ref sl) := rfl
      walk_at "ly"
      refine ⟨.list sl, 1, fun j H2 m => ∃ S', Sub H S' ∧ S' fa = none ∧ Sub S' H2 ∧ S' c = some (.list (intl [0])) ∧ H2 fa = some (.list (if j = 0 then [] else [.ref ru])) ∧ j ≤ 1 ∧ lkr m "found" = some (.ref fa) ∧ lkr m "self" = some (.ref tb), .list h3, .inl fun _ _ => rfl, ⟨S', s1, s2, s3, s4, hf, by omega, by walk_at "lyl", by walk_at "lyl"⟩, ?_⟩
      rintro j H2 m2 ⟨S2, t1, t2, t3, t4, hf2, hj, r1, r2⟩
      have h3' := t3 _ _ (t1 _ _ hl)
      refine ⟨_, .list h3' rfl, fun e => ?_, fun x ex => ?_⟩
      · have hj1 : j = 1 := by
          rcases Nat.lt_or_ge j 1 with z | z
          · have : j = 0 := by omega
            subst this; cases e
          · omega
        subst hj1
        walk_at "ly"
        with_reducible refine' ex_nil ?_
        with_reducible refine' lq_next ?_
        exact ⟨S2, t1, t2, t3, t4, hf2, by omega, r1, r2⟩
      · have hj0 : j = 0 ∧ x = .ref ru := by
          match j, hj, ex with
          | 0, _, ex => cases ex; exact ⟨rfl, rfl⟩
          | 1, _, ex => cases ex
        obtain ⟨rfl, rfl⟩ := hj0
        refine ⟨by omega, ?_⟩
        have hf2' : H2 fa = some (.list []) := hf2
        walk_at "ly"
        with_reducible refine' ex_nil ?_
        with_reducible refine' lq_next ?_
        exact ⟨S2, t1, t2, sub_old t3 t2, t4, upd_self _ _ _, by omega, by walk_at "lyl", by walk_at "lyl"⟩
end
end P14
section P15
local macro_rules
  | `(tactic| walk_at "ly3") => `(tactic| ((with_reducible refine' it_tup ?ha ?h0 ?hx ?hj ?_ ?ps); (case ha => walk_at "lyh"); (case hx => exact rfl); (case h0 | hj => decide); (case ps => (intro _ _; exact rfl))))
theorem gl_rule_tests (P : Params) : nsIn (KK PW P) mainGlobals "rule_tests" = some (some (.ref 488)) := by kernel_rfl
local macro_rules
  | `(tactic| walk_at "lygl") => `(tactic| (with_reducible exact gl_rule_tests _))
section
variable {w : World} {k : Nat} {S H : AH} {Q : Value → AH → Prop} {tb ru e1 e2 i1 cv ct ac sd sl : Addr} {v1 v2 v3 v4 : Value} {xs : List Int} {g : Int}
theorem c_rules_at (ht : H tb = some (.inst 467 [("form", .int 3 0), ("is_chained", v1), ("sets", .ref sd), ("coverage", v3), ("classes", v4)])) (hs : H sd = some (.dict [(0, .ref sl)])) (hl : H sl = some (.list [.ref ru]))
    (hr : H ru = some (.inst 426 [("back", .ref e1), ("inside", .ref i1), ("ahead", .ref e2), ("actions", .ref ac)])) (he1 : H e1 = some (.tup [])) (hi : H i1 = some (.tup [.ref cv])) (he2 : H e2 = some (.tup []))
    (hc : H cv = some (.inst 384 [("glyphs", .ref ct)])) (hct : H ct = some (.tup (intl xs))) (hxl : xs.length < 100) (hxs : xs.Pairwise (· < ·))
    (q0 : g ∉ xs → ∀ H' a, Sub H H' → H' a = some (.list []) → Q (.ref a) H')
    (q1 : g ∈ xs → ∀ H' a tt bk ins ts ah, Sub H H' → H' a = some (.list [.ref tt]) → H' tt = some (.tup [.ref bk, .ref ins, .ref ah, .ref ac]) → H' bk = some (.list []) → H' ins = some (.list [.ref ts]) → H' ts = some (.tup [.str "cover" 0, .ref cv]) → H' ah = some (.list []) → Q (.ref a) H') : TC w (k + 3) (.ref 493) [.ref tb, .int g 0] Q H := by
  with_reducible refine' TC.drop (fn_493 ?_); intro L hL
  have hL1 : H (L + 1) = none := hL 1
  have hL2 : upd H (L + 1) (.cell (some (.ref tb))) (L + 2) = none := by rw [upd_ne _ _ (Nat.ne_of_gt (Nat.lt_succ_self _))]; exact hL 2
  walk_at "lyb"
  walk_at "ly"
  show if false = true then _ else _
  walk_at "ly"
  show if false = true then _ else _
  walk_at "ly"
  walk_at "lycomp"
  walk_at "ly"
  with_reducible refine' k_call (c_rules (ru := ru) (sl := sl) (sd := sd) (v1 := v1) (v3 := v3) (v4 := v4) ?ht ?hs ?hl ?_) ?hk
  case hk => exact Nat.le_add_left _ _
  case ht => walk_at "lyh"
  case hs => walk_at "lyh"
  case hl => walk_at "lyh"
  intro H1 a1 hs1 ha1 _
  have hL2' : H1 (L + 2) = some (.cell (some (.int g 0))) := hs1 _ _ (upd_self _ _ _)
  have hL1' : H1 (L + 1) = some (.cell (some (.ref tb))) := hs1 _ _ (h_fresh hL2 (upd_self _ _ _))
  have hsH : Sub H H1 := fun a o e => hs1 _ _ (h_fresh hL2 (h_fresh hL1 e))
  have hsc : Sub H (upd (upd H (L + 1) (.cell (some (.ref tb)))) (L + 2) (.cell (some (.int g 0)))) := by walk_at "lysub"
  clear hs1
  refine ⟨.list a1, 1, fun i ys H' => i ≤ 1 ∧ Sub H1 H' ∧ ys = (if i = 0 then [] else if g ∈ xs then [.ref ru] else []), .list ha1, ⟨by omega, Sub.rfl', rfl⟩, ?_⟩
  rintro C hC hCL i ys H' ⟨hi1, s1, rfl⟩
  have ha1' := s1 _ _ ha1
  have b2 := s1 _ _ hL2'
  have b1 := s1 _ _ hL1'
  have c1 := s1 _ _ (hsH _ _ ht)
  have c2 := s1 _ _ (hsH _ _ hr)
  have c3 := s1 _ _ (hsH _ _ he1)
  have c4 := s1 _ _ (hsH _ _ hi)
  have c5 := s1 _ _ (hsH _ _ he2)
  have c6 := s1 _ _ (hsH _ _ hc)
  have c7 := s1 _ _ (hsH _ _ hct)
  refine ⟨?_, _, .list ha1' rfl, fun en => ?_, fun u eu => ?_⟩
  · split
    · exact Nat.zero_le _
    · split <;> simp
  · have hi2 : i = 1 := by
      match i, hi1, en with
      | 1, _, _ => rfl
    subst hi2
    intro D hD hDL
    rw [if_neg (by decide)]
    walk_at "ly"
    with_reducible refine' ex_nil ?_
    walk_at "ly"
    with_reducible refine' ex_nil ?_
    walk_at "ly"
    with_reducible refine' x_ret (P := fun v H1 => ∃ H', Sub H' H1 ∧ DQ Q v H') ?_ ?r
    case r => exact fun _ _ _ h => h
    walk_at "lycomp"
    walk_at "ly"
    by_cases hg : g ∈ xs
    · rw [if_pos hg]
      refine ⟨.list D, 1, fun i ys H2 => i ≤ 1 ∧ Sub (upd H' D (.list [.ref ru])) H2 ∧ ((i = 0 ∧ ys = []) ∨ (i = 1 ∧ ∃ tt bk ins ts ah, ys = [.ref tt] ∧ H2 tt = some (.tup [.ref bk, .ref ins, .ref ah, .ref ac]) ∧ H2 bk = some (.list []) ∧ H2 ins = some (.list [.ref ts]) ∧ H2 ts = some (.tup [.str "cover" 0, .ref cv]) ∧ H2 ah = some (.list []))), .list (upd_self _ _ _), ⟨by omega, Sub.rfl', .inl ⟨rfl, rfl⟩⟩, ?_⟩
      rintro C2 hC2 hC2L i2 ys H2 ⟨hi2, s2, alt⟩
      have d1 := s2 _ _ (upd_self _ _ _)
      have e1' := s2 _ _ (h_fresh hD c1)
      have e2' := s2 _ _ (h_fresh hD c2)
      have e3' := s2 _ _ (h_fresh hD c3)
      have e4' := s2 _ _ (h_fresh hD c4)
      have e5' := s2 _ _ (h_fresh hD c5)
      have f1' := s2 _ _ (h_fresh hD b1)
      have sHH : Sub H H2 := fun a o e => s2 _ _ (h_fresh hD (s1 _ _ (hsH _ _ e)))
      rcases alt with ⟨rfl, rfl⟩ | ⟨rfl, tt, bk, ins, ts, ah, rfl, g1, g2, g3, g4, g5⟩
      · refine ⟨by simp, _, .list d1 rfl, (fun e => by cases e), fun u eu => ⟨by omega, ?_⟩⟩
        cases eu
        with_reducible refine' ct_nil ?_
        walk_at "ly"
        with_reducible refine' k_call (c_rule_tests e1' e2' e3' e4' e5' ?_) ?hk
        case hk => exact Nat.le_refl _
        intro H3 tt bk ins ts ah s3 g1 g2 g3 g4 g5 _
        exact ⟨rfl, by omega, fun a o e => s3 _ _ (s2 _ _ e), .inr ⟨rfl, tt, bk, ins, ts, ah, rfl, g1, g2, g3, g4, g5⟩⟩
      · refine ⟨by simp, _, .list d1 rfl, fun _ => ?_, fun u eu => by cases eu⟩
        intro D2 hD2 hD2L
        exact ⟨_, Sub.rfl', dq0 (q1 hg _ D2 tt bk ins ts ah (sub_new sHH hD2) (upd_self _ _ _) (h_fresh hD2 g1) (h_fresh hD2 g2) (h_fresh hD2 g3) (h_fresh hD2 g4) (h_fresh hD2 g5))⟩
    · rw [if_neg hg]
      refine ⟨.list D, 1, fun i ys H2 => i = 0 ∧ ys = [] ∧ Sub (upd H' D (.list [])) H2, .list (upd_self _ _ _), ⟨rfl, rfl, Sub.rfl'⟩, ?_⟩
      rintro C2 hC2 hC2L i2 ys H2 ⟨rfl, rfl, s2⟩
      have d1 := s2 _ _ (upd_self _ _ _)
      have sHH : Sub H H2 := fun a o e => s2 _ _ (h_fresh hD (s1 _ _ (hsH _ _ e)))
      refine ⟨by simp, _, .list d1 rfl, fun _ => ?_, fun u eu => by cases eu⟩
      intro D2 hD2 hD2L
      exact ⟨_, Sub.rfl', dq0 (q0 hg _ D2 (sub_new sHH hD2) (upd_self _ _ _))⟩
  · have hi2 : i = 0 ∧ u = .ref ru := by
      match i, hi1, eu with
      | 0, _, eu => cases eu; exact ⟨rfl, rfl⟩
    obtain ⟨rfl, rfl⟩ := hi2
    refine ⟨by omega, ?_⟩
    with_reducible refine' ct_one ?_
    walk_at "ly"
    with_reducible refine' k_call (c_has c6 c7 hxl hxs ?_) ?hk2
    case hk2 => exact Nat.le_add_left _ _
    intro _
    walk_at "ly"
    by_cases hg : g ∈ xs
    · rw [decide_eq_true hg]
      walk_at "ly"
      exact ⟨rfl, by omega, s1, by rw [if_pos rfl, if_neg (by omega), if_pos hg]; rfl⟩
    · rw [decide_eq_false hg]
      exact ⟨rfl, by omega, s1, by rw [if_pos rfl, if_neg (by omega), if_neg hg]⟩
end
end P15
section P16
noncomputable def sel (P : Int → Option Int) (M : Int → Option (List Int)) (n g : Int) : Option (List Int) := if n = 1 then (P g).map (fun i => [i]) else if n = 3 then M g else none
inductive LkN (S : AH) (P : Int → Option Int) (M : Int → Option (List Int)) : Int → Addr → Prop
  | one {l tb t md : Addr} {f : Int} {ms : Value} {kvs : List (Int × Value)} (h1 : S l = some (lkp "single" f ms tb)) (h2 : S tb = some (.list [.ref t])) (h3 : S t = some (.inst 621 [("mapping", .ref md)])) (h4 : S md = some (.dict kvs)) (h5 : ∀ g, dk kvs g = (P g).map fun i => .int i 0) : LkN S P M 1 l
  | two {l tb t : Addr} {f : Int} {ms : Value} (h1 : S l = some (lkp "reverse" f ms tb)) (h2 : S tb = some (.list [.ref t])) : LkN S P M 2 l
  | three {l tb t md : Addr} {f : Int} {ms : Value} {kvs : List (Int × Value)} (h1 : S l = some (lkp "multiple" f ms tb)) (h2 : S tb = some (.list [.ref t])) (h3 : S t = some (.inst 647 [("mapping", .ref md)])) (h4 : S md = some (.dict kvs))
      (h5 : ∀ g, (M g = none → dk kvs g = none) ∧ ∀ gs, M g = some gs → ∃ pt, dk kvs g = some (.ref pt) ∧ S pt = some (.tup (intl gs)) ∧ 1 ≤ gs.length ∧ gs.length ≤ 3) : LkN S P M 3 l
structure Lks (S : AH) (G : GA) (P : Int → Option Int) (M : Int → Option (List Int)) (ls : List Addr) : Prop where
  at_ : S G.lks = some (.list (lrefs ls))
  len : ls.length = 4
  lk : ∀ n l, 1 ≤ n → ls[n.toNat]? = some l → LkN S P M n l
theorem row_fresh {S H : AH} {G : GA} {is : List (Addr × Inf)} {c : Addr} {o : O} (R : Row S H G is) (hc : H c = none) : Row S (upd H c o) G is :=
  ⟨h_fresh hc R.rl, fun p hp => h_fresh hc (R.at_ p hp), R.ap, R.nr, R.ns, R.len⟩
theorem row_fgn {S H : AH} {G : GA} {is : List (Addr × Inf)} {c : Addr} {o : O} (R : Row S H G is) (f : Fgn G is c) : Row S (upd H c o) G is :=
  ⟨h_old (Ne.symm f.1) R.rl, fun p hp => h_old (Ne.symm (f.2 p hp)) (R.at_ p hp), R.ap, R.nr, R.ns, R.len⟩
theorem fgn_ints {S H : AH} {G : GA} {is : List (Addr × Inf)} {a : Addr} {x : Int} {xs : List Int} (R : Row S H G is) (e : H a = some (.list (intl (x :: xs)))) : Fgn G is a := by
  refine ⟨fun z => ?_, fun p hp z => ?_⟩
  · rw [z, R.rl] at e
    injection e with e; injection e with e
    cases is with
    | nil => cases e
    | cons p r => rw [List.map_cons] at e; unfold intl at e; rw [List.map_cons] at e; injection e with e _; cases e
  · rw [z, R.at_ p hp] at e; cases e
theorem gm_len {is is' : List (Addr × Inf)} {j : Nat} {m : Int} {gs : List Int} (hj : j < is.length) (e : is'.map gm = (is.map gm).take j ++ gs.map (fun g => (g, m)) ++ (is.map gm).drop (j + 1)) : is'.length + 1 = is.length + gs.length := by
  have := congrArg List.length e
  simp at this
  omega
section
variable {w : World} {k : Nat} {S H : AH} {G : GA} {is : List (Addr × Inf)} {sc lo ac pl pr : Addr} {mask : Int} {j : Nat} {p : Addr × Inf} {Q : Value → AH → Prop} {P : Int → Option Int} {M : Int → Option (List Int)} {n e : Int} {l : Addr} {ls : List Addr} {tl : List Int}
theorem c_isub (hS : Sub S H) (T : Still S G) (R : Row S H G is) (K : LkN S P M n l) (hsc : H sc = some (scn G l mask 1)) (hj : is[j]? = some p) (hlen : is.length + 3 < 90)
    (q0 : sel P M n p.2.g = none → Q (.int (-1) 0) H)
    (q1 : ∀ gs is' H' r, sel P M n p.2.g = some gs → 1 ≤ gs.length → gs.length ≤ 3 → 0 ≤ r → Step S G is H is' H' → is'.map gm = (is.map gm).take j ++ gs.map (fun g => (g, p.2.m)) ++ (is.map gm).drop (j + 1) → Q (.int r 0) H') : TC w (k + 7) (.ref 693) [.ref sc, .int j 0] Q H := by
  have hlt := (List.getElem?_eq_some_iff.mp hj).1
  cases K with
  | one h1 h2 h3 h4 h5 =>
    refine c_subst hS hsc h1 h2 (c_table_single (k := k + 4) (c_single hS T R hsc h3 h4 hj (fun hd => ?_) fun v hd => ?_))
    · refine ⟨-1, rfl, hS, .inr ⟨by decide, q0 ?_⟩⟩
      rw [h5] at hd
      unfold sel
      rw [if_pos rfl, Option.map_eq_none_iff.mp hd]; rfl
    · rw [h5] at hd
      obtain ⟨i, hi, rfl⟩ := Option.map_eq_some_iff.mp hd
      have St := row_set R hj { p.2 with g := i }
      refine ⟨i, rfl, _, rfl, St.sub R hS, .inl ⟨by omega, q1 [i] _ _ _ ?_ (by simp) (by simp) (by omega) St ?_⟩⟩
      · unfold sel; rw [if_pos rfl, hi]; rfl
      · rw [List.map_set, List.set_eq_take_append_cons_drop, if_pos (by simpa using hlt)]
        simp [gm]
  | two h1 h2 =>
    refine c_subst hS hsc h1 h2 (c_table_reverse (k := k + 4) (c_reverse hS T R hsc (by decide) hj ?_))
    exact ⟨-1, rfl, hS, .inr ⟨by decide, q0 rfl⟩⟩
  | three h1 h2 h3 h4 h5 =>
    have hv : ∀ v, dk _ p.2.g = some v → ∃ pt gs, v = .ref pt ∧ S pt = some (.tup (intl gs)) ∧ 1 ≤ gs.length ∧ gs.length ≤ 3 := fun v hd => by
      cases hM : M p.2.g with
      | none => rw [(h5 p.2.g).1 hM] at hd; cases hd
      | some gs =>
        obtain ⟨pt, d1, d2, d3, d4⟩ := (h5 p.2.g).2 gs hM
        rw [d1] at hd; cases hd
        exact ⟨pt, gs, rfl, d2, d3, d4⟩
    refine c_subst hS hsc h1 h2 (c_table_multiple (k := k) (c_multiple hS T R hsc h3 h4 hj hv hlen (fun hd => ?_) fun pt gs is' H' hd hpt St eg => ?_))
    · refine ⟨-1, rfl, hS, .inr ⟨by decide, q0 ?_⟩⟩
      unfold sel
      rw [if_neg (by decide), if_pos rfl]
      cases hM : M p.2.g with
      | none => rfl
      | some gs => obtain ⟨pt, d1, _⟩ := (h5 p.2.g).2 gs hM; rw [d1] at hd; cases hd
    · cases hM : M p.2.g with
      | none => rw [(h5 p.2.g).1 hM] at hd; cases hd
      | some gs' =>
        obtain ⟨pt', d1, d2, d3, d4⟩ := (h5 p.2.g).2 gs' hM
        rw [d1] at hd; cases hd
        rw [d2] at hpt
        have eg' : gs' = gs := by
          injection hpt with hpt; injection hpt with hpt
          unfold intl at hpt
          exact (List.map_inj_right (fun x y h => by injection h)).mp hpt
        subst eg'
        refine ⟨_, rfl, St.sub R hS, .inl ⟨by omega, q1 gs' _ _ _ ?_ d3 d4 (by omega) St eg⟩⟩
        unfold sel; rw [if_neg (by decide), if_pos rfl]; exact hM
end
end P16
section P17
theorem ao_cons' {w : World} {k : Nat} {H : AH} {env : Env} {t : Expr} {ts : List Expr} {v : Value} {vs : List Value} {QU : Unit → AH → Lc → Prop} {m : Lc} (h : AS w k env t v (fun _ H m => AO w k env ts vs QU H m) H m) : AO w k env (t :: ts) (v :: vs) QU H m := h
theorem ao_nil' {w : World} {k : Nat} {H : AH} {env : Env} {QU : Unit → AH → Lc → Prop} {m : Lc} (h : QU () H m) : AO w k env [] [] QU H m := h
local macro_rules
  | `(tactic| walk_at "ly3") => `(tactic| ((with_reducible refine' as_tup ?ha ?_ ?hl ?h1); (case ha => walk_at "lyh"); (case hl => exact rfl); (case h1 => (repeat' (first | exact List.forall_mem_nil _ | refine List.forall_mem_cons.mpr ⟨fun _ => rfl, ?_⟩)))))
local macro_rules
  | `(tactic| walk_at "ly3") => `(tactic| (with_reducible refine' ao_cons' ?_))
local macro_rules
  | `(tactic| walk_at "ly3") => `(tactic| (with_reducible refine' ao_nil' ?_))
local macro_rules
  | `(tactic| walk_at "ly3") => `(tactic| ((with_reducible refine' it_list ?ha ?h0 ?hx ?hj ?_ ?ps); (case ha => walk_at "lyh"); (case hx => first | with_reducible assumption | exact rfl); (case h0 => first | decide | omega); (case hj => first | decide | omega); (case ps => (intro _ _; exact rfl))))
section
variable {w : World} {k : Nat} {S H : AH} {G : GA} {is : List (Addr × Inf)} {sc lo ac pl pr : Addr} {mask : Int} {j : Nat} {p : Addr × Inf} {Q : Value → AH → Prop} {P : Int → Option Int} {M : Int → Option (List Int)} {n e : Int} {l : Addr} {ls : List Addr} {tl : List Int}
theorem c_action (hS : Sub S H) (T : Still S G) (R : Row S H G is) (K : Lks S G P M ls) (hsc : S sc = some (scn G lo mask 0)) (hac : S ac = some (.tup [.int 0 0, .int n 0])) (hn : 1 ≤ n) (hp : H pl = some (plc pr e)) (hr : H pr = some (.list (intl ((j:Int) :: tl)))) (spl : S pl = none) (spr : S pr = none) (htl : tl.length < 50) (he : (j:Int) ≤ e) (hj : is[j]? = some p) (hlen : is.length + 3 < 90)
    (q0 : sel P M n p.2.g = none → Q (.bool true) H)
    (q1 : ∀ gs is' H' pr' tl', sel P M n p.2.g = some gs → 1 ≤ gs.length → gs.length ≤ 3 → Row S H' G is' → Sub S H' → is'.map gm = (is.map gm).take j ++ gs.map (fun g => (g, p.2.m)) ++ (is.map gm).drop (j + 1) → H' pl = some (plc pr' (e + (gs.length - 1))) → H' pr' = some (.list (intl ((j:Int) :: tl'))) → tl'.length + 1 = tl.length + gs.length → S pr' = none → Q (.bool true) H') : TC w (k + 8) (.ref 552) [.ref sc, .ref pl, .ref ac, .ref 693] Q H := by
  have T0 := T
  obtain ⟨t1, t2, t3, t4⟩ := T
  have rl := R.rl
  have hlt : j < is.length := (List.getElem?_eq_some_iff.mp hj).1
  have h100 := R.len
  have hx0 : (intl ((j:Int) :: tl))[(0 : Int).toNat]? = some (.int j 0) := rfl
  have hil : (intl ((j:Int) :: tl)).length = tl.length + 1 := by simp [intl]
  have hisl : (is.map fun p : Addr × Inf => Value.ref p.1).length = is.length := by simp
  have hp0 := hp
  have hsc0 := hS _ _ hsc
  unfold plc at hp
  unfold scn at hsc
  have fpl := fgn_inst R hp (by decide)
  have fpr := fgn_ints R hr
  with_reducible refine' TC.drop (fn_552 ?_); intro L hL
  walk_at "lyb"
  walk_at "ly"
  rw [hil, decide_eq_false (show ¬ (((tl.length + 1 : Nat) : Int) ≤ 0) by omega)]
  walk_at "ly"
  rw [hisl, decide_eq_false (show ¬ ((is.length : Int) ≤ (j : Int)) by omega)]
  walk_at "ly"
  with_reducible refine' ex_nil ?_
  walk_at "ly"
  have hls := K.at_
  have hll := K.len
  with_reducible refine' k_call (c_inner (ls := ls) hS hsc0 ?hd hls ?hl ?a ?b) ?hk
  case hk => exact Nat.le_add_left _ _
  case hd => decide
  case hl => omega
  case a =>
    intro hno _
    walk_at "ly"
    show if true = true then _ else _
    walk_at "ly"
    with_reducible refine' x_ret (P := DQ Q) ?_ ?r
    case r => exact fun _ _ _ h => h
    walk_at "ly"
    refine dq0 (q0 ?_)
    unfold sel
    rw [if_neg (by omega), if_neg (by omega)]
  case b =>
    intro l a hl hn0 ha _
    have e01 : (0 : Int) + 1 = 1 := rfl
    rw [e01]
    have LN := K.lk n l hn hl
    have s1 : Sub S (upd H a (scn G l mask 1)) := sub_new hS ha
    have R1 : Row S (upd H a (scn G l mask 1)) G is := row_fresh R ha
    walk_at "ly"
    show if false = true then _ else _
    walk_at "ly"
    with_reducible refine' ex_nil ?_
    walk_at "ly"
    have hpa := h_fresh (o' := scn G l mask 1) ha hp0
    have hra := h_fresh (o' := scn G l mask 1) ha hr
    with_reducible refine' k_call (c_isub s1 T0 R1 LN (upd_self _ _ _) hj hlen ?a ?b) ?hk
    case hk => exact Nat.le_refl _
    case a =>
      intro hsel _
      walk_at "ly"
      show if true = true then _ else _
      walk_at "ly"
      with_reducible refine' x_ret (P := DQ Q) ?_ ?r
      case r => exact fun _ _ _ h => h
      walk_at "ly"
      exact dq (sub_new Sub.rfl' ha) (q0 hsel)
    case b =>
      intro gs is' H' r hsel hg1 hg3 hr0 St hgm _
      have hS' := St.sub R1 s1
      have R' := St.row
      have rl' := R'.rl
      have hlen' := gm_len hlt hgm
      have hisl' : (is'.map fun p : Addr × Inf => Value.ref p.1).length = is'.length := by simp
      have hp' := (St.keep pl _ fpl hpa).1
      have fpl' := (St.keep pl _ fpl hpa).2
      have hr' := (St.keep pr _ fpr hra).1
      have hp'' := hp'
      unfold plc at hp''
      clear s1 R1 rl hp hr hpa hra
      walk_at "ly"
      rw [decide_eq_false (show ¬ (r < 0) by omega)]
      walk_at "ly"
      with_reducible refine' ex_nil ?_
      walk_at "ly"
      obtain ⟨c, hc⟩ : ∃ c : Nat, gs.length = c + 1 := ⟨gs.length - 1, by omega⟩
      have ec : ((is'.length : Int) - (is.length : Int)) = (c : Int) := by omega
      rw [hisl', hisl, ec]
      have fin : ∀ H2 pr' tl', Row S H2 G is' → Sub S H2 → H2 pl = some (plc pr' (e + c)) → H2 pr' = some (.list (intl ((j:Int) :: tl'))) → tl'.length = tl.length + c → S pr' = none → Q (.bool true) H2 := fun H2 pr' tl' a1 a2 a3 a4 a5 a6 =>
        q1 gs is' H2 pr' tl' hsel hg1 hg3 a1 a2 hgm (by rw [hc]; have : ((c + 1 : Nat) : Int) - 1 = c := by omega
                                                        rw [this]; exact a3) a4 (by omega) a6
      rcases Nat.eq_zero_or_pos c with hc0 | hc0
      · subst hc0
        show if false = true then _ else _
        walk_at "ly"
        with_reducible refine' ex_nil ?_
        walk_at "ly"
        show if false = true then _ else _
        walk_at "ly"
        with_reducible refine' ex_nil ?_
        walk_at "ly"
        with_reducible refine' x_ret (P := DQ Q) ?_ ?r
        case r => exact fun _ _ _ h => h
        walk_at "ly"
        refine dq0 (fin H' pr tl R' hS' ?_ hr' (by omega) spr)
        have : e + ((0 : Nat) : Int) = e := by omega
        rw [this]; exact hp'
      · rw [decide_eq_true (show (0 : Int) < (c : Int) by omega)]
        walk_at "ly"
        rw [hil, decide_eq_false (show ¬ ((64 : Int) < (c : Int) + ((tl.length + 1 : Nat) : Int)) by omega)]
        walk_at "ly"
        with_reducible refine' ex_nil ?_
        walk_at "ly"
        have hne : ((c : Int) != 0) = true := by
          rw [bne_iff_ne]; omega
        rw [hne]
        walk_at "ly"
        with_reducible refine' k_call (c_move hp' hr' ?hl hc0 he ?_) ?hk
        case hk => exact Nat.le_add_left _ _
        case hl => omega
        intro pr' hpr' _
        have nep : pl ≠ pr' := fun z => by rw [← z, hp'] at hpr'; cases hpr'
        have spr' := sub_none hS' hpr'
        have fpl2 : Fgn G is' pl := fpl'
        have Rf := row_fgn (o := plc pr' (e + c)) (row_fresh (o := .list (intl ((j : Int) :: tlg j c tl))) R' hpr') fpl2
        walk_at "ly"
        with_reducible refine' ex_nil ?_
        walk_at "ly"
        with_reducible refine' x_ret (P := DQ Q) ?_ ?r
        case r => exact fun _ _ _ h => h
        walk_at "ly"
        refine dq0 (fin _ pr' (tlg j c tl) Rf (sub_old (sub_new hS' hpr') spl) (upd_self _ _ _) (h_old (Ne.symm nep) (upd_self _ _ _)) ?_ spr')
        unfold tlg
        simp; omega
end
end P17
section P18
noncomputable def act (P : Int → Option Int) (M : Int → Option (List Int)) (n : Int) : List Int → List Int
  | [] => []
  | g :: r => (sel P M n g).getD [g] ++ r
noncomputable def acts (P : Int → Option Int) (M : Int → Option (List Int)) (ns : List Int) (ps : List Int) : List Int := ns.foldl (fun ps n => act P M n ps) ps
theorem acts_snoc {P : Int → Option Int} {M : Int → Option (List Int)} {ns : List Int} {ps : List Int} {i : Nat} {n : Int} (h : ns[i]? = some n) : acts P M (ns.take (i + 1)) ps = act P M n (acts P M (ns.take i) ps) := by
  unfold acts
  rw [List.take_add_one, h, List.foldl_append]
  rfl
section
variable {w : World} {k : Nat} {S H : AH} {G : GA} {is : List (Addr × Inf)} {sc lo ta pl pr : Addr} {mask : Int} {j : Nat} {p : Addr × Inf} {Q : Value → AH → Prop} {P : Int → Option Int} {M : Int → Option (List Int)} {l : Addr} {ls : List Addr} {ns : List Int} {acs : List Addr}
structure Acs (S : AH) (ta : Addr) (acs : List Addr) (ns : List Int) : Prop where
  at_ : S ta = some (.tup (lrefs acs))
  len : acs.length = ns.length
  le : ns.length ≤ 3
  ac : ∀ (i : Nat) a, acs[i]? = some a → ∃ n, ns[i]? = some n ∧ S a = some (.tup [.int 0 0, .int n 0]) ∧ 1 ≤ n
theorem c_actions (hS : Sub S H) (T : Still S G) (R : Row S H G is) (K : Lks S G P M ls) (hsc : S sc = some (scn G lo mask 0)) (hat : Acs S ta acs ns) (hp : H pl = some (plc pr (j + 1))) (hr : H pr = some (.list (intl [(j:Int)]))) (spl : S pl = none) (spr : S pr = none) (hj : is[j]? = some p) (hlen : is.length + 10 < 90)
    (q : ∀ is' H', Row S H' G is' → Sub S H' → is'.map gm = (is.map gm).take j ++ (acts P M ns [p.2.g]).map (fun g => (g, p.2.m)) ++ (is.map gm).drop (j + 1) → Q (.int (j + (acts P M ns [p.2.g]).length) 0) H') : TC w (k + 9) (.ref 559) [.ref sc, .ref pl, .ref ta, .ref 693] Q H := by
  have hlt : j < is.length := (List.getElem?_eq_some_iff.mp hj).1
  have hta := hS _ _ hat.at_
  with_reducible refine' TC.drop (fn_559 ?_); intro L hL
  walk_at "lyb"
  walk_at "ly"
  with_reducible refine' e1_for ?_ ?hs
  case hs => intro _; exact rfl
  walk_at "ly"
  refine ⟨.tup ta, ns.length, fun i H' m => ∃ is' pr' tl' ps, ps = acts P M (ns.take i) [p.2.g] ∧ Row S H' G is' ∧ Sub S H' ∧ is'.map gm = (is.map gm).take j ++ ps.map (fun g => (g, p.2.m)) ++ (is.map gm).drop (j + 1) ∧ H' pl = some (plc pr' (j + ps.length)) ∧ H' pr' = some (.list (intl ((j:Int) :: tl'))) ∧ tl'.length + 1 = ps.length ∧ S pr' = none ∧ ps.length ≤ 1 + 2 * i ∧ i ≤ ns.length ∧ lkr m "scene" = some (.ref sc) ∧ lkr m "places" = some (.ref pl) ∧ lkr m "apply_at" = some (.ref 693), .tup hta, .inl fun _ _ => rfl, ⟨is, pr, [], [p.2.g], rfl, R, hS, ?_, hp, hr, rfl, spr, by simp, by omega, rfl, rfl, rfl⟩, ?_⟩
  · have hg : (is.map gm)[j]? = some (gm p) := by rw [List.getElem?_map, hj]; rfl
    have hl2 : j < (is.map gm).length := by simpa using hlt
    have := List.take_append_drop j (is.map gm)
    rw [List.drop_eq_getElem_cons hl2] at this
    rw [List.getElem?_eq_getElem hl2] at hg
    injection hg with hg
    rw [hg] at this
    show is.map gm = (is.map gm).take j ++ [gm p] ++ (is.map gm).drop (j + 1)
    rw [List.append_assoc]
    exact this.symm
  rintro i H' m ⟨is', pr', tl', ps, eps, R', hS', hgm, hp', hr', htl, spr', hpl, hi, l1, l2, l3⟩
  have hta' := hS' _ _ hat.at_
  have hp'' := hp'
  unfold plc at hp''
  refine ⟨(lrefs acs)[i]?, .tup hta' rfl, fun en => ?_, fun x ex => ?_⟩
  · have e2 : ns.length ≤ i := by
      unfold lrefs at en
      rw [List.getElem?_map] at en
      rw [← hat.len]
      exact List.getElem?_eq_none_iff.mp (Option.map_eq_none_iff.mp en)
    rw [List.take_of_length_le e2] at eps
    walk_at "ly"
    with_reducible refine' x_ret (P := DQ Q) ?_ ?r
    case r => exact fun _ _ _ h => h
    walk_at "ly"
    rw [eps]
    rw [eps] at hgm
    exact dq0 (q is' H' R' hS' hgm)
  · have e3 : ∃ a, acs[i]? = some a ∧ x = .ref a := by
      unfold lrefs at ex
      rw [List.getElem?_map] at ex
      obtain ⟨g, h1, h2⟩ := Option.map_eq_some_iff.mp ex
      exact ⟨g, h1, h2.symm⟩
    obtain ⟨a, ha, rfl⟩ := e3
    obtain ⟨n, hn, hac, hn1⟩ := hat.ac i a ha
    have hin := (List.getElem?_eq_some_iff.mp hn).1
    have hle := hat.le
    refine ⟨hin, ?_⟩
    have hs' := acts_snoc (P := P) (M := M) (ps := [p.2.g]) hn
    rw [← eps] at hs'
    cases ps with
    | nil => simp at htl
    | cons g' r =>
      have hA : ((is.map gm).take j).length = j := by simp; omega
      have hlen' : is'.length = j + (g' :: r).length + (is.length - (j + 1)) := by
        have := congrArg List.length hgm
        simp at this
        simp
        omega
      have hj' : ∃ p', is'[j]? = some p' ∧ p'.2.g = g' ∧ p'.2.m = p.2.m := by
        have h1 : (is'.map gm)[j]? = some (g', p.2.m) := by
          rw [hgm, List.append_assoc, List.getElem?_append_right (by omega), hA]
          simp
        rw [List.getElem?_map] at h1
        obtain ⟨p', h2, h3⟩ := Option.map_eq_some_iff.mp h1
        unfold gm at h3
        injection h3 with h3 h4
        exact ⟨p', h2, h3, h4⟩
      obtain ⟨p', hj', hg', hm'⟩ := hj'
      have hs2 : act P M n (g' :: r) = (sel P M n p'.2.g).getD [g'] ++ r := by unfold act; rw [hg']
      have et : (is'.map gm).take j = (is.map gm).take j := by
        rw [hgm, List.append_assoc, List.take_append_of_le_length (by omega), List.take_of_length_le (by omega)]
      have ed : (is'.map gm).drop (j + 1) = r.map (fun g => (g, p.2.m)) ++ (is.map gm).drop (j + 1) := by
        rw [hgm, List.append_assoc, List.drop_append, hA, List.drop_of_length_le (by omega)]
        have : j + 1 - j = 1 := by omega
        rw [this]
        rfl
      simp only [List.length_cons] at hpl hlen' htl
      walk_at "ly"
      with_reducible refine' k_call (c_action hS' T R' K hsc hac hn1 hp' hr' spl spr' ?htl ?he hj' ?hle2 ?qa ?qb) ?hk
      case hk => exact Nat.le_refl _
      case htl => omega
      case he => simp only [List.length_cons]; omega
      case hle2 => omega
      case qa =>
        intro hsel _
        have hs3 : acts P M (ns.take (i + 1)) [p.2.g] = g' :: r := by rw [hs', hs2, hsel]; rfl
        walk_at "ly"
        show if false = true then _ else _
        walk_at "ly"
        with_reducible refine' ex_nil ?_
        walk_at "ly"
        with_reducible refine' ex_nil ?_
        with_reducible refine' lq_next ?_
        exact ⟨is', pr', tl', g' :: r, hs3.symm, R', hS', hgm, hp', hr', by simp; omega, spr', by simp; omega, by omega, by walk_at "lyl", by walk_at "lyl", by walk_at "lyl"⟩
      case qb =>
        intro gs is2 H2 pr2 tl2 hsel hg1 hg3 R2 hS2 hgm2 hp2 hr2 htl2 spr2 _
        have hs3 : acts P M (ns.take (i + 1)) [p.2.g] = gs ++ r := by rw [hs', hs2, hsel]; rfl
        clear hp'' hp' hr'
        walk_at "ly"
        show if false = true then _ else _
        walk_at "ly"
        with_reducible refine' ex_nil ?_
        walk_at "ly"
        with_reducible refine' ex_nil ?_
        with_reducible refine' lq_next ?_
        refine ⟨is2, pr2, tl2, gs ++ r, hs3.symm, R2, hS2, ?_, ?_, hr2, ?_, spr2, ?_, by omega, by walk_at "lyl", by walk_at "lyl", by walk_at "lyl"⟩
        · rw [hgm2, et, ed, hm', List.map_append, List.append_assoc, List.append_assoc, List.append_assoc]
        · have : ((j : Int) + ((g' :: r).length : Int) + ((gs.length : Int) - 1)) = (j : Int) + ((gs ++ r).length : Int) := by
            simp only [List.length_cons, List.length_append]; omega
          rw [← this]; exact hp2
        · simp only [List.length_append]; omega
        · simp only [List.length_append]; omega
end
end P18
section P20
local macro_rules
  | `(tactic| walk_at "ly3") => `(tactic| ((with_reducible refine' it_list ?ha ?h0 ?hx ?hj ?_ ?ps); (case ha => walk_at "lyh"); (case hx => first | with_reducible assumption | exact rfl); (case h0 => first | decide | omega); (case hj => first | decide | omega); (case ps => (intro _ _; exact rfl))))
local macro_rules
  | `(tactic| walk_at "ly3") => `(tactic| ((with_reducible refine' it_tup ?ha ?h0 ?hx ?hj ?_ ?ps); (case ha => walk_at "lyh"); (case hx => exact rfl); (case h0 | hj => decide); (case ps => (intro _ _; exact rfl))))
section
variable {w : World} {k : Nat} {S H : AH} {G : GA} {is : List (Addr × Inf)} {sc lo ta tb : Addr} {mask : Int} {j : Nat} {p : Addr × Inf} {Q : Value → AH → Prop} {P : Int → Option Int} {M : Int → Option (List Int)} {l : Addr} {ls : List Addr} {ns : List Int} {acs : List Addr} {xs : List Int}
structure CtxA where
  sd : Addr
  sl : Addr
  ru : Addr
  e1 : Addr
  e2 : Addr
  i1 : Addr
  cv : Addr
  ct : Addr
  v1 : Value
  v3 : Value
  v4 : Value
structure Ctx (S : AH) (tb ta : Addr) (xs : List Int) (C : CtxA) : Prop where
  tb : S tb = some (.inst 467 [("form", .int 3 0), ("is_chained", C.v1), ("sets", .ref C.sd), ("coverage", C.v3), ("classes", C.v4)])
  sd : S C.sd = some (.dict [(0, .ref C.sl)])
  sl : S C.sl = some (.list [.ref C.ru])
  ru : S C.ru = some (.inst 426 [("back", .ref C.e1), ("inside", .ref C.i1), ("ahead", .ref C.e2), ("actions", .ref ta)])
  e1 : S C.e1 = some (.tup [])
  i1 : S C.i1 = some (.tup [.ref C.cv])
  e2 : S C.e2 = some (.tup [])
  cv : S C.cv = some (.inst 384 [("glyphs", .ref C.ct)])
  ct : S C.ct = some (.tup (intl xs))
  len : xs.length < 100
  srt : xs.Pairwise (· < ·)
theorem row_sub {S H H' : AH} {G : GA} {is : List (Addr × Inf)} (R : Row S H G is) (s : Sub H H') : Row S H' G is :=
  ⟨s _ _ R.rl, fun p hp => s _ _ (R.at_ p hp), R.ap, R.nr, R.ns, R.len⟩
theorem c_context {C : CtxA} (hS : Sub S H) (T : Still S G) (R : Row S H G is) (K : Lks S G P M ls) (hsc : S sc = some (scn G lo mask 0)) (hat : Acs S ta acs ns) (X : Ctx S tb ta xs C) (hj : is[j]? = some p) (hlen : is.length + 10 < 90)
    (q0 : p.2.g ∉ xs → Q (.int (-1) 0) H)
    (q1 : p.2.g ∈ xs → ∀ is' H', Row S H' G is' → Sub S H' → is'.map gm = (is.map gm).take j ++ (acts P M ns [p.2.g]).map (fun g => (g, p.2.m)) ++ (is.map gm).drop (j + 1) → Q (.int (j + (acts P M ns [p.2.g]).length) 0) H') : TC w (k + 10) (.ref 566) [.ref sc, .ref tb, .int j 0, .ref 693] Q H := by
  have T0 := T
  obtain ⟨t1, t2, t3, t4⟩ := T
  obtain ⟨g1, g2⟩ := row_get R hj
  have rl := R.rl
  have hlt : j < is.length := (List.getElem?_eq_some_iff.mp hj).1
  have h100 := R.len
  have g1' : (is.map fun p : Addr × Inf => Value.ref p.1)[(j : Int).toNat]? = some (.ref p.1) := g1
  have hscS := hsc
  unfold scn at hsc
  unfold ifs at g2
  with_reducible refine' TC.drop (fn_566 ?_); intro L hL
  walk_at "lyb"
  walk_at "ly"
  with_reducible refine' e1_for ?_ ?hs
  case hs => intro _; exact rfl
  walk_at "ly"
  with_reducible refine' k_call (c_rules_at (h_sub hS X.tb) (h_sub hS X.sd) (h_sub hS X.sl) (h_sub hS X.ru) (h_sub hS X.e1) (h_sub hS X.i1) (h_sub hS X.e2) (h_sub hS X.cv) (h_sub hS X.ct) X.len X.srt ?qa ?qb) ?hk
  case hk => exact Nat.le_add_left _ _
  case qa =>
    intro hg H1 a s1 ha _
    refine ⟨.list a, 1, fun i H' m => i = 0 ∧ H' = H1, .list ha, .inl fun _ _ => rfl, ⟨rfl, rfl⟩, ?_⟩
    rintro i H' m ⟨rfl, rfl⟩
    refine ⟨none, .list ha rfl, fun _ => ?_, fun x ex => by cases ex⟩
    walk_at "ly"
    with_reducible refine' x_ret (P := DQ Q) ?_ ?r
    case r => exact fun _ _ _ h => h
    walk_at "ly"
    exact dq s1 (q0 hg)
  case qb =>
    intro hg H1 a tt bk ins ts ah s1 ha htt hbk hins hts hah _
    refine ⟨.list a, 1, fun i H' m => i = 0 ∧ H' = H1 ∧ lkr m "scene" = some (.ref sc) ∧ lkr m "at" = some (.int j 0) ∧ lkr m "apply_at" = some (.ref 693), .list ha, .inl fun _ _ => rfl, ⟨rfl, rfl, rfl, rfl, rfl⟩, ?_⟩
    rintro i H' m ⟨rfl, rfl, l1, l2, l3⟩
    refine ⟨some (.ref tt), .list ha rfl, (fun e => by cases e), fun x ex => ⟨by omega, ?_⟩⟩
    cases ex
    have hS1 : Sub S H' := fun a o e => s1 _ _ (hS _ _ e)
    have R1 := row_sub R s1
    have hsc1 := hS1 _ _ hsc
    clear rl g2
    walk_at "ly"
    with_reducible refine' k_call (c_match hS1 T0 R1 (h_sub hS1 hscS) hj htt hbk hah hins hts (h_sub hS1 X.cv) (h_sub hS1 X.ct) X.len X.srt ?qa ?qb) ?hk
    case hk => exact Nat.le_add_left _ _
    case qa => intro hno; exact absurd hg hno
    case qb =>
      intro _ fa fb hfa hfb _
      walk_at "ly"
      show if true = true then _ else _
      walk_at "ly"
      have hS2 : Sub S (upd (upd H' fa (.list [.int j 0])) fb (.tup [.ref fa, .int j 0, .int j 0])) := sub_new (sub_new hS1 hfa) hfb
      have R2 : Row S (upd (upd H' fa (.list [.int j 0])) fb (.tup [.ref fa, .int j 0, .int j 0])) G is := row_fresh (row_fresh R1 hfa) hfb
      have sfa := sub_none hS1 hfa
      with_reducible refine' k_call (c_hang hS2 T0 R2 ?_) ?hk
      case hk => exact Nat.le_add_left _ _
      intro _
      have nab : fa ≠ fb := fun z => by rw [← z, upd_self] at hfb; cases hfb
      have hfa2 : upd (upd H' fa (.list [.int j 0])) fb (.tup [.ref fa, .int j 0, .int j 0]) fa = some (.list [.int j 0]) := h_old nab (upd_self _ _ _)
      walk_at "ly"
      with_reducible refine' x_ret (P := DQ Q) ?_ ?r
      case r => exact fun _ _ _ h => h
      walk_at "ly"
      have hzz : ([Value.int (j : Int) 0])[((-1 : Int) + (([Value.int (j : Int) 0]).length : Int)).toNat]? = some (.int j 0) := rfl
      with_reducible refine' it_neg ?ha ?h0 ?h1 ?hjj ?hx ?_ ?ps
      case ha => exact hfa2
      case h0 => decide
      case h1 => simp
      case hjj => decide
      case hx => exact hzz
      case ps => intro _ _; exact rfl
      walk_at "ly"
      with_reducible refine' k_call (n_places ?_) ?hk
      case hk => exact Nat.le_add_left _ _
      intro x hx _
      have spx := sub_none hS2 hx
      have hS3 := sub_new (o := plc fa ((j : Int) + 1)) hS2 hx
      have R3 := row_fresh (o := plc fa ((j : Int) + 1)) R2 hx
      have hp3 : upd (upd (upd H' fa (.list [.int j 0])) fb (.tup [.ref fa, .int j 0, .int j 0])) x (.inst 510 [("row", .ref fa), ("end", .int ((j : Int) + 1) 0)]) x = some (plc fa ((j : Int) + 1)) := upd_self _ _ _
      have hr3 : upd (upd (upd H' fa (.list [.int j 0])) fb (.tup [.ref fa, .int j 0, .int j 0])) x (.inst 510 [("row", .ref fa), ("end", .int ((j : Int) + 1) 0)]) fa = some (.list (intl [(j : Int)])) := h_fresh hx hfa2
      unfold plc at hS3 R3
      walk_at "ly"
      with_reducible refine' k_call (c_actions hS3 T0 R3 K hscS hat hp3 hr3 spx sfa hj hlen ?_) ?hk
      case hk => exact Nat.le_refl _
      intro is' H2 R4 hS4 hgm _
      exact dq0 (q1 hg is' H2 R4 hS4 hgm)
theorem c_chain {C : CtxA} {flag : Int} {ms : Value} {tbs : Addr} (hS : Sub S H) (T : Still S G) (R : Row S H G is) (K : Lks S G P M ls) (hsc : S sc = some (scn G lo mask 0)) (hlo : S lo = some (lkp "chain" flag ms tbs)) (htbs : S tbs = some (.list [.ref tb])) (hat : Acs S ta acs ns) (X : Ctx S tb ta xs C) (hj : is[j]? = some p) (hlen : is.length + 10 < 90)
    (q0 : p.2.g ∉ xs → Q (.int (-1) 0) H)
    (q1 : p.2.g ∈ xs → ∀ is' H', Row S H' G is' → Sub S H' → is'.map gm = (is.map gm).take j ++ (acts P M ns [p.2.g]).map (fun g => (g, p.2.m)) ++ (is.map gm).drop (j + 1) → Q (.int (j + (acts P M ns [p.2.g]).length) 0) H') : TC w (k + 12) (.ref 693) [.ref sc, .int j 0] Q H :=
  c_subst hS (hS _ _ hsc) hlo htbs (c_table_chain (k := k + 9) (c_context hS T R K hsc hat X hj hlen (fun hg => ⟨-1, rfl, hS, .inr ⟨by decide, q0 hg⟩⟩) fun hg is' H' a1 a2 a3 => ⟨_, rfl, a2, .inl ⟨by omega, q1 hg is' H' a1 a2 a3⟩⟩))
end
end P20
section P21
noncomputable def cond (flag mask : Int) (xs : List Int) (x : Int × Int) : Bool := (Builtin.bitAnd x.2 mask != 0 && !passed flag x.1) && decide (x.1 ∈ xs)
noncomputable def outp (P : Int → Option Int) (M : Int → Option (List Int)) (ns : List Int) (flag mask : Int) (xs : List Int) (x : Int × Int) : List (Int × Int) := if cond flag mask xs x = true then (acts P M ns [x.1]).map (fun g => (g, x.2)) else [x]
theorem Lks.le {S : AH} {G : GA} {P : Int → Option Int} {M : Int → Option (List Int)} {ls : List Addr} (K : Lks S G P M ls) (g : Int) (gs : List Int) (h : M g = some gs) : 1 ≤ gs.length ∧ gs.length ≤ 3 := by
  have hl : (3 : Int).toNat < ls.length := by rw [K.len]; decide
  have := K.lk 3 _ (by decide) (List.getElem?_eq_getElem hl)
  cases this with
  | three h1 h2 h3 h4 h5 => obtain ⟨pt, _, _, a, b⟩ := (h5 g).2 gs h; exact ⟨a, b⟩
theorem act_len {P : Int → Option Int} {M : Int → Option (List Int)} (hM : ∀ g gs, M g = some gs → 1 ≤ gs.length ∧ gs.length ≤ 3) (n : Int) (ps : List Int) : (act P M n ps).length ≤ ps.length + 2 := by
  cases ps with
  | nil => exact Nat.zero_le _
  | cons g r =>
    unfold act
    rw [List.length_append, List.length_cons]
    have : ((sel P M n g).getD [g]).length ≤ 3 := by
      unfold sel
      split
      · cases P g <;> simp
      · split
        · cases h : M g with
          | none => simp
          | some gs => exact (hM g gs h).2
        · simp
    omega
theorem acts_len {P : Int → Option Int} {M : Int → Option (List Int)} (hM : ∀ g gs, M g = some gs → 1 ≤ gs.length ∧ gs.length ≤ 3) : ∀ (ns : List Int) (ps : List Int), (acts P M ns ps).length ≤ ps.length + 2 * ns.length
  | [], ps => by unfold acts; simp
  | n :: ns, ps => by
    have h1 := act_len (P := P) hM n ps
    have h2 := acts_len (P := P) hM ns (act P M n ps)
    unfold acts at h2 ⊢
    rw [List.foldl_cons, List.length_cons]
    omega
theorem outp_len {P : Int → Option Int} {M : Int → Option (List Int)} (hM : ∀ g gs, M g = some gs → 1 ≤ gs.length ∧ gs.length ≤ 3) {ns : List Int} (hn : ns.length ≤ 3) (flag mask : Int) (xs : List Int) : ∀ l : List (Int × Int), (l.flatMap (outp P M ns flag mask xs)).length ≤ 7 * l.length
  | [] => by simp
  | x :: l => by
    have h1 := outp_len (P := P) hM hn flag mask xs l
    have h2 := acts_len (P := P) hM ns [x.1]
    have h3 : (outp P M ns flag mask xs x).length ≤ 7 := by
      unfold outp
      split
      · rw [List.length_map]; simp at h2; omega
      · simp
    rw [List.flatMap_cons, List.length_append, List.length_cons]
    omega
section
variable {w : World} {k : Nat} {S H : AH} {G : GA} {is : List (Addr × Inf)} {sc lo ta tb : Addr} {mask flag : Int} {j : Nat} {p : Addr × Inf} {Q : Value → AH → Prop} {P : Int → Option Int} {M : Int → Option (List Int)} {l : Addr} {ls : List Addr} {ns : List Int} {acs : List Addr} {xs : List Int} {C : CtxA} {ms : Value} {tbs : Addr}
theorem Still.mono {S S' : AH} (T : Still S G) (s : Sub S S') : Still S' G := ⟨s _ _ T.gd, s _ _ T.cd, s _ _ T.cdict, s _ _ T.bf⟩
theorem LkN.mono {S S' : AH} {n : Int} {l : Addr} (K : LkN S P M n l) (s : Sub S S') : LkN S' P M n l := by
  cases K with
  | one h1 h2 h3 h4 h5 => exact .one (s _ _ h1) (s _ _ h2) (s _ _ h3) (s _ _ h4) h5
  | two h1 h2 => exact .two (s _ _ h1) (s _ _ h2)
  | three h1 h2 h3 h4 h5 => exact .three (s _ _ h1) (s _ _ h2) (s _ _ h3) (s _ _ h4) fun g => ⟨(h5 g).1, fun gs h => let ⟨pt, a, b, c⟩ := (h5 g).2 gs h; ⟨pt, a, s _ _ b, c⟩⟩
theorem Lks.mono {S S' : AH} (K : Lks S G P M ls) (s : Sub S S') : Lks S' G P M ls := ⟨s _ _ K.at_, K.len, fun n l a b => (K.lk n l a b).mono s⟩
theorem Acs.mono {S S' : AH} (K : Acs S ta acs ns) (s : Sub S S') : Acs S' ta acs ns := ⟨s _ _ K.at_, K.len, K.le, fun i a h => let ⟨n, h1, h2, h3⟩ := K.ac i a h; ⟨n, h1, s _ _ h2, h3⟩⟩
theorem Ctx.mono {S S' : AH} (X : Ctx S tb ta xs C) (s : Sub S S') : Ctx S' tb ta xs C := ⟨s _ _ X.tb, s _ _ X.sd, s _ _ X.sl, s _ _ X.ru, s _ _ X.e1, s _ _ X.i1, s _ _ X.e2, s _ _ X.cv, s _ _ X.ct, X.len, X.srt⟩
theorem c_forward (hS : Sub S H) (T : Still S G) (R : Row S H G is) (K : Lks S G P M ls) (hsc : S sc = some (scn G lo mask 0)) (hlo : S lo = some (lkp "chain" flag ms tbs)) (htbs : S tbs = some (.list [.ref tb])) (hat : Acs S ta acs ns) (X : Ctx S tb ta xs C) (hf : flag = 0 ∨ flag = 2 ∨ flag = 8) (hlen : is.length ≤ 5)
    (q : ∀ is' H', Row S H' G is' → Sub S H' → is'.map gm = (is.map gm).flatMap (outp P M ns flag mask xs) → Q (.int ((is.map gm).countP (cond flag mask xs) : Nat) 0) H') : TC w (k + 13) (.ref 700) [.ref sc] Q H := by
  have hM := K.le
  have T0 := T
  obtain ⟨t1, t2, t3, t4⟩ := T
  with_reducible refine' TC.drop (fn_700 ?_); intro L hL
  walk_at "lyb"
  walk_at "ly"
  refine e1_while (fun n H' m => ∃ (is' : List (Addr × Inf)) (dn rest : List (Int × Int)), is.map gm = dn ++ rest ∧ n = rest.length ∧ Row S H' G is' ∧ Sub S H' ∧ is'.map gm = dn.flatMap (outp P M ns flag mask xs) ++ rest ∧ lkr m "count" = some (.int (dn.countP (cond flag mask xs) : Nat) 0) ∧ lkr m "at" = some (.int ((dn.flatMap (outp P M ns flag mask xs)).length : Nat) 0) ∧ lkr m "scene" = some (.ref sc)) is.length ⟨is, [], is.map gm, rfl, by simp, R, hS, rfl, rfl, rfl, rfl⟩ ?_
  rintro n H' m ⟨is', dn, rest, e1, e2, R', hS', e3, l1, l2, l3⟩
  have rl' := R'.rl
  have h100 := R'.len
  have hisl : (is'.map fun p : Addr × Inf => Value.ref p.1).length = is'.length := by simp
  have hlen' : is'.length = (dn.flatMap (outp P M ns flag mask xs)).length + rest.length := by
    have := congrArg List.length e3
    simpa using this
  have hdl : dn.length + rest.length = is.length := by
    have := congrArg List.length e1
    simp at this; omega
  have h7 := outp_len (P := P) hM hat.le flag mask xs dn
  have hsc' := hS' _ _ hsc
  have hscF := hsc'
  unfold scn at hsc'
  generalize hj : (dn.flatMap (outp P M ns flag mask xs)).length = j at l2 hlen' h7
  walk_at "ly"
  rw [hisl]
  cases rest with
  | nil =>
    rw [decide_eq_false (by simp at hlen'; omega)]
    walk_at "ly"
    with_reducible refine' x_ret (P := DQ Q) ?_ ?r
    case r => exact fun _ _ _ h => h
    walk_at "ly"
    rw [List.append_nil] at e1 e3
    refine dq0 ?_
    have := q is' H' R' hS' (by rw [e3, e1])
    rw [e1] at this
    exact this
  | cons x rest =>
    rw [decide_eq_true (by simp at hlen'; omega)]
    obtain ⟨p, hp, hpx⟩ : ∃ p, is'[j]? = some p ∧ gm p = x := by
      have : (is'.map gm)[j]? = some x := by
        rw [e3, List.getElem?_append_right (by omega), hj]
        simp
      rw [List.getElem?_map] at this
      exact Option.map_eq_some_iff.mp this
    have hpg : p.2.g = x.1 := by rw [← hpx]; rfl
    have hpm : p.2.m = x.2 := by rw [← hpx]; rfl
    walk_at "ly"
    have e1' : is.map gm = (dn ++ [x]) ++ rest := by rw [e1, List.append_assoc]; rfl
    have hfl : (dn ++ [x]).flatMap (outp P M ns flag mask xs) = dn.flatMap (outp P M ns flag mask xs) ++ outp P M ns flag mask xs x := by rw [List.flatMap_append]; simp
    have stay : ∀ (m' : Lc) (H2 : AH), Sub H' H2 → cond flag mask xs x = false → lkr m' "count" = some (.int (dn.countP (cond flag mask xs) : Nat) 0) → lkr m' "at" = some (.int (j + 1) 0) → lkr m' "scene" = some (.ref sc) →
        ∃ n', n' < n ∧ ∃ (is' : List (Addr × Inf)) (dn rest : List (Int × Int)), is.map gm = dn ++ rest ∧ n' = rest.length ∧ Row S H2 G is' ∧ Sub S H2 ∧ is'.map gm = dn.flatMap (outp P M ns flag mask xs) ++ rest ∧ lkr m' "count" = some (.int (dn.countP (cond flag mask xs) : Nat) 0) ∧ lkr m' "at" = some (.int ((dn.flatMap (outp P M ns flag mask xs)).length : Nat) 0) ∧ lkr m' "scene" = some (.ref sc) := by
      intro m' H2 s2 hc a1 a2 a3
      have ho : outp P M ns flag mask xs x = [x] := by unfold outp; rw [hc]; rfl
      refine ⟨rest.length, by rw [e2]; simp, is', dn ++ [x], rest, e1', rfl, row_sub R' s2, fun a o e => s2 _ _ (hS' _ _ e), ?_, ?_, ?_, a3⟩
      · rw [hfl, ho, e3, List.append_assoc]; rfl
      · rw [List.countP_append, List.countP_singleton, hc]; exact a1
      · rw [hfl, ho, List.length_append, hj]; exact a2
    with_reducible refine' k_call (c_takes hS' T0 R' hscF hlo hf hp ?_) ?hk
    case hk => exact Nat.le_add_left _ _
    intro _
    walk_at "ly"
    refine ifc (fun ht => ?_) (fun ht => ?_)
    · walk_at "ly"
      with_reducible refine' k_call (c_chain hS' T0 R' K hsc hlo htbs hat X hp ?hle ?qa ?qb) ?hk
      case hk => exact Nat.le_refl _
      case hle => simp only [List.length_cons] at hlen' hdl; omega
      case qa =>
        intro hg _
        walk_at "ly"
        show if true = true then _ else _
        walk_at "ly"
        with_reducible refine' ex_nil ?_
        walk_at "ly"
        with_reducible refine' ex_nil ?_
        with_reducible refine' lq_next ?_
        refine stay _ _ Sub.rfl' ?_ (by walk_at "lyl") (by walk_at "lyl") (by walk_at "lyl")
        unfold cond
        rw [← hpg, decide_eq_false hg, Bool.and_false]
      case qb =>
        intro hg is2 H2 R2 hS2 hgm _
        have hc : cond flag mask xs x = true := by
          unfold cond
          rw [← hpg, ← hpm, decide_eq_true hg, ht]; rfl
        have ho : outp P M ns flag mask xs x = (acts P M ns [p.2.g]).map (fun g => (g, p.2.m)) := by unfold outp; rw [hc, hpg, hpm]; rfl
        walk_at "ly"
        rw [decide_eq_false (show ¬ ((j : Int) + ((acts P M ns [p.2.g]).length : Int) < 0) by omega)]
        walk_at "ly"
        with_reducible refine' ex_nil ?_
        walk_at "ly"
        with_reducible refine' ex_nil ?_
        with_reducible refine' lq_next ?_
        refine ⟨rest.length, by rw [e2]; simp, is2, dn ++ [x], rest, e1', rfl, R2, hS2, ?_, ?_, ?_, by walk_at "lyl"⟩
        · rw [hgm, hfl, ho, e3, List.take_append_of_le_length (by omega), List.take_of_length_le (by omega), List.drop_append, List.drop_of_length_le (by omega), hj]
          have : j + 1 - j = 1 := by omega
          rw [this]
          rfl
        · have : ((dn ++ [x]).countP (cond flag mask xs) : Nat) = dn.countP (cond flag mask xs) + 1 := by
            rw [List.countP_append, List.countP_singleton, hc]; rfl
          rw [this]
          have e9 : (((dn.countP (cond flag mask xs) + 1 : Nat)) : Int) = ((dn.countP (cond flag mask xs) : Nat) : Int) + 1 := by omega
          rw [e9]
          walk_at "lyl"
        · rw [hfl, ho, List.length_append, hj, List.length_map]
          have e9 : ((j + (acts P M ns [p.2.g]).length : Nat) : Int) = (j : Int) + ((acts P M ns [p.2.g]).length : Int) := by omega
          rw [e9]
          walk_at "lyl"
    · walk_at "ly"
      show if true = true then _ else _
      walk_at "ly"
      with_reducible refine' ex_nil ?_
      walk_at "ly"
      with_reducible refine' ex_nil ?_
      with_reducible refine' lq_next ?_
      refine stay _ _ Sub.rfl' ?_ (by walk_at "lyl") (by walk_at "lyl") (by walk_at "lyl")
      unfold cond
      rw [← hpg, ← hpm, ht]; rfl
local macro_rules
  | `(tactic| walk_at "ly3") => `(tactic| ((with_reducible refine' it_list ?ha ?h0 ?hx ?hj ?_ ?ps); (case ha => walk_at "lyh"); (case hx => first | with_reducible assumption | exact rfl); (case h0 => first | decide | omega); (case hj => first | decide | omega); (case ps => (intro _ _; exact rfl))))
theorem c_run (hS : Sub S H) (T : Still S G) (R : Row S H G is) (K : Lks S G P M ls) (hl0 : ls[0]? = some lo) (hlo : S lo = some (lkp "chain" flag ms tbs)) (htbs : S tbs = some (.list [.ref tb])) (hat : Acs S ta acs ns) (X : Ctx S tb ta xs C) (hf : flag = 0 ∨ flag = 2 ∨ flag = 8) (hlen : is.length ≤ 5)
    (q : ∀ is' H', Row S H' G is' → Sub S H' → is'.map gm = (is.map gm).flatMap (outp P M ns flag mask xs) → Q (.int ((is.map gm).countP (cond flag mask xs) : Nat) 0) H') : TC w (k + 14) (.ref 714) [.ref G.bf, .ref G.gd, .ref G.lks, .int 0 0, .int mask 0] Q H := by
  have hls := K.at_
  have hx0 : (lrefs ls)[(0 : Int).toNat]? = some (.ref lo) := by
    unfold lrefs
    show (ls.map fun a => Value.ref a)[0]? = _
    rw [List.getElem?_map, hl0]; rfl
  with_reducible refine' TC.drop (fn_714 ?_); intro L hL
  walk_at "lyb"
  walk_at "ly"
  with_reducible refine' k_call (n_scene1 ?_) ?hk
  case hk => exact Nat.le_add_left _ _
  intro x hx _
  have sx := sub_none hS hx
  have s0 : Sub S (upd S x (scn G lo mask 0)) := sub_new Sub.rfl' sx
  have s1 : Sub (upd S x (scn G lo mask 0)) (upd H x (scn G lo mask 0)) := sub_cong hS
  have R1 : Row (upd S x (scn G lo mask 0)) (upd H x (scn G lo mask 0)) G is := by
    have hn : ∀ a o, H a = some o → S a = none → upd S x (scn G lo mask 0) a = none := fun a o e h => by
      rw [upd_ne]; exact h
      rintro rfl; rw [hx] at e; cases e
    exact ⟨h_fresh hx R.rl, fun p hp => h_fresh hx (R.at_ p hp), R.ap, hn _ _ R.rl R.nr, fun p hp => hn _ _ (R.at_ p hp) (R.ns p hp), R.len⟩
  have hscx : upd H x (.inst 65 [("buffer", .ref G.bf), ("gdef", .ref G.gd), ("lookups", .ref G.lks), ("lookup", .ref lo), ("mask", .int mask 0), ("depth", .int 0 0)]) x = some (.inst 65 [("buffer", .ref G.bf), ("gdef", .ref G.gd), ("lookups", .ref G.lks), ("lookup", .ref lo), ("mask", .int mask 0), ("depth", .int 0 0)]) := upd_self _ _ _
  have hlo1 : upd H x (.inst 65 [("buffer", .ref G.bf), ("gdef", .ref G.gd), ("lookups", .ref G.lks), ("lookup", .ref lo), ("mask", .int mask 0), ("depth", .int 0 0)]) lo = some (.inst 43 [("kind", .str "chain" 0), ("flag", .int flag 0), ("mark_set", ms), ("tables", .ref tbs)]) := h_fresh hx (hS _ _ hlo)
  walk_at "ly"
  show if false = true then _ else _
  walk_at "ly"
  with_reducible refine' ex_nil ?_
  walk_at "ly"
  with_reducible refine' x_ret (P := DQ Q) ?_ ?r
  case r => exact fun _ _ _ h => h
  walk_at "ly"
  unfold scn at s1 R1 s0
  with_reducible refine' k_call (c_forward s1 (T.mono s0) R1 (K.mono s0) (upd_self _ _ _) (h_sub s0 hlo) (h_sub s0 htbs) (hat.mono s0) (X.mono s0) hf hlen ?_) ?hk
  case hk => exact Nat.le_refl _
  intro is' H' R' hS' hgm _
  exact dq0 (q is' H' ⟨R'.rl, R'.at_, R'.ap, sub_none s0 R'.nr, fun p hp => sub_none s0 (R'.ns p hp), R'.len⟩ (fun a o e => hS' _ _ (s0 _ _ e)) hgm)
end
end P21
section P22
theorem bm4 (w : World) : BmOk w 4 := ⟨boot_o_4 w.params, by kernel_rfl, by decide, by decide, by kernel_rfl, by kernel_rfl, by kernel_rfl, by kernel_rfl⟩
theorem hd823 (w : World) : ∀ h, (KK PW w.params).In h → CodeHd h 823 819 := fun h X =>
  ⟨_, _, _, _, _, _, _, _, _, X 823 Mine.o823 (by kernel_rfl), rfl, rfl, rfl, rfl, rfl, rfl, rfl, rfl, by decide⟩
noncomputable def tkS : Stmt := ((fB (st PW 97))[3]?).getD (.Pass ⟨0, 0, 0, 0⟩)
noncomputable def tkn : Str := "take"
noncomputable def tkq : Str := "_law_taker.<locals>.take"
structure Tk (S : AH) (f pl : Addr) (ns : List Int) : Prop where
  fn : ∃ c' oc vs t doc pm ctv cc pc cl, S f = some (.raw (fnMade tkn tkq (fA tkS) (fB tkS) (fS tkS) [("place", pc), ("cells", cc)] doc pm c' ctv)) ∧ S c' = some (.raw oc) ∧ oc.data = .fields vs ∧ vs[1]? = some (.str tkq t)  ∧
    S cc = some (.cell (some (.ref cl))) ∧ S pc = some (.cell (some (.ref pl))) ∧ S cl = some (.list (intl ns))
  ne : ns ≠ []
  le : ns.length ≤ 63
  pl : S pl = none
section
variable {w : World} {k : Nat} {S H : AH} {Q : Value → AH → Prop}
theorem it_slice_raw {env : Env} {m : Lc} {Q : Value → AH → Lc → Prop} {value slice : Expr} {a sl : Addr} {xs : List Value} {l u l' u' : Value} {lo hi : Option Int} {so : Obj} {vs : Array Value} (ha : H a = some (.raw so)) (hc : so.cls = .type "list") (hd : ∃ n, so.data = .seq vs n) (em : vs.toList.map nv = xs) (hs : H sl = some (.raw (sliceObj l' u'))) (el : nv l' = l) (eu : nv u' = u) (pl : PT l lo) (pu : PT u hi) (hz : xs.length ≤ 1000)
    (ps : ∀ o i, subscripted slice false o i = operate [i, o] (getItem o i)) (q : ∀ c, H c = none → c ≠ env.locals → Q (.ref c) (upd H c (.list (cut xs lo hi))) m) : IT w k env value slice (.ref a) (.ref sl) Q H m := by
  intro z v e1 e2 A s b E hr hb hf
  rw [nv_ref e1, nv_ref e2]
  obtain ⟨dx, R, e⟩ := hf.at_ ha
  obtain ⟨_, _, es⟩ := hf.at_ hs
  have es' : s.heap.get? sl = some (sliceObj l' u') := es
  have e' : s.heap.get? a = some so := e
  have hlen := map_len em
  have hvs : vs.toList.toArray = vs := Array.toArray_toList
  have hL : s.heap.IsList a vs := ⟨so, e', hc, hd⟩
  obtain ⟨f1, f2, f3⟩ := hf.push (ob := { cls := .type "list", data := .seq (slicePick vs lo hi none) }) (o := .list (cut xs lo hi)) (fun C fs z => by cases z) fun dx => ⟨(slicePick vs lo hi none).toList, 0, by rw [Heap.get?_push_size _ rfl], by
    have := cut_map vs.toList lo hi
    rw [hvs] at this
    rw [this, em]⟩
  exact tail_any hL.typeIs slot_list_getitem.lookup (wpAny_getItem_list_slice hL ⟨_, es', rfl, rfl⟩ (pl.part el) (pu.part eu) .none (by simp) ⟨_, m, _, s.toks, rfl, f3, q _ f1 f2⟩ (by rw [← hvs, List.size_toArray, hlen]; exact Nat.le_trans hz (by decide))) (ps _ _)
local macro_rules
  | `(tactic| walk_at "ly3") => `(tactic| (((with_reducible refine' it_slice_raw ?ha ?hcl ?hdt ?em ?hs ?el ?eu ?pl ?pu ?hz ?ps ?_); (case ha => walk_at "lyh"); (case hcl | hdt | em => with_reducible assumption); (case hs => walk_at "lyh"); (case el | eu => with_reducible assumption); (case pl => first | exact PT.none | exact PT.int _); (case pu => first | exact PT.none | exact PT.int _); (case hz => with_reducible assumption); (case ps => (intro _ _; exact rfl))); intro _ _ _))
theorem c_taker {sc : Addr} {ns : List Int} {so : Obj} {vs : Array Value} (hP : H 819 = some (.raw (tabObj #[]))) (hs : H sc = some (.raw so)) (hsc : so.cls = .type "list") (hsd : ∃ n, so.data = .seq vs n) (hsv : vs.toList.map nv = intl ns) (hl : ns.length ≤ 63)
    (q : ∀ H' f pl ms ps, (∀ a o, a ≠ 819 → H a = some o → H' a = some o) → H' 819 = some (.raw (tabObj ps)) → Tk (fun a => if a = pl then none else H' a) f pl ms → H' pl = some (.list [.int 0 0]) → H pl = none → Q (.ref f) H') : TC w (k + 1) (.ref 824) [.ref sc] Q H := by
  with_reducible refine' TC.drop (fn_824 ?_); intro L hL
  have hL1 : H (L + 1) = none := hL 1
  have hL2 : upd H (L + 1) (.cell none) (L + 2) = none := by rw [upd_ne _ _ (Nat.ne_of_gt (Nat.lt_succ_self _))]; exact hL 2
  have hil : (intl ns).length ≤ 1000 := by simp [intl]; omega
  have rest : ∀ (H1 : AH) (cl : Addr) (ms : List Int), (∀ a o, H a = some o → H1 a = some o) → H1 (L + 1) = some (.cell (some (.ref cl))) → H1 (L + 2) = some (.cell none) → H1 cl = some (.list (intl ms)) → ms ≠ [] → ms.length ≤ 63 →
      EX w k (env_824 L) ((fB (st PW 97)).drop 2) (fun fl H1 _ => ∃ H', Sub H' H1 ∧ DQ Q (retOf fl) H') H1 [("script", .ref sc)] := by
    intro H1 cl ms s1 hc1 hc2 hcl hne hml
    have hP1 := s1 _ _ hP
    walk_at "lyb"
    walk_at "ly"
    rename_i pl hpl hplL
    have nPL : 819 ≠ L + 2 := fun z => by rw [z, hc2] at hP1; cases hP1
    have nPp : 819 ≠ pl := fun z => by rw [z, hpl] at hP1; cases hP1
    have nLp : pl ≠ L + 2 := fun z => by rw [z, hc2] at hpl; cases hpl
    have n12 : L + 1 ≠ L + 2 := Nat.ne_of_lt (Nat.lt_succ_self _)
    have n1p : L + 1 ≠ pl := fun z => by rw [← z, hc1] at hpl; cases hpl
    have nclp : cl ≠ pl := fun z => by rw [← z, hcl] at hpl; cases hpl
    have ncl2 : cl ≠ L + 2 := fun z => by rw [z, hc2] at hcl; cases hcl
    have hP2 : upd (upd H1 pl (.list [.int 0 0])) (L + 2) (.cell (some (.ref pl))) 819 = some (.raw (tabObj #[])) := h_old nPL (h_old nPp hP1)
    have hp2 : upd (upd H1 pl (.list [.int 0 0])) (L + 2) (.cell (some (.ref pl))) pl = some (.list [.int 0 0]) := h_old nLp (upd_self _ _ _)
    have h12 : upd (upd H1 pl (.list [.int 0 0])) (L + 2) (.cell (some (.ref pl))) (L + 1) = some (.cell (some (.ref cl))) := h_old n12 (h_old n1p hc1)
    have h22 : upd (upd H1 pl (.list [.int 0 0])) (L + 2) (.cell (some (.ref pl))) (L + 2) = some (.cell (some (.ref pl))) := upd_self _ _ _
    have hcl2 : upd (upd H1 pl (.list [.int 0 0])) (L + 2) (.cell (some (.ref pl))) cl = some (.list (intl ms)) := h_old ncl2 (h_old nclp hcl)
    have hHp : H pl = none := by
      cases e : H pl with
      | none => rfl
      | some o => rw [s1 _ _ e] at hpl; cases hpl
    have s2 : ∀ a o, H a = some o → upd (upd H1 pl (.list [.int 0 0])) (L + 2) (.cell (some (.ref pl))) a = some o := fun a o e => by
      have e1 := s1 _ _ e
      refine h_old (fun z => ?_) (h_old (fun z => ?_) e1)
      · rw [z] at e; have := hL 2; rw [this] at e; cases e
      · rw [z, hpl] at e1; cases e1
    with_reducible refine' e1_def ?hd0 ?hk0 ?ha ?hcl ?hg0 ?hcode ?hC ?hPP ?hbm ?_
    case hd0 => exact rfl
    case hk0 => exact rfl
    case ha => exact rfl
    case hcl => exact rfl
    case hg0 => exact rfl
    case hcode => exact rfl
    case hC => exact hd823 w
    case hPP => exact hP2
    case hbm => exact bm4 w
    intro f c' oc vs t ctv doc ps pm hf hfL hc' hcL' hfc hfP hcP hd hv
    with_reducible refine' st_loc ?q ?hl ?hk
    case hl => exact rfl
    case hk => exact rfl
    case q =>
      walk_at "ly"
      with_reducible refine' x_ret (P := fun v H1 => ∃ H', Sub H' H1 ∧ DQ Q v H') ?_ ?r
      case r => exact fun _ _ _ h => h
      walk_at "ly"
      have keep : ∀ a o, a ≠ 819 → upd (upd H1 pl (.list [.int 0 0])) (L + 2) (.cell (some (.ref pl))) a = some o → ∀ o1 o2 o3, upd (upd (upd (upd (upd H1 pl (.list [.int 0 0])) (L + 2) (.cell (some (.ref pl)))) 819 o1) c' o2) f o3 a = some o := fun a o n e o1 o2 o3 => by
        refine h_old (fun z => ?_) (h_old (fun z => ?_) (h_old n e))
        · rw [z] at e; rw [hf] at e; cases e
        · rw [z] at e; rw [hc'] at e; cases e
      refine ⟨_, Sub.rfl', dq0 (q _ f pl ms ps (fun a o n e => keep a o n (s2 a o e) _ _ _) ?_ ⟨⟨c', oc, vs, t, doc, pm, ctv, L + 1, L + 2, cl, ?_, ?_, hd, hv, ?_, ?_, ?_⟩, hne, hml, ?_⟩ ?_ hHp)⟩
      · exact h_old (Ne.symm hfP) (h_old (Ne.symm hcP) (upd_self _ _ _))
      · rw [if_neg (fun z => by rw [z, hp2] at hf; cases hf)]; exact upd_self _ _ _
      · rw [if_neg (fun z => by rw [z, hp2] at hc'; cases hc')]; exact h_old (Ne.symm hfc) (upd_self _ _ _)
      · rw [if_neg n1p]; exact keep _ _ (fun z => by rw [z, hP2] at h12; cases h12) h12 _ _ _
      · rw [if_neg (Ne.symm nLp)]; exact keep _ _ (Ne.symm nPL) h22 _ _ _
      · rw [if_neg nclp]; exact keep _ _ (fun z => by rw [z, hP2] at hcl2; cases hcl2) hcl2 _ _ _
      · exact if_pos rfl
      · exact keep _ _ (Ne.symm nPp) hp2 _ _ _
  walk_at "lyb"
  walk_at "ly"
  rename_i c1 l' u' el eu hc1 hc1L c2 hc2 hc2L l0 l1 l2
  have nL12 : L + 1 ≠ L + 2 := Nat.ne_of_lt (Nat.lt_succ_self _)
  have b1 : upd (upd H (L + 1) (.cell none)) (L + 2) (.cell none) (L + 1) = some (.cell none) := h_fresh hL2 (upd_self _ _ _)
  have b2 : upd (upd H (L + 1) (.cell none)) (L + 2) (.cell none) (L + 2) = some (.cell none) := upd_self _ _ _
  have b1' := h_fresh (o' := .raw (sliceObj l' u')) hc1 b1
  have b2' := h_fresh (o' := .raw (sliceObj l' u')) hc1 b2
  have n1 : c2 ≠ L + 1 := fun z => by rw [z, b1'] at hc2; cases hc2
  have n2 : c2 ≠ L + 2 := fun z => by rw [z, b2'] at hc2; cases hc2
  have keep : ∀ a o, H a = some o → a ≠ L + 1 ∧ upd (upd (upd (upd (upd (upd H (L + 1) (.cell none)) (L + 2) (.cell none)) c1 (.raw (sliceObj l' u'))) c2 (.list (cut (intl ns) none (some 63)))) (L + 1) (.cell (some (.ref c2)))) l0 (.list []) a = some o := fun a o e => by
    have na : a ≠ L + 1 := fun z => by rw [z, hL1] at e; cases e
    exact ⟨na, h_fresh l1 (h_old na (h_fresh hc2 (h_fresh hc1 (h_fresh hL2 (h_fresh hL1 e)))))⟩
  have k1 : upd (upd (upd (upd (upd (upd H (L + 1) (.cell none)) (L + 2) (.cell none)) c1 (.raw (sliceObj l' u'))) c2 (.list (cut (intl ns) none (some 63)))) (L + 1) (.cell (some (.ref c2)))) l0 (.list []) c2 = some (.list (cut (intl ns) none (some 63))) := h_fresh l1 (h_old n1 (upd_self _ _ _))
  have k2 : upd (upd (upd (upd (upd (upd H (L + 1) (.cell none)) (L + 2) (.cell none)) c1 (.raw (sliceObj l' u'))) c2 (.list (cut (intl ns) none (some 63)))) (L + 1) (.cell (some (.ref c2)))) l0 (.list []) (L + 2) = some (.cell none) := h_fresh l1 (h_old (Ne.symm nL12) (h_fresh hc2 b2'))
  have k3 : upd (upd (upd (upd (upd (upd H (L + 1) (.cell none)) (L + 2) (.cell none)) c1 (.raw (sliceObj l' u'))) c2 (.list (cut (intl ns) none (some 63)))) (L + 1) (.cell (some (.ref c2)))) l0 (.list []) (L + 1) = some (.cell (some (.ref c2))) := h_fresh l1 (upd_self _ _ _)
  have ecut : cut (intl ns) none (some 63) = intl (ns.take 63) := by
    have := cut_upto (intl ns) 63
    refine this.trans ?_
    unfold intl; rw [List.map_take]
  with_reducible refine' cm_eq_nil ?ha ?hc ?_
  case ha => exact k1
  case hc => exact upd_self _ _ _
  refine ⟨_, rfl, ?_⟩
  rw [ecut] at k1 k2 k3 keep ⊢
  generalize upd (upd (upd (upd (upd (upd H (L + 1) (.cell none)) (L + 2) (.cell none)) c1 (.raw (sliceObj l' u'))) c2 (.list (intl (ns.take 63)))) (L + 1) (.cell (some (.ref c2)))) l0 (.list []) = H3 at k1 k2 k3 keep ⊢
  cases hn : ns.take 63 with
  | nil =>
    show if true = true then _ else _
    walk_at "ly"
    rename_i c4 hc4 hc4L
    with_reducible refine' ex_nil ?_
    with_reducible refine' nx_next ?_
    have hc41 : c4 ≠ L + 1 := fun z => by rw [z, k3] at hc4; cases hc4
    with_reducible refine' ex_body ?e (rest _ c4 [1] (fun a o e => h_old (keep a o e).1 (h_fresh hc4 (keep a o e).2)) (upd_self _ _ _) (h_old (Ne.symm nL12) (h_fresh hc4 k2)) (h_old hc41 (upd_self _ _ _)) (by simp) (by simp))
    case e => exact rfl
  | cons x r =>
    show if false = true then _ else _
    walk_at "ly"
    with_reducible refine' ex_nil ?_
    with_reducible refine' nx_next ?_
    rw [hn] at k1
    with_reducible refine' ex_body ?e (rest _ c2 (x :: r) (fun a o e => (keep a o e).2) k3 k2 k1 (by simp) (by rw [← hn, List.length_take]; omega))
    case e => exact rfl
end
end P22
section P23
local macro_rules
  | `(tactic| walk_at "ly3") => `(tactic| ((with_reducible refine' it_list ?ha ?h0 ?hx ?hj ?_ ?ps); (case ha => walk_at "lyh"); (case hx => first | with_reducible assumption | exact rfl); (case h0 => first | decide | omega); (case hj => first | decide | omega); (case ps => (intro _ _; exact rfl))))
local macro_rules
  | `(tactic| walk_at "ly3") => `(tactic| ((with_reducible refine' si_list ?ha ?h0 ?hj ?hn ?_); (case ha => walk_at "lyh"); (case h0 | hj | hn => decide)))
theorem noPy (x : Int) (l : Nat) (h : l ≤ 400) : Builtin.divisionGoesByPylong x ((720720 : Int) ^ l) = false := by
  refine PyProof.noPylong_of_log2 ?_
  rw [Int.natAbs_pow]
  have h0 : (720720 : Int).natAbs = 720720 := rfl
  rw [h0]
  have hp : 720720 ^ l ≠ 0 := Nat.ne_of_gt (Nat.pow_pos (by decide))
  have h1 : 720720 ^ l ≤ (2 ^ 20) ^ l := Nat.pow_le_pow_left (by decide) l
  have h2 : (2 ^ 20) ^ l = 2 ^ (20 * l) := (Nat.pow_mul 2 20 l).symm
  have h3 : (720720 ^ l).log2 < 20 * l + 1 := (Nat.log2_lt hp).mpr (by
    rw [h2] at h1
    exact Nat.lt_of_le_of_lt h1 (Nat.pow_lt_pow_right (by decide) (Nat.lt_succ_self _)))
  omega
theorem intl_at' {xs : List Int} {j : Int} {y : Int} (h0 : 0 ≤ j) (h : xs[j.toNat]? = some y) : (intl xs)[j.toNat]? = some (.int y 0) := by unfold intl; rw [List.getElem?_map, h]; rfl
section
variable {w : World} {k : Nat} {S H : AH} {Q : Value → AH → Prop} {f pl : Addr} {ns : List Int} {k0 lim : Int}
theorem c_take (T : Tk S f pl ns) (hS : Sub S H) (hp : H pl = some (.list [.int k0 0])) (hk0 : 0 ≤ k0) (hk1 : k0 < 400) (hlim : 0 < lim) (hlim2 : lim < 1000)
    (q : ∀ v, 0 ≤ v → v < lim → Q (.int v 0) (upd H pl (.list [.int (k0 + 1) 0]))) : TC w (k + 1) (.ref f) [.int lim 0] Q H := by
  obtain ⟨c', oc, vs, t, doc, pm, ctv, cc, pc, cl, h1, h2, h3, h4, h5, h6, h7⟩ := T.fn
  have hne := T.ne
  have hle := T.le
  have e1 := hS _ _ h1
  have e2 := hS _ _ h2
  have e5 := hS _ _ h5
  have e6 := hS _ _ h6
  have e7 := hS _ _ h7
  have hnl : 0 < ns.length := List.length_pos_iff.mpr hne
  have hil : (intl ns).length = ns.length := by simp [intl]
  have hcl : cl ≠ pl := fun z => by have := T.pl; rw [← z, h7] at this; cases this
  with_reducible refine' TC.drop (tc_raw e1 e2 h3 h4 ?hcell ?hbind ?hm (m0 := [("limit", .int lim 0)]) ?h ?hco ?hgen ?hk)
  case hcell => exact rfl
  case hm => exact rfl
  case hco => exact rfl
  case hgen => exact rfl
  case hk => exact rfl
  case hbind =>
    intro us e
    obtain ⟨u0, us, rfl, e0, e⟩ := map_cons e
    cases map_nil' e
    exact ⟨[("limit", u0)], fun s _ => BindsTo.of_eq (by kernel_rfl), by rw [← e0]; rfl⟩
  case h =>
    intro L hL
    walk_at "lyb"
    walk_at "ly"
    have ncc : cc ≠ pl := fun z => by have := T.pl; rw [← z, h5] at this; cases this
    have npc : pc ≠ pl := fun z => by have := T.pl; rw [← z, h6] at this; cases this
    have hnn : (ns.length : Int) ≠ 0 := by omega
    have hlev : k0.fdiv (ns.length : Int) = ((k0 / (ns.length : Int)).toNat : Int) := by
      rw [Int.fdiv_eq_ediv_of_nonneg _ (by omega)]
      have : 0 ≤ k0 / (ns.length : Int) := Int.ediv_nonneg hk0 (by omega)
      omega
    have hlev2 : (k0 / (ns.length : Int)).toNat ≤ 400 := by
      have : k0 / (ns.length : Int) ≤ k0 := Int.ediv_le_self _ hk0
      omega
    generalize (k0 / (ns.length : Int)).toNat = lv at hlev hlev2
    have hmod0 : 0 ≤ k0.fmod (ns.length : Int) := by rw [Int.fmod_eq_emod_of_nonneg _ (by omega)]; exact Int.emod_nonneg _ hnn
    have hmod1 : k0.fmod (ns.length : Int) < (ns.length : Int) := by rw [Int.fmod_eq_emod_of_nonneg _ (by omega)]; exact Int.emod_lt_of_pos _ (by omega)
    have hix : (k0.fmod (ns.length : Int)).toNat < ns.length := by omega
    have hxx : (intl ns)[(k0.fmod (ns.length : Int)).toNat]? = some (.int ns[(k0.fmod (ns.length : Int)).toNat] 0) := intl_at' hmod0 (List.getElem?_eq_getElem hix)
    generalize ns[(k0.fmod (ns.length : Int)).toNat] = y at hxx
    with_reducible refine' si_list ?ha ?h0 ?hj ?hn ?_
    case ha => exact hp
    case h0 => decide
    case hj => decide
    case hn => simp
    have eset : ([Value.int k0 0].set (0 : Int).toNat (.int (k0 + 1) 0)) = [Value.int (k0 + 1) 0] := rfl
    rw [eset]
    walk_at "ly"
    with_reducible refine' op_div ?h0 ?hp ?_
    case h0 => rw [hil]; exact hnn
    case hp => rw [hil]; exact PyProof.noPylong_small (by omega)
    rw [hil, hlev]
    walk_at "ly"
    with_reducible refine' x_ret (P := DQ Q) ?_ ?r
    case r => exact fun _ _ _ h => h
    walk_at "ly"
    with_reducible refine' op_mod ?h0 ?_
    case h0 => rw [hil]; exact hnn
    rw [hil]
    have hx0 := hmod0
    have hx1 : k0.fmod (ns.length : Int) < 2 ^ 63 := by omega
    with_reducible refine' it_list ?ha ?h0 ?hx ?hj ?_ ?ps
    case ha => walk_at "lyh"
    case h0 => exact hmod0
    case hx => exact hxx
    case hj => exact hx1
    case ps => intro _ _; exact rfl
    walk_at "ly"
    with_reducible refine' op_pow ?h0 ?hz ?_
    case h0 => omega
    case hz =>
      have : (Builtin.Int.intBits 720720 : Int) = 20 := by decide
      rw [this]; omega
    rw [Int.toNat_natCast]
    with_reducible refine' op_div ?h0 ?hp ?_
    case h0 => exact Int.pow_ne_zero (by decide)
    case hp => exact noPy _ _ hlev2
    walk_at "ly"
    with_reducible refine' op_mul ?_ ?hm
    case hm => exact IntMulOk.of_left (by decide)
    walk_at "ly"
    with_reducible refine' op_mul ?_ ?hm
    case hm =>
      refine IntMulOk.of_left ?_
      unfold Builtin.Int.intBits
      split
      · decide
      · rename_i hz
        have hz' : lv ≠ 0 := by
          rintro rfl; exact hz rfl
        have : (lv : Int).natAbs = lv := Int.natAbs_natCast lv
        rw [this]
        have := (Nat.log2_lt (k := 63) hz').mpr (by omega)
        omega
    walk_at "ly"
    with_reducible refine' op_mod ?h0 ?_
    case h0 => omega
    refine dq0 (q _ ?_ ?_)
    · rw [Int.fmod_eq_emod_of_nonneg _ (by omega)]; exact Int.emod_nonneg _ (by omega)
    · rw [Int.fmod_eq_emod_of_nonneg _ (by omega)]; exact Int.emod_lt_of_pos _ (by omega)
end
end P23
section P24
structure Dr (S : AH) (pl : Addr) (K : Int) (H : AH) : Prop where
  sub : Sub S H
  no : S pl = none
  at_ : ∃ k0, 0 ≤ k0 ∧ k0 ≤ K ∧ H pl = some (.list [.int k0 0])
theorem Dr.new {S H : AH} {pl c : Addr} {K : Int} {o : O} (D : Dr S pl K H) (hc : H c = none) : Dr S pl K (upd H c o) :=
  ⟨sub_new D.sub hc, D.no, let ⟨k0, a, b, e⟩ := D.at_; ⟨k0, a, b, h_fresh hc e⟩⟩
theorem Dr.up {S H : AH} {pl c : Addr} {K : Int} {o : O} (D : Dr S pl K H) (hc : H c = none) : Dr (upd S c o) pl K (upd H c o) :=
  ⟨sub_cong D.sub, (by
    obtain ⟨k0, a, b, e⟩ := D.at_
    have : pl ≠ c := fun z => by rw [z, hc] at e; cases e
    rw [upd_ne _ _ this]; exact D.no), let ⟨k0, a, b, e⟩ := D.at_; ⟨k0, a, b, h_fresh hc e⟩⟩
theorem Dr.old {S H : AH} {pl c : Addr} {K : Int} {o : O} (D : Dr S pl K H) (hc : S c = none) (hp : c ≠ pl) : Dr S pl K (upd H c o) :=
  ⟨sub_old D.sub hc, D.no, let ⟨k0, a, b, e⟩ := D.at_; ⟨k0, a, b, h_old (Ne.symm hp) e⟩⟩
theorem Dr.set {S H : AH} {pl c : Addr} {K : Int} {o : O} (D : Dr S pl K H) (hc : S c = none) (hp : c ≠ pl) : Dr (upd S c o) pl K (upd H c o) :=
  ⟨sub_cong D.sub, (by rw [upd_ne _ _ (Ne.symm hp)]; exact D.no), let ⟨k0, a, b, e⟩ := D.at_; ⟨k0, a, b, h_old (Ne.symm hp) e⟩⟩
theorem Dr.know {S H : AH} {pl c : Addr} {K : Int} {o : O} (D : Dr S pl K H) (hc : H c = some o) (hp : c ≠ pl) : Dr (upd S c o) pl K H :=
  ⟨fun a o' e => (by
    by_cases z : a = c
    · subst z; rw [upd_self] at e; cases e; exact hc
    · rw [upd_ne _ _ z] at e; exact D.sub _ _ e), (by rw [upd_ne _ _ (Ne.symm hp)]; exact D.no), D.at_⟩
theorem Dr.less {S S' H : AH} {pl : Addr} {K : Int} (D : Dr S' pl K H) (s : Sub S S') : Dr S pl K H := ⟨fun a o e => D.sub _ _ (s _ _ e), sub_none s D.no, D.at_⟩
theorem Dr.le {S H : AH} {pl : Addr} {K K' : Int} (D : Dr S pl K H) (h : K ≤ K') : Dr S pl K' H := ⟨D.sub, D.no, let ⟨k0, a, b, e⟩ := D.at_; ⟨k0, a, Int.le_trans b h, e⟩⟩
theorem Tk.mono {S S' : AH} {f pl : Addr} {ns : List Int} (T : Tk S f pl ns) (s : Sub S S') (h : S' pl = none) : Tk S' f pl ns := by
  obtain ⟨⟨c', oc, vs, t, doc, pm, ctv, cc, pc, cl, h1, h2, h3, h4, h5, h6, h7⟩, a, b, c⟩ := T
  exact ⟨⟨c', oc, vs, t, doc, pm, ctv, cc, pc, cl, s _ _ h1, s _ _ h2, h3, h4, s _ _ h5, s _ _ h6, s _ _ h7⟩, a, b, h⟩
section
variable {w : World} {k : Nat} {S H : AH} {Q : Value → AH → Prop} {f pl : Addr} {ns : List Int} {K lim g flag : Int}
theorem c_draw (T : Tk S f pl ns) (D : Dr S pl K H) (hK : K < 400) (h0 : 0 < lim) (h1 : lim < 1000) (q : ∀ v H', 0 ≤ v → v < lim → Dr S pl (K + 1) H' → (∀ a, a ≠ pl → H' a = H a) → Q (.int v 0) H') : TC w (k + 1) (.ref f) [.int lim 0] Q H := by
  obtain ⟨k0, a, b, e⟩ := D.at_
  exact c_take T D.sub e a (by omega) h0 h1 fun v v0 v1 => q v _ v0 v1 ⟨sub_old D.sub D.no, D.no, k0 + 1, by omega, by omega, upd_self _ _ _⟩ fun x hx => upd_ne _ _ hx
theorem ko_tk (T : Tk S f pl ns) (hS : Sub S H) : KO w H (.ref f) := by
  obtain ⟨c', oc, vs, t, doc, pm, ctv, cc, pc, cl, h1, _⟩ := T.fn
  exact KO.raw (hS _ _ h1)
theorem c_classes (q : ∀ a, H a = none → Q (.ref a) (upd H a (.dict CLS))) : TC w (k + 1) (.ref 816) [] Q H := by
  with_reducible refine' fn_816 (z := ()) ?_; intro L hL
  walk_at "lyb"
  walk_at "lyret"
  walk_at "ly"
  exact q _ (by assumption)
local macro_rules
  | `(tactic| walk_at "ly3") => `(tactic| (((with_reducible refine' k_call (c_classes ?_) ?hk); (case hk => exact Nat.le_add_left _ _)); intro _ _ _))
noncomputable def wt (c : Int) : Int := if c = 1 then 2 else if c = 3 then 8 else 1
theorem dk_wt (g : Int) : (dk [(1, .int 2 0), (3, .int 8 0)] g).getD (.int 1 0) = .int (wt g) 0 := by
  unfold dk wt
  by_cases h1 : g = 1
  · subst h1; rfl
  by_cases h3 : g = 3
  · subst h3; rfl
  simp [h1, h3, Ne.symm h1, Ne.symm h3]
theorem c_passed (hf : flag = 0 ∨ flag = 2 ∨ flag = 8) (q : Q (.bool (passed flag g)) H) : TC w (k + 2) (.ref 836) [.int flag 0, .int g 0] Q H := by
  with_reducible refine' TC.drop (fn_836 ?_); intro L hL
  walk_at "lyb"
  with_reducible refine' x_ret (P := DQ Q) ?_ ?r
  case r => exact fun _ _ _ h => h
  walk_at "ly"
  rw [dk_cls]
  walk_at "ly"
  rw [dk_wt]
  walk_at "ly"
  have e : (flag == wt (cls g)) = passed flag g := by
    unfold passed wt
    rcases hf with rfl | rfl | rfl <;> rcases cls_cases g with h | h | h <;> rw [h] <;> decide
  rw [e]
  exact dq (by walk_at "lysub") q
local macro_rules
  | `(tactic| walk_at "lyko") => `(tactic| (with_reducible exact ko_tk (by with_reducible assumption) (Dr.sub (by with_reducible assumption))))
theorem dput_mem {kvs : List (Int × Value)} {g : Int} {v : Value} {p : Int × Value} (h : p ∈ dput kvs g v) : p ∈ kvs ∨ p.2 = v := by
  unfold dput at h
  split at h
  · obtain ⟨q, hq, rfl⟩ := List.mem_map.mp h
    split
    · exact .inr rfl
    · exact .inl hq
  · rcases List.mem_append.mp h with h | h
    · exact .inl h
    · rw [List.mem_singleton.mp h]; exact .inr rfl
theorem dput_all {kvs : List (Int × Value)} {g : Int} {v : Value} {R : Value → Prop} (h : ∀ p ∈ kvs, R p.2) (hv : R v) : ∀ p ∈ dput kvs g v, R p.2 := fun p hp => by
  rcases dput_mem hp with h' | h'
  · exact h p h'
  · rw [h']; exact hv
theorem dput_len (kvs : List (Int × Value)) (g : Int) (v : Value) : (dput kvs g v).length ≤ kvs.length + 1 := by
  unfold dput
  split
  · rw [List.length_map]; omega
  · rw [List.length_append]; simp
theorem c_mapping (T : Tk S f pl ns) (D : Dr S pl K H) (hK : K < 300) (q : ∀ H' a kvs, Dr S pl (K + 7) H' → H' a = some (.dict kvs) → S a = none → a ≠ pl → (∀ a o, a ≠ pl → H a = some o → H' a = some o) → (∀ p ∈ kvs, ∃ i, p.2 = .int i 0) → kvs.length ≤ 3 → Q (.ref a) H') : TC w (k + 2) (.ref 829) [.ref f, .bool false] Q H := by
  with_reducible refine' TC.drop (fn_829 ?_); intro L hL
  have hL1 : H (L + 1) = none := hL 1
  have D0 := D.up (o := .cell (some (.ref f))) hL1
  have SL1 := sub_none D.sub hL1
  have sS : Sub S (upd S (L + 1) (.cell (some (.ref f)))) := sub_new Sub.rfl' SL1
  have T0 := T.mono sS D0.no
  have hcf : upd S (L + 1) (.cell (some (.ref f))) (L + 1) = some (.cell (some (.ref f))) := upd_self _ _ _
  have nLp : L + 1 ≠ pl := fun z => by have := D0.no; rw [← z, hcf] at this; cases this
  walk_at "lyb"
  walk_at "ly"
  rename_i md hmd hmdL
  have D1 := D0.new (o := .dict []) hmd
  have Smd := sub_none D0.sub hmd
  with_reducible refine' e1_for ?_ ?hs
  case hs => intro _; exact rfl
  walk_at "ly"
  have keep0 : ∀ a o, H a = some o → upd (upd H (L + 1) (.cell (some (.ref f)))) md (.dict []) a = some o := fun a o e => h_fresh hmd (h_fresh hL1 e)
  have hmd1 : upd (upd H (L + 1) (.cell (some (.ref f)))) md (.dict []) md = some (.dict []) := upd_self _ _ _
  have nmp : md ≠ pl := fun z => by
    obtain ⟨k0, _, _, e⟩ := D0.at_
    rw [← z, hmd] at e; cases e
  generalize upd (upd H (L + 1) (.cell (some (.ref f)))) md (.dict []) = H1 at D1 keep0 hmd1 ⊢
  with_reducible refine' k_call (c_draw T0 D1 (by omega) (by decide) (by decide) ?_) ?hk
  case hk => exact Nat.le_add_left _ _
  intro v H2 v0 v1 D2 e2 _
  walk_at "ly"
  with_reducible refine' cr_range1 ?_
  intro rg r1 r2 r3 hrg hrgL
  have D3 := D2.new (o := .raw (rngObj 0 (1 + v) r1 r2 r3)) hrg
  have hm3 : upd H2 rg (.raw (rngObj 0 (1 + v) r1 r2 r3)) md = some (.dict []) := h_fresh hrg ((e2 md nmp).trans hmd1)
  refine ⟨.rng 0 (1 + v).toNat, (1 + v).toNat, fun i H' m => i ≤ (1 + v).toNat ∧ ∃ kvs, Dr (upd S (L + 1) (.cell (some (.ref f)))) pl (K + 1 + 2 * i) H' ∧ H' md = some (.dict kvs) ∧ (∀ p ∈ kvs, ∃ i, p.2 = .int i 0) ∧ kvs.length ≤ i ∧ (∀ a o, a ≠ pl → H a = some o → H' a = some o) ∧ lkr m "is_multiple" = some (.bool false) ∧ lkr m "mapping" = some (.ref md), .rng (upd_self _ _ _) (by omega) (by omega) (by omega) (by omega) (by omega), .inl fun _ _ => rfl, ⟨Nat.zero_le _, [], D3.le (by omega), hm3, by simp, by simp, fun a o n e => h_fresh hrg ((e2 a n).trans (keep0 a o e)), rfl, rfl⟩, ?_⟩
  rintro i H' m ⟨hi, kvs, D4, hm4, hk4, hl4, keep4, l1, l2⟩
  by_cases hlt : i < (1 + v).toNat
  · refine ⟨some (.int (0 + i) 0), .rng hlt, (fun e => by cases e), fun x ex => ⟨hlt, ?_⟩⟩
    cases ex
    have hcf4 := D4.sub _ _ hcf
    walk_at "ly"
    with_reducible refine' k_call (c_draw T0 D4 (by omega) (by decide) (by decide) ?_) ?hk
    case hk => exact Nat.le_add_left _ _
    intro g H5 g0 g1 D5 e5 _
    have hm5 := (e5 md nmp).trans hm4
    have hcf5 := D5.sub _ _ hcf
    walk_at "ly"
    with_reducible refine' k_call (c_draw T0 D5 (by omega) (by decide) (by decide) ?_) ?hk
    case hk => exact Nat.le_add_left _ _
    intro y H6 y0 y1 D6 e6 _
    have hm6 := (e6 md nmp).trans hm5
    have hcf6 := D6.sub _ _ hcf
    walk_at "ly"
    with_reducible refine' si_dict ?ha ?hz ?_
    case ha => exact hm6
    case hz => omega
    walk_at "ly"
    with_reducible refine' ex_nil ?_
    with_reducible refine' lq_next ?_
    refine ⟨hlt, dput kvs (1 + g) (.int (1 + y) 0), (D6.old Smd nmp).le (by omega), upd_self _ _ _, ?_, ?_, fun a o n e => ?_, by walk_at "lyl", by walk_at "lyl"⟩
    · exact dput_all (R := fun v => ∃ i, v = .int i 0) hk4 ⟨_, rfl⟩
    · have := dput_len kvs (1 + g) (.int (1 + y) 0); omega
    · have hne : a ≠ md := fun z => by rw [z] at e; exact absurd (h_fresh hL1 e) (by rw [hmd]; nofun)
      exact h_old hne ((e6 a n).trans ((e5 a n).trans (keep4 a o n e)))
  · have hie : i = (1 + v).toNat := by omega
    refine ⟨none, .rngEnd hie, fun _ => ?_, fun x ex => by cases ex⟩
    walk_at "ly"
    with_reducible refine' x_ret (P := fun v H1 => ∃ H', Sub H' H1 ∧ DQ Q v H') ?_ ?r
    case r => exact fun _ _ _ h => h
    walk_at "ly"
    exact ⟨_, Sub.rfl', dq0 (q H' md kvs ((D4.less sS).le (by omega)) hm4 (sub_none sS Smd) nmp keep4 hk4 (by omega))⟩
end
end P24
section P25
local macro_rules
  | `(tactic| walk_at "lyko") => `(tactic| (with_reducible exact ko_tk (by with_reducible assumption) (Dr.sub (by with_reducible assumption))))
section
variable {w : World} {k : Nat} {S H : AH} {Q : Value → AH → Prop} {f pl : Addr} {ns : List Int} {K lim g flag : Int}
theorem c_mapping_m (T : Tk S f pl ns) (D : Dr S pl K H) (hK : K < 300) (q : ∀ H' a kvs S', Sub S S' → Dr S' pl (K + 16) H' → H' a = some (.dict kvs) → S' a = none → a ≠ pl → (∀ a o, a ≠ pl → H a = some o → H' a = some o) → (∀ p ∈ kvs, ∃ pt gs, p.2 = .ref pt ∧ S' pt = some (.tup (intl gs)) ∧ 1 ≤ gs.length ∧ gs.length ≤ 3) → kvs.length ≤ 3 → Q (.ref a) H') : TC w (k + 2) (.ref 829) [.ref f, .bool true] Q H := by
  with_reducible refine' TC.drop (fn_829 ?_); intro L hL
  have hL1 : H (L + 1) = none := hL 1
  have D0 := D.up (o := .cell (some (.ref f))) hL1
  have SL1 := sub_none D.sub hL1
  have sS : Sub S (upd S (L + 1) (.cell (some (.ref f)))) := sub_new Sub.rfl' SL1
  have T0 := T.mono sS D0.no
  have hcf : upd S (L + 1) (.cell (some (.ref f))) (L + 1) = some (.cell (some (.ref f))) := upd_self _ _ _
  have nLp : L + 1 ≠ pl := fun z => by have := D0.no; rw [← z, hcf] at this; cases this
  walk_at "lyb"
  walk_at "ly"
  rename_i md hmd hmdL
  have D1 := D0.new (o := .dict []) hmd
  have Smd := sub_none D0.sub hmd
  with_reducible refine' e1_for ?_ ?hs
  case hs => intro _; exact rfl
  walk_at "ly"
  have keep0 : ∀ a o, H a = some o → upd (upd H (L + 1) (.cell (some (.ref f)))) md (.dict []) a = some o := fun a o e => h_fresh hmd (h_fresh hL1 e)
  have hmd1 : upd (upd H (L + 1) (.cell (some (.ref f)))) md (.dict []) md = some (.dict []) := upd_self _ _ _
  have nmp : md ≠ pl := fun z => by
    obtain ⟨k0, _, _, e⟩ := D0.at_
    rw [← z, hmd] at e; cases e
  generalize upd (upd H (L + 1) (.cell (some (.ref f)))) md (.dict []) = H1 at D1 keep0 hmd1 ⊢
  with_reducible refine' k_call (c_draw T0 D1 (by omega) (by decide) (by decide) ?_) ?hk
  case hk => exact Nat.le_add_left _ _
  intro v H2 v0 v1 D2 e2 _
  walk_at "ly"
  with_reducible refine' cr_range1 ?_
  intro rg r1 r2 r3 hrg hrgL
  have D3 := D2.new (o := .raw (rngObj 0 (1 + v) r1 r2 r3)) hrg
  have hm3 : upd H2 rg (.raw (rngObj 0 (1 + v) r1 r2 r3)) md = some (.dict []) := h_fresh hrg ((e2 md nmp).trans hmd1)
  refine ⟨.rng 0 (1 + v).toNat, (1 + v).toNat, fun i H' m => i ≤ (1 + v).toNat ∧ ∃ S' kvs, Sub (upd S (L + 1) (.cell (some (.ref f)))) S' ∧ Dr S' pl (K + 1 + 5 * i) H' ∧ S' md = none ∧ H' md = some (.dict kvs) ∧ (∀ p ∈ kvs, ∃ pt gs, p.2 = .ref pt ∧ S' pt = some (.tup (intl gs)) ∧ 1 ≤ gs.length ∧ gs.length ≤ 3) ∧ kvs.length ≤ i ∧ (∀ a o, a ≠ pl → H a = some o → H' a = some o) ∧ lkr m "is_multiple" = some (.bool true) ∧ lkr m "mapping" = some (.ref md), .rng (upd_self _ _ _) (by omega) (by omega) (by omega) (by omega) (by omega), .inl fun _ _ => rfl, ⟨Nat.zero_le _, _, [], Sub.rfl', D3.le (by omega), Smd, hm3, by simp, by simp, fun a o n e => h_fresh hrg ((e2 a n).trans (keep0 a o e)), rfl, rfl⟩, ?_⟩
  rintro i H' m ⟨hi, S', kvs, sS', D4, Smd', hm4, hk4, hl4, keep4, l1, l2⟩
  by_cases hlt : i < (1 + v).toNat
  · refine ⟨some (.int (0 + i) 0), .rng hlt, (fun e => by cases e), fun x ex => ⟨hlt, ?_⟩⟩
    cases ex
    have T4 := T0.mono sS' D4.no
    have hcf' := sS' _ _ hcf
    have hcf4 := D4.sub _ _ hcf'
    walk_at "ly"
    with_reducible refine' k_call (c_draw T4 D4 (by omega) (by decide) (by decide) ?_) ?hk
    case hk => exact Nat.le_add_left _ _
    intro g H5 g0 g1 D5 e5 _
    have hm5 := (e5 md nmp).trans hm4
    have hcf5 := D5.sub _ _ hcf'
    walk_at "ly"
    walk_at "lycomp"
    walk_at "ly"
    with_reducible refine' k_call (c_draw T4 D5 (by omega) (by decide) (by decide) ?_) ?hk
    case hk => exact Nat.le_add_left _ _
    intro n H6 n0 n1 D6 e6 _
    have hm6 := (e6 md nmp).trans hm5
    walk_at "ly"
    with_reducible refine' cr_range1 ?_
    intro rg2 r4 r5 r6 hrg2 hrg2L
    have D7 := D6.new (o := .raw (rngObj 0 (1 + n) r4 r5 r6)) hrg2
    have hm7 : upd H6 rg2 (.raw (rngObj 0 (1 + n) r4 r5 r6)) md = some (.dict kvs) := h_fresh hrg2 hm6
    refine ⟨.rng 0 (1 + n).toNat, (1 + n).toNat, fun j ys H8 => j ≤ (1 + n).toNat ∧ ∃ gs : List Int, Dr S' pl (K + 1 + 5 * i + 1 + 1 + j) H8 ∧ ys = intl gs ∧ gs.length = j ∧ H8 md = some (.dict kvs) ∧ (∀ a o, a ≠ pl → H a = some o → H8 a = some o), .rng (upd_self _ _ _) (by omega) (by omega) (by omega) (by omega) (by omega), ⟨Nat.zero_le _, [], D7.le (by omega), rfl, rfl, hm7, fun a o nn e => h_fresh hrg2 ((e6 a nn).trans ((e5 a nn).trans (keep4 a o nn e)))⟩, ?_⟩
    rintro C hC hCL j ys H8 ⟨hj, gs, D8, rfl, hgl, hm8, keep8⟩
    refine ⟨by simp [intl]; omega, ?_⟩
    by_cases hjl : j < (1 + n).toNat
    · refine ⟨some (.int (0 + j) 0), .rng hjl, (fun e => by cases e), fun x ex => ⟨hjl, ?_⟩⟩
      cases ex
      have hcf8 := D8.sub _ _ hcf'
      with_reducible refine' ct_nil ?_
      walk_at "ly"
      with_reducible refine' k_call (c_draw T4 D8 (by omega) (by decide) (by decide) ?_) ?hk
      case hk => exact Nat.le_add_left _ _
      intro y H9 y0 y1 D9 e9 _
      walk_at "ly"
      refine ⟨rfl, hjl, gs ++ [1 + y], D9.le (by omega), ?_, by simp [hgl], (e9 md nmp).trans hm8, fun a o nn e => (e9 a nn).trans (keep8 a o nn e)⟩
      unfold intl; simp
    · have hje : j = (1 + n).toNat := by omega
      refine ⟨none, .rngEnd hje, fun _ => ?_, fun x ex => by cases ex⟩
      intro D hD hDL
      have hDp : D ≠ pl := fun z => by
        obtain ⟨k0, _, _, e⟩ := D8.at_
        rw [← z, hD] at e; cases e
      have D9 := D8.new (o := .list (intl gs)) hD
      walk_at "ly"
      with_reducible refine' cr_tuple ?ha ?hz ?_
      case ha => exact upd_self _ _ _
      case hz => simp [intl]; omega
      intro t ht htL
      have D10 := D9.up (o := .tup (intl gs)) ht
      have hm10 : upd (upd H8 D (.list (intl gs))) t (.tup (intl gs)) md = some (.dict kvs) := h_fresh ht (h_fresh hD hm8)
      have St := sub_none D9.sub ht
      have nmt : md ≠ t := fun z => by rw [z, upd_self] at hm10; cases hm10
      walk_at "ly"
      with_reducible refine' si_dict ?ha ?hz ?_
      case ha => exact hm10
      case hz => omega
      walk_at "ly"
      with_reducible refine' ex_nil ?_
      with_reducible refine' lq_next ?_
      have Smd2 : upd S' t (.tup (intl gs)) md = none := by rw [upd_ne _ _ nmt]; exact Smd'
      refine ⟨hlt, upd S' t (.tup (intl gs)), dput kvs (1 + g) (.ref t), fun a o e => h_fresh St (sS' _ _ e), (D10.old Smd2 nmp).le (by omega), Smd2, upd_self _ _ _, ?_, ?_, fun a o nn e => ?_, by walk_at "lyl", by walk_at "lyl"⟩
      · refine dput_all (R := fun v => ∃ pt gs', v = .ref pt ∧ upd S' t (.tup (intl gs)) pt = some (.tup (intl gs')) ∧ 1 ≤ gs'.length ∧ gs'.length ≤ 3) (fun p hp => ?_) ⟨t, gs, rfl, upd_self _ _ _, by omega, by omega⟩
        obtain ⟨pt, gs', a1, a2, a3, a4⟩ := hk4 p hp
        exact ⟨pt, gs', a1, h_fresh St a2, a3, a4⟩
      · have := dput_len kvs (1 + g) (.ref t); omega
      · have hne : a ≠ md := fun z => by rw [z] at e; exact absurd (h_fresh hL1 e) (by rw [hmd]; nofun)
        exact h_old hne (h_fresh ht (h_fresh hD (keep8 a o nn e)))
  · have hie : i = (1 + v).toNat := by omega
    refine ⟨none, .rngEnd hie, fun _ => ?_, fun x ex => by cases ex⟩
    walk_at "ly"
    with_reducible refine' x_ret (P := fun v H1 => ∃ H', Sub H' H1 ∧ DQ Q v H') ?_ ?r
    case r => exact fun _ _ _ h => h
    walk_at "ly"
    exact ⟨_, Sub.rfl', dq0 (q H' md kvs S' (fun a o e => sS' _ _ (sS _ _ e)) (D4.le (by omega)) hm4 Smd' nmp keep4 hk4 (by omega))⟩
end
end P25
section P26
theorem x_rett {w : World} {k : Nat} {env : Env} {H : AH} {m : Lc} {e : Expr} {pos : Pos} {QF : Flow → AH → Lc → Prop} (h : EV w k env e (fun v H m => v = .bool true ∧ QF (.ret (.bool true)) H m) H m) : E1 w k env (.Return (some e) pos) QF H m :=
  e1_ret (AW.mono h fun v H m ⟨e, q⟩ => by rw [nv_bool e]; exact q)
noncomputable def Prs (S : AH) (das : List (Addr × (Int × Int))) : Prop := ∀ p ∈ das, S p.1 = some (.tup [.int p.2.1 0, .int p.2.2 0])
theorem Prs.mono {S S' : AH} {das : List (Addr × (Int × Int))} (h : Prs S das) (s : Sub S S') : Prs S' das := fun p hp => s _ _ (h p hp)
theorem eq_prs {H : AH} : ∀ {l1 l2 : List (Addr × (Int × Int))}, l1.map (·.2) = l2.map (·.2) → Prs H l1 → Prs H l2 → eqPairs H (l1.map fun p => .ref p.1) (l2.map fun p => .ref p.1)
  | [], [], _, _, _ => True.intro
  | [], _ :: _, e, _, _ => by cases e
  | _ :: _, [], e, _, _ => by cases e
  | p :: l1, q :: l2, e, h1, h2 => by
    obtain ⟨e1, e2⟩ := List.cons.inj e
    refine ⟨⟨p.2.1, p.2.2, h1 p (.head _), ?_⟩, eq_prs e2 (fun x hx => h1 x (.tail _ hx)) fun x hx => h2 x (.tail _ hx)⟩
    have := h2 q (.head _)
    have e1' : p.2 = q.2 := e1
    rw [← e1'] at this
    exact this
section
variable {w : World} {k : Nat} {S H : AH} {QF : Flow → AH → Lc → Prop} {m : Lc} {G : GA} {is : List (Addr × Inf)} {lo ta tb tbs da : Addr} {mask flag : Int} {P : Int → Option Int} {M : Int → Option (List Int)} {ls : List Addr} {ns : List Int} {acs : List Addr} {xs : List Int} {C : CtxA} {ms : Value} {das : List (Addr × (Int × Int))} {L : Addr}
theorem law20 (hS : Sub S H) (T : Still S G) (R : Row S H G is) (K : Lks S G P M ls) (hl0 : ls[0]? = some lo) (hlo : S lo = some (lkp "chain" flag ms tbs)) (htbs : S tbs = some (.list [.ref tb])) (hat : Acs S ta acs ns) (X : Ctx S tb ta xs C) (hf : flag = 0 ∨ flag = 2 ∨ flag = 8) (hlen : is.length ≤ 5)
    (l1 : lkr m "buffer" = some (.ref G.bf)) (l2 : lkr m "gdef" = some (.ref G.gd)) (l3 : lkr m "lookups" = some (.ref G.lks)) (l4 : lkr m "mask" = some (.int mask 0)) (l5 : lkr m "count" = some (.int ((is.map gm).countP (cond flag mask xs) : Nat) 0)) (l6 : lkr m "due" = some (.ref da))
    (hda : S da = some (.list (das.map fun p => .ref p.1))) (hdas : Prs S das) (hdue : das.map (·.2) = (is.map gm).flatMap (outp P M ns flag mask xs))
    (q : ∀ H' m, Sub S H' → QF (.ret (.bool true)) H' m) : EX w (k + 14) (env_841 L) ((fB (st PW 100)).drop 20) QF H m := by
  walk_at "lyb"
  walk_at "ly"
  with_reducible refine' k_call (c_run hS T R K hl0 hlo htbs hat X hf hlen ?_) ?hk
  case hk => exact Nat.le_refl _
  intro is' H' R' hS' hgm _
  walk_at "ly"
  rw [bne_self_eq_false]
  walk_at "ly"
  with_reducible refine' ex_nil ?_
  walk_at "ly"
  have T0 := T
  obtain ⟨t1, t2, t3, t4⟩ := T
  have rl' := R'.rl
  have h100 := R'.len
  with_reducible refine' x_rett ?_
  walk_at "ly"
  walk_at "lycomp"
  walk_at "ly"
  refine ⟨.list G.rl, is'.length, fun i ys H2 => i ≤ is'.length ∧ Sub H' H2 ∧ ∃ l : List (Addr × (Int × Int)), ys = l.map (fun p => .ref p.1) ∧ Prs H2 l ∧ l.map (·.2) = (is'.map gm).take i, .list rl', ⟨Nat.zero_le _, Sub.rfl', [], rfl, (fun _ h => (nomatch h)), rfl⟩, ?_⟩
  rintro C hC hCL i ys H2 ⟨hi, s2, l, rfl, hl, hl2⟩
  have hll : l.length = i := by
    have := congrArg List.length hl2
    simp at this; omega
  have rl2 := s2 _ _ rl'
  refine ⟨by simp; omega, _, .list rl2 rfl, fun en => ?_, fun u eu => ?_⟩
  · intro D hD hDL
    have hge : is'.length ≤ i := by
      rw [List.getElem?_map] at en
      exact List.getElem?_eq_none_iff.mp (Option.map_eq_none_iff.mp en)
    rw [List.take_of_length_le (by simp; omega)] at hl2
    have hda2 := s2 _ _ (hS' _ _ hda)
    walk_at "ly"
    with_reducible refine' cm_eq_pairs ?ha ?hc ?hp ?hk ?_
    case ha => exact upd_self _ _ _
    case hc => exact h_fresh hD hda2
    case hp => exact eq_prs (by rw [hl2, hdue, hgm]) (fun p hp => h_fresh hD (hl p hp)) (fun p hp => h_fresh hD (s2 _ _ (hS' _ _ (hdas p hp))))
    case hk => omega
    exact ⟨rfl, q _ _ (fun a o e => h_fresh hD (s2 _ _ (hS' _ _ e)))⟩
  · obtain ⟨p, hp, rfl⟩ : ∃ p, is'[i]? = some p ∧ .ref p.1 = u := by
      rw [List.getElem?_map] at eu
      exact Option.map_eq_some_iff.mp eu
    have hlt := (List.getElem?_eq_some_iff.mp hp).1
    refine ⟨hlt, ?_⟩
    have hpi := s2 _ _ (R'.at_ p (List.mem_of_getElem? hp))
    unfold ifs at hpi
    with_reducible refine' ct_nil ?_
    walk_at "ly"
    rename_i tt htt httL
    refine ⟨rfl, hlt, sub_new s2 htt, l ++ [(tt, gm p)], by simp, ?_, ?_⟩
    · intro x hx
      rcases List.mem_append.mp hx with hx | hx
      · exact h_fresh htt (hl x hx)
      · rw [List.mem_singleton.mp hx]; exact upd_self _ _ _
    · rw [List.map_append, hl2, List.take_add_one, List.getElem?_map, hp]; rfl
end
end P26
section P27
local macro_rules
  | `(tactic| walk_at "ly3") => `(tactic| ((with_reducible refine' it_list ?ha ?h0 ?hx ?hj ?_ ?ps); (case ha => walk_at "lyh"); (case hx => first | with_reducible assumption | exact rfl); (case h0 => first | decide | omega); (case hj => first | decide | omega); (case ps => (intro _ _; exact rfl))))
noncomputable def bodyOf : Stmt → List Stmt
  | .For _ _ b _ _ => b
  | .If _ b _ _ => b
  | _ => []
noncomputable def at_ (l : List Stmt) (i : Nat) : Stmt := (l[i]?).getD (.Pass ⟨0, 0, 0, 0⟩)
noncomputable def for19 : List Stmt := bodyOf (at_ (fB (st PW 100)) 19)
noncomputable def if19 : List Stmt := bodyOf (at_ for19 1)
structure Wk (S H : AH) (G : GA) (is : List (Addr × Inf)) (c : Addr) (u : Option Value) : Prop where
  sub : Sub S H
  row : Row S H G is
  own : H c = some (.cell u)
  no : S c = none
theorem row_up {S H : AH} {G : GA} {is : List (Addr × Inf)} {c : Addr} {o : O} (R : Row S H G is) (hc : H c = none) : Row (upd S c o) (upd H c o) G is := by
  have hn : ∀ a o', H a = some o' → S a = none → upd S c o a = none := fun a o' e h => by
    rw [upd_ne]; exact h
    rintro rfl; rw [hc] at e; cases e
  exact ⟨h_fresh hc R.rl, fun p hp => h_fresh hc (R.at_ p hp), R.ap, hn _ _ R.rl R.nr, fun p hp => hn _ _ (R.at_ p hp) (R.ns p hp), R.len⟩
section
variable {S H : AH} {G : GA} {is : List (Addr × Inf)} {c d : Addr} {u u' : Option Value} {o : O}
theorem Wk.new (W : Wk S H G is c u) (hd : H d = none) : Wk S (upd H d o) G is c u := ⟨sub_new W.sub hd, row_fresh W.row hd, h_fresh hd W.own, W.no⟩
theorem Wk.up (W : Wk S H G is c u) (hd : H d = none) : Wk (upd S d o) (upd H d o) G is c u := ⟨sub_cong W.sub, row_up W.row hd, h_fresh hd W.own, by
  rw [upd_ne]; exact W.no
  rintro rfl; rw [W.own] at hd; cases hd⟩
theorem Wk.cell (W : Wk S H G is c u) : Wk S (upd H c (.cell u')) G is c u' := ⟨sub_old W.sub W.no, row_fgn W.row ⟨fun z => (by have := W.own; rw [z, W.row.rl] at this; cases this), fun p hp z => (by have := W.own; rw [z, W.row.at_ p hp] at this; cases this)⟩, upd_self _ _ _, W.no⟩
theorem Wk.grow {H' : AH} (W : Wk S H G is c u) (s : Sub H H') : Wk S H' G is c u := ⟨fun a o e => s _ _ (W.sub _ _ e), row_sub W.row s, s _ _ W.own, W.no⟩
end
section
variable {w : World} {k : Nat} {S H : AH} {QF : Flow → AH → Lc → Prop} {m : Lc} {G : GA} {is : List (Addr × Inf)} {da pa aa va p0 : Addr} {P : Int → Option Int} {M : Int → Option (List Int)} {ns ps : List Int} {das : List (Addr × (Int × Int))} {L : Addr} {own : Int} {kv1 kv3 : List (Int × Value)} {u : Option Value}
theorem law_due (W : Wk S H G is (L + 3) (some (.int own 0))) (hda : S da = some (.list (das.map fun p => .ref p.1))) (hds : Prs S das) (hpa : H pa = some (.list (intl ps))) (hpl : ps.length ≤ 10) (hdl : das.length ≤ 60) (l1 : lkr m "due" = some (.ref da)) (l2 : lkr m "pieces" = some (.ref pa))
    (q : ∀ S' H' da' das', Sub S S' → Wk S' H' G is (L + 3) (some (.int own 0)) → S' da' = some (.list (das'.map fun p => .ref p.1)) → Prs S' das' → das'.map (·.2) = das.map (·.2) ++ ps.map (fun g => (g, own)) → QF .next H' (("due", .ref da') :: m)) : EX w k (env_841 L) (for19.drop 2) QF H m := by
  have hH := W.sub _ _ hda
  walk_at "lyb"
  walk_at "ly"
  walk_at "lycomp"
  walk_at "ly"
  refine ⟨.list pa, ps.length, fun i ys H2 => i ≤ ps.length ∧ Sub H H2 ∧ ∃ S2 l, Sub S S2 ∧ Wk S2 H2 G is (L + 3) (some (.int own 0)) ∧ ys = l.map (fun p : Addr × (Int × Int) => .ref p.1) ∧ Prs S2 l ∧ l.map (·.2) = (ps.take i).map (fun g => (g, own)), .list hpa, ⟨Nat.zero_le _, Sub.rfl', S, [], Sub.rfl', W, rfl, (fun _ h => (nomatch h)), rfl⟩, ?_⟩
  rintro C hC hCL i ys H2 ⟨hi, s2, S2, l, sS, W2, rfl, hl, hl2⟩
  have hll : l.length = i := by
    have := congrArg List.length hl2
    simp at this; omega
  have hpa2 := s2 _ _ hpa
  refine ⟨by simp; omega, _, .list hpa2 rfl, fun en => ?_, fun y ey => ?_⟩
  · intro D hD hDL
    have hge : ps.length ≤ i := by
      unfold intl at en
      rw [List.getElem?_map] at en
      exact List.getElem?_eq_none_iff.mp (Option.map_eq_none_iff.mp en)
    rw [List.take_of_length_le hge] at hl2
    have hH2 := s2 _ _ hH
    walk_at "ly"
    with_reducible refine' op_cat ?ha ?hc ?hz ?_
    case ha => exact h_fresh hD hH2
    case hc => exact upd_self _ _ _
    case hz => simp; omega
    intro d hd hdL
    have W3 := (W2.new (o := .list (l.map fun p => .ref p.1)) hD).up (o := .list ((das ++ l).map fun p => .ref p.1)) hd
    have Sd := sub_none (W2.new (o := .list (l.map fun p => .ref p.1)) hD).sub hd
    have sn : Sub S2 (upd S2 d (.list ((das ++ l).map fun p => .ref p.1))) := sub_new Sub.rfl' Sd
    walk_at "ly"
    with_reducible refine' ex_nil ?_
    rw [← List.map_append]
    refine q _ _ d (das ++ l) (fun a o e => sn _ _ (sS _ _ e)) W3 (upd_self _ _ _) (fun p hp => ?_) (by rw [List.map_append, hl2])
    rcases List.mem_append.mp hp with hp | hp
    · exact sn _ _ (sS _ _ (hds p hp))
    · exact sn _ _ (hl p hp)
  · obtain ⟨g, hg, rfl⟩ : ∃ g, ps[i]? = some g ∧ Value.int g 0 = y := by
      unfold intl at ey
      rw [List.getElem?_map] at ey
      exact Option.map_eq_some_iff.mp ey
    have hlt := (List.getElem?_eq_some_iff.mp hg).1
    have hown := W2.own
    refine ⟨hlt, ?_⟩
    with_reducible refine' ct_nil ?_
    walk_at "ly"
    rename_i tt htt httL
    have St := sub_none W2.sub htt
    have sn : Sub S2 (upd S2 tt (.tup [.int g 0, .int own 0])) := sub_new Sub.rfl' St
    refine ⟨rfl, hlt, sub_new s2 htt, _, l ++ [(tt, (g, own))], fun a o e => sn _ _ (sS _ _ e), W2.up htt, by simp, ?_, ?_⟩
    · intro x hx
      rcases List.mem_append.mp hx with hx | hx
      · exact sn _ _ (hl x hx)
      · rw [List.mem_singleton.mp hx]; exact upd_self _ _ _
    · rw [List.map_append, hl2, List.take_add_one, hg, List.map_append]; rfl
end
end P27
section P28
local macro_rules
  | `(tactic| walk_at "ly3") => `(tactic| ((with_reducible refine' it_list ?ha ?h0 ?hx ?hj ?_ ?ps); (case ha => walk_at "lyh"); (case hx => first | with_reducible assumption | exact rfl); (case h0 => first | decide | omega); (case hj => first | decide | omega); (case ps => (intro _ _; exact rfl))))
section
variable {w : World} {k : Nat} {S H : AH} {QF : Flow → AH → Lc → Prop} {m : Lc} {G : GA} {is : List (Addr × Inf)} {da pa aa va p0 : Addr} {P : Int → Option Int} {M : Int → Option (List Int)} {ns ps : List Int} {das : List (Addr × (Int × Int))} {L : Addr} {own : Int} {kv1 kv3 : List (Int × Value)} {u : Option Value}
theorem lkr_miss {n x : Str} {v : Value} {m : Lc} (h : (n == x) = false) : lkr ((n, v) :: m) x = lkr m x := by
  show (match n == x with | true => some v | false => lkr m x) = _
  rw [h]
theorem e1_body {env : Env} {st st' : Stmt} (e : st = st') (h : E1 w k env st' QF H m) : E1 w k env st QF H m := e ▸ h
theorem law_acts (haa : H aa = some (.list (intl ns))) (hpl : H pa = some (.dict kv1)) (hP : ∀ g, dk kv1 g = (P g).map fun i => .int i 0) (hva : H va = some (.dict kv3)) (hM : ∀ g, (M g = none → dk kv3 g = none) ∧ ∀ gs, M g = some gs → ∃ pt, dk kv3 g = some (.ref pt) ∧ H pt = some (.tup (intl gs)) ∧ 1 ≤ gs.length ∧ gs.length ≤ 3)
    (hp0 : H p0 = some (.list (intl ps))) (hps : ps.length = 1) (hn3 : ns.length ≤ 3)
    (l1 : lkr m "actions" = some (.ref aa)) (l2 : lkr m "pieces" = some (.ref p0)) (l3 : lkr m "plain" = some (.ref pa)) (l4 : lkr m "several" = some (.ref va))
    (q : ∀ H' m' pa', Sub H H' → H' pa' = some (.list (intl (acts P M ns ps))) → lkr m' "pieces" = some (.ref pa') → (∀ x : Str, (("number" : Str) == x) = false → (("pieces" : Str) == x) = false → lkr m' x = lkr m x) → QF .next H' m') : E1 w k (env_841 L) (at_ if19 1) QF H m := by
  with_reducible refine' e1_body ?e (e1_for ?_ ?hs)
  case e => exact rfl
  case hs => intro _; exact rfl
  walk_at "ly"
  refine ⟨.list aa, ns.length, fun i H' m' => i ≤ ns.length ∧ Sub H H' ∧ ∃ pa' g r, H' pa' = some (.list (intl (g :: r))) ∧ g :: r = acts P M (ns.take i) ps ∧ r.length ≤ 2 * i ∧ lkr m' "pieces" = some (.ref pa') ∧ (∀ x : Str, (("number" : Str) == x) = false → (("pieces" : Str) == x) = false → lkr m' x = lkr m x), .list haa, .inl fun _ _ => rfl, ⟨Nat.zero_le _, Sub.rfl', ?_⟩, ?_⟩
  · obtain ⟨g, rfl⟩ := List.length_eq_one_iff.mp hps
    exact ⟨p0, g, [], hp0, rfl, by simp, l2, fun _ _ _ => rfl⟩
  rintro i H' m' ⟨hi, s1, pa', g, r, hpa', eps, hrl, k1, k2⟩
  have haa' := s1 _ _ haa
  have hpl' := s1 _ _ hpl
  have hva' := s1 _ _ hva
  refine ⟨_, .list haa' rfl, fun en => ?_, fun x ex => ?_⟩
  · have hge : ns.length ≤ i := by
      unfold intl at en
      rw [List.getElem?_map] at en
      exact List.getElem?_eq_none_iff.mp (Option.map_eq_none_iff.mp en)
    rw [List.take_of_length_le hge] at eps
    exact q H' m' pa' s1 (by rw [← eps]; exact hpa') k1 k2
  · obtain ⟨n, hn, rfl⟩ : ∃ n, ns[i]? = some n ∧ Value.int n 0 = x := by
      unfold intl at ex
      rw [List.getElem?_map] at ex
      exact Option.map_eq_some_iff.mp ex
    have hlt := (List.getElem?_eq_some_iff.mp hn).1
    have hs' := acts_snoc (P := P) (M := M) (ps := ps) hn
    rw [← eps] at hs'
    have hx0 : (intl (g :: r))[(0 : Int).toNat]? = some (.int g 0) := rfl
    have j3 : lkr m' "plain" = some (.ref pa) := (k2 _ rfl rfl).trans l3
    have j4 : lkr m' "several" = some (.ref va) := (k2 _ rfl rfl).trans l4
    have hgl : (intl (g :: r)).length ≤ 1000 := by simp [intl]; omega
    have ecut : cut (intl (g :: r)) (some 1) none = intl r := cut_from _ 1
    refine ⟨hlt, ?_⟩
    walk_at "ly"
    by_cases h1 : n = 1
    · subst h1
      show if true = true then _ else _
      walk_at "ly"
      rename_i a1 ha1 ha1L c1 l' u' el eu hc1 hc1L c2 hc2 hc2L
      have ed : (dk kv1 g).getD (.int g 0) = .int ((P g).getD g) 0 := by rw [hP]; cases P g <;> rfl
      have el2 : [(dk kv1 g).getD (.int g 0)] ++ cut (intl (g :: r)) (some 1) none = intl ((P g).getD g :: r) := by rw [ed, ecut]; rfl
      with_reducible refine' op_cat ?ha ?hc ?hz ?_
      case ha => exact h_fresh hc2 (h_fresh hc1 (upd_self _ _ _))
      case hc => exact upd_self _ _ _
      case hz => rw [ecut]; simp [intl]; omega
      intro d hd hdL
      rw [el2]
      walk_at "ly"
      with_reducible refine' ex_nil ?_
      walk_at "ly"
      show if false = true then _ else _
      walk_at "ly"
      with_reducible refine' ex_nil ?_
      walk_at "ly"
      with_reducible refine' ex_nil ?_
      with_reducible refine' lq_next ?_
      have e9 : act P M 1 (g :: r) = (P g).getD g :: r := by
        show (sel P M 1 g).getD [g] ++ r = _
        unfold sel; rw [if_pos rfl]; cases P g <;> rfl
      rw [e9] at hs'
      exact ⟨hlt, sub_new (sub_new (sub_new (sub_new s1 ha1) hc1) hc2) hd, d, _, r, upd_self _ _ _, hs'.symm, by omega, by walk_at "lyl", fun x y1 y2 => (lkr_miss y2).trans ((lkr_miss y1).trans (k2 x y1 y2))⟩
    · have e1 : (n == 1) = false := by simp [h1]
      rw [e1]
      walk_at "ly"
      with_reducible refine' ex_nil ?_
      walk_at "ly"
      by_cases h3 : n = 3
      · subst h3
        show if true = true then _ else _
        walk_at "ly"
        rename_i a1 ha1 ha1L
        have hd0 : ∃ (d0 : Addr) (gs : List Int), (dk kv3 g).getD (.ref a1) = .ref d0 ∧ upd H' a1 (.tup [.int g 0]) d0 = some (.tup (intl gs)) ∧ gs = (M g).getD [g] ∧ 1 ≤ gs.length ∧ gs.length ≤ 3 := by
          cases hM' : M g with
          | none => rw [(hM g).1 hM']; exact ⟨a1, [g], rfl, upd_self _ _ _, rfl, by simp, by simp⟩
          | some gs =>
            obtain ⟨pt, b1, b2, b3, b4⟩ := (hM g).2 gs hM'
            rw [b1]
            exact ⟨pt, gs, rfl, h_fresh ha1 (s1 _ _ b2), rfl, b3, b4⟩
        obtain ⟨d0, gs, f1, f2, f3, f4, f5⟩ := hd0
        rw [f1]
        with_reducible refine' cr_list ?ha ?hz ?_
        case ha => exact f2
        case hz => simp [intl]; omega
        intro b hb hbL
        walk_at "ly"
        rename_i c1 l' u' el eu hc1 hc1L c2 hc2 hc2L
        have el2 : intl gs ++ cut (intl (g :: r)) (some 1) none = intl (gs ++ r) := by rw [ecut]; unfold intl; rw [List.map_append]
        with_reducible refine' op_cat ?ha ?hc ?hz ?_
        case ha => exact h_fresh hc2 (h_fresh hc1 (upd_self _ _ _))
        case hc => exact upd_self _ _ _
        case hz => rw [ecut]; simp [intl]; omega
        intro d hd hdL
        rw [el2]
        walk_at "ly"
        with_reducible refine' ex_nil ?_
        walk_at "ly"
        with_reducible refine' ex_nil ?_
        with_reducible refine' lq_next ?_
        have e9 : act P M 3 (g :: r) = gs ++ r := by
          show (sel P M 3 g).getD [g] ++ r = _
          unfold sel; rw [if_neg (by decide), if_pos rfl, f3]
        rw [e9] at hs'
        obtain ⟨g', r', hgr⟩ : ∃ g' r', gs ++ r = g' :: r' := by
          cases gs with
          | nil => simp at f4
          | cons x y => exact ⟨x, y ++ r, rfl⟩
        have hlr : r'.length + 1 = gs.length + r.length := by
          have := congrArg List.length hgr
          simpa using this.symm
        rw [hgr] at hs' ⊢
        exact ⟨hlt, sub_new (sub_new (sub_new (sub_new (sub_new s1 ha1) hb) hc1) hc2) hd, d, g', r', upd_self _ _ _, hs'.symm, by omega, by walk_at "lyl", fun x y1 y2 => (lkr_miss y2).trans ((lkr_miss y1).trans (k2 x y1 y2))⟩
      · have e3 : (n == 3) = false := by simp [h3]
        rw [e3]
        walk_at "ly"
        with_reducible refine' ex_nil ?_
        walk_at "ly"
        with_reducible refine' ex_nil ?_
        with_reducible refine' lq_next ?_
        have e9 : act P M n (g :: r) = g :: r := by
          show (sel P M n g).getD [g] ++ r = _
          unfold sel; rw [if_neg h1, if_neg h3]; rfl
        rw [e9] at hs'
        exact ⟨hlt, s1, pa', g, r, hpa', hs'.symm, by omega, by walk_at "lyl", fun x y1 y2 => (lkr_miss y1).trans (k2 x y1 y2)⟩
end
end P28
section P29
local macro_rules
  | `(tactic| walk_at "ly3") => `(tactic| ((with_reducible refine' as_tup ?ha ?_ ?hl ?h1); (case ha => walk_at "lyh"); (case hl => exact rfl); (case h1 => (repeat' (first | exact List.forall_mem_nil _ | refine List.forall_mem_cons.mpr ⟨fun _ => rfl, ?_⟩)))))
local macro_rules
  | `(tactic| walk_at "ly3") => `(tactic| (with_reducible refine' ao_cons' ?_))
local macro_rules
  | `(tactic| walk_at "ly3") => `(tactic| (with_reducible refine' ao_nil' ?_))
theorem band_pos {a b : Int} (ha : 1 ≤ a ∧ a ≤ 3) (hb : 1 ≤ b ∧ b ≤ 3) : decide (0 < Builtin.bitAnd a b) = (Builtin.bitAnd a b != 0) := by
  obtain ⟨a1, a2⟩ := ha
  obtain ⟨b1, b2⟩ := hb
  have h1 : a = 1 ∨ a = 2 ∨ a = 3 := by omega
  have h2 : b = 1 ∨ b = 2 ∨ b = 3 := by omega
  rcases h1 with rfl | rfl | rfl <;> rcases h2 with rfl | rfl | rfl <;> decide
structure Lw (m : Lc) (G : GA) (mask flag : Int) (ca aa pa va : Addr) : Prop where
  bf : lkr m "buffer" = some (.ref G.bf)
  gd : lkr m "gdef" = some (.ref G.gd)
  lks : lkr m "lookups" = some (.ref G.lks)
  mask : lkr m "mask" = some (.int mask 0)
  flag : lkr m "flag" = some (.int flag 0)
  cov : lkr m "covered" = some (.ref ca)
  act : lkr m "actions" = some (.ref aa)
  plain : lkr m "plain" = some (.ref pa)
  sev : lkr m "several" = some (.ref va)
theorem Lw.to {m m' : Lc} {G : GA} {mask flag : Int} {ca aa pa va : Addr} (h : Lw m G mask flag ca aa pa va) (e : ∀ x : Str, x ∈ ([("buffer" : Str), "gdef", "lookups", "mask", "flag", "covered", "actions", "plain", "several"] : List Str) → lkr m' x = lkr m x) : Lw m' G mask flag ca aa pa va := by
  obtain ⟨h1, h2, h3, h4, h5, h6, h7, h8, h9⟩ := h
  exact ⟨(e _ (by simp)).trans h1, (e _ (by simp)).trans h2, (e _ (by simp)).trans h3, (e _ (by simp)).trans h4, (e _ (by simp)).trans h5, (e _ (by simp)).trans h6, (e _ (by simp)).trans h7, (e _ (by simp)).trans h8, (e _ (by simp)).trans h9⟩
section
variable {w : World} {k : Nat} {S H : AH} {QF : Flow → AH → Lc → Prop} {m : Lc} {G : GA} {is : List (Addr × Inf)} {lo ta tb tbs da ca aa pa va ra : Addr} {mask flag : Int} {P : Int → Option Int} {M : Int → Option (List Int)} {ls : List Addr} {ns cov : List Int} {acs : List Addr} {xs : List Int} {C : CtxA} {ms : Value} {das rows : List (Addr × (Int × Int))} {L : Addr} {kv1 kv3 : List (Int × Value)} {u : Option Value}
noncomputable def LInv (S : AH) (G : GA) (is : List (Addr × Inf)) (L : Addr) (rows : List (Addr × (Int × Int))) (P : Int → Option Int) (M : Int → Option (List Int)) (ns : List Int) (flag mask : Int) (xs : List Int) (ca aa pa va : Addr) (i : Nat) (H' : AH) (m' : Lc) : Prop :=
  i ≤ rows.length ∧ ∃ S' das da u, Sub S S' ∧ Wk S' H' G is (L + 3) u ∧ S' da = some (.list (das.map fun p => .ref p.1)) ∧ Prs S' das ∧ das.map (·.2) = ((rows.map (·.2)).take i).flatMap (outp P M ns flag mask xs) ∧ Lw m' G mask flag ca aa pa va ∧ lkr m' "due" = some (.ref da) ∧ lkr m' "count" = some (.int (((rows.map (·.2)).take i).countP (cond flag mask xs) : Nat) 0)
theorem law_turn {S' : AH} {i : Nat} {r : Addr × (Int × Int)} {pc : Addr} {ps : List Int} (hr : rows[i]? = some r) (sS' : Sub S S') (W : Wk S' H G is (L + 3) (some (.int r.2.2 0))) (hda : S' da = some (.list (das.map fun p => .ref p.1))) (hdas : Prs S' das) (hdue : das.map (·.2) = ((rows.map (·.2)).take i).flatMap (outp P M ns flag mask xs))
    (hpc : H pc = some (.list (intl ps))) (hps : ps.length ≤ 10) (hdl : das.length ≤ 60) (ho : outp P M ns flag mask xs r.2 = ps.map fun g => (g, r.2.2)) (lw : Lw m G mask flag ca aa pa va) (l1 : lkr m "due" = some (.ref da)) (l2 : lkr m "pieces" = some (.ref pc)) (l3 : lkr m "count" = some (.int (((rows.map (·.2)).take (i + 1)).countP (cond flag mask xs) : Nat) 0))
    (q : ∀ H' m', LInv S G is L rows P M ns flag mask xs ca aa pa va (i + 1) H' m' → QF .next H' m') : EX w k (env_841 L) (for19.drop 2) QF H m := by
  have htake : (rows.map (·.2)).take (i + 1) = (rows.map (·.2)).take i ++ [r.2] := by
    rw [List.take_add_one, List.getElem?_map, hr]; rfl
  have hlt := (List.getElem?_eq_some_iff.mp hr).1
  refine law_due W hda hdas hpc hps hdl l1 l2 fun S2 H2 da' das' s2 W2 hda2 hdas2 hd2 => q _ _ ⟨hlt, S2, das', da', _, fun a o e => s2 _ _ (sS' _ _ e), W2, hda2, hdas2, ?_, lw.to ?_, rfl, ?_⟩
  · rw [hd2, htake, List.flatMap_append, hdue, ← ho]; simp
  · intro x hx
    simp only [List.mem_cons, List.not_mem_nil, or_false] at hx
    rcases hx with rfl | rfl | rfl | rfl | rfl | rfl | rfl | rfl | rfl <;> rfl
  · exact l3
theorem law17 (W : Wk S H G is (L + 3) u) (T : Still S G) (K : Lks S G P M ls) (hl0 : ls[0]? = some lo) (hlo : S lo = some (lkp "chain" flag ms tbs)) (htbs : S tbs = some (.list [.ref tb])) (hat : Acs S ta acs ns) (X : Ctx S tb ta xs C) (hf : flag = 0 ∨ flag = 2 ∨ flag = 8) (hlen : is.length ≤ 5)
    (lw : Lw m G mask flag ca aa pa va) (hmask : 1 ≤ mask ∧ mask ≤ 3)
    (hrc : S (L + 2) = some (.cell (some (.ref ra)))) (hra : S ra = some (.list (rows.map fun p => .ref p.1))) (hrows : Prs S rows) (hri : is.map gm = rows.map (·.2)) (hrm : ∀ p ∈ rows, 1 ≤ p.2.2 ∧ p.2.2 ≤ 3)
    (hca : S ca = some (.list (intl cov))) (hcov : ∀ g, g ∈ xs ↔ g ∈ cov) (haa : S aa = some (.list (intl ns))) (hpa : S pa = some (.dict kv1)) (hP : ∀ g, dk kv1 g = (P g).map fun i => .int i 0) (hva : S va = some (.dict kv3))
    (hM : ∀ g, (M g = none → dk kv3 g = none) ∧ ∀ gs, M g = some gs → ∃ pt, dk kv3 g = some (.ref pt) ∧ S pt = some (.tup (intl gs)) ∧ 1 ≤ gs.length ∧ gs.length ≤ 3)
    (q : ∀ H' m, Sub S H' → QF (.ret (.bool true)) H' m) : EX w (k + 14) (env_841 L) ((fB (st PW 100)).drop 17) QF H m := by
  have hMl := K.le
  have hrl : rows.length = is.length := by
    have := congrArg List.length hri
    simpa using this.symm
  walk_at "lyb"
  walk_at "ly"
  rename_i d0 hd0 hd0L
  have W0 := W.up (o := .list []) hd0
  have Sd0 := sub_none W.sub hd0
  have sS0 : Sub S (upd S d0 (.list [])) := sub_new Sub.rfl' Sd0
  with_reducible refine' e1_for ?_ ?hs
  case hs => intro _; exact rfl
  have hrc0 := W0.sub _ _ (sS0 _ _ hrc)
  walk_at "ly"
  refine ⟨.list ra, rows.length, LInv S G is L rows P M ns flag mask xs ca aa pa va, .list (W0.sub _ _ (sS0 _ _ hra)), .inr ⟨_, _, _, _, rfl, rfl⟩, ⟨Nat.zero_le _, _, [], d0, u, sS0, W0, upd_self _ _ _, (fun _ h => (nomatch h)), rfl, lw.to ?_, rfl, rfl⟩, ?_⟩
  · intro x hx
    simp only [List.mem_cons, List.not_mem_nil, or_false] at hx
    rcases hx with rfl | rfl | rfl | rfl | rfl | rfl | rfl | rfl | rfl <;> rfl
  rintro i H' m' ⟨hi, S', das, da, u', sS', W', hda, hdas, hdue, lw', l5, l6⟩
  have hra' := W'.sub _ _ (sS' _ _ hra)
  have hrc' := W'.sub _ _ (sS' _ _ hrc)
  have lw0 := lw'
  obtain ⟨b1, b2, b3, b4, b5, b6, b7, b8, b9⟩ := lw'
  refine ⟨_, .list hra' rfl, fun en => ?_, fun y ey => ?_⟩
  · have hge : rows.length ≤ i := by
      rw [List.getElem?_map] at en
      exact List.getElem?_eq_none_iff.mp (Option.map_eq_none_iff.mp en)
    rw [List.take_of_length_le (by simpa using hge)] at hdue l6
    with_reducible refine' nx_next ?_
    with_reducible refine' ex_body ?e (law20 W'.sub (T.mono sS') W'.row (K.mono sS') hl0 (h_sub sS' hlo) (h_sub sS' htbs) (hat.mono sS') (X.mono sS') hf hlen b1 b2 b3 b4 ?l5 l5 hda hdas ?hdue ?q)
    case e => exact rfl
    case l5 => rw [hri]; exact l6
    case hdue => rw [hri]; exact hdue
    case q => exact fun H2 m2 s => q H2 m2 fun a o e => s _ _ (sS' _ _ e)
  · obtain ⟨r, hr, rfl⟩ : ∃ r, rows[i]? = some r ∧ Value.ref r.1 = y := by
      rw [List.getElem?_map] at ey
      exact Option.map_eq_some_iff.mp ey
    have hlt := (List.getElem?_eq_some_iff.mp hr).1
    have hrt := W'.sub _ _ (sS' _ _ (hrows r (List.mem_of_getElem? hr)))
    have hro := hrm r (List.mem_of_getElem? hr)
    have hown := W'.own
    have htake : (rows.map (·.2)).take (i + 1) = (rows.map (·.2)).take i ++ [r.2] := by
      rw [List.take_add_one, List.getElem?_map, hr]; rfl
    have hol := outp_len (P := P) hMl hat.le flag mask xs ((rows.map (·.2)).take i)
    have hdl : das.length ≤ 60 := by
      have := congrArg List.length hdue
      rw [List.length_map] at this
      rw [this]
      refine Nat.le_trans hol ?_
      simp only [List.length_take, List.length_map]; omega
    refine ⟨hlt, ?_⟩
    walk_at "ly"
    rename_i pc hpc hpcL
    have W1 : Wk S' (upd (upd H' (L + 1 + 1 + 1) (.cell (some (.int r.2.2 0)))) pc (.list [.int r.2.1 0])) G is (L + 3) (some (.int r.2.2 0)) := (W'.cell (u' := some (.int r.2.2 0))).new (o := .list (intl [r.2.1])) hpc
    have hpc1 : upd (upd H' (L + 1 + 1 + 1) (.cell (some (.int r.2.2 0)))) pc (.list [.int r.2.1 0]) pc = some (.list (intl [r.2.1])) := upd_self _ _ _
    generalize upd (upd H' (L + 1 + 1 + 1) (.cell (some (.int r.2.2 0)))) pc (.list [.int r.2.1 0]) = H1 at W1 hpc1 ⊢
    have bp := band_pos hro hmask
    have lw1 : Lw (("pieces", .ref pc) :: ("glyph", .int r.2.1 0) :: m') G mask flag ca aa pa va := lw0.to fun x hx => by
      simp only [List.mem_cons, List.not_mem_nil, or_false] at hx
      rcases hx with rfl | rfl | rfl | rfl | rfl | rfl | rfl | rfl | rfl <;> rfl
    have c0 : cond flag mask xs r.2 = false → lkr (("pieces", .ref pc) :: ("glyph", .int r.2.1 0) :: m') "count" = some (.int (((rows.map (·.2)).take (i + 1)).countP (cond flag mask xs) : Nat) 0) := fun hc => by
      rw [htake, List.countP_append, List.countP_singleton, hc]; exact l6
    have ho0 : cond flag mask xs r.2 = false → outp P M ns flag mask xs r.2 = [r.2.1].map fun g => (g, r.2.2) := fun hc => by
      unfold outp; rw [hc]; rfl
    have hca1 := W1.sub _ _ (sS' _ _ hca)
    rw [bp]
    refine ifc (fun h1 => ?_) (fun h1 => ?_)
    · walk_at "ly"
      with_reducible refine' cm_in_ints ?ha ?_
      case ha => exact hca1
      have hany : (cov.any fun x => x == r.2.1) = decide (r.2.1 ∈ xs) := by
        rw [Bool.eq_iff_iff, List.any_eq_true, decide_eq_true_iff, hcov]
        exact ⟨fun ⟨x, h1, h2⟩ => by rw [← beq_iff_eq.mp h2]; exact h1, fun h => ⟨_, h, beq_self_eq_true _⟩⟩
      rw [hany]
      refine ⟨_, rfl, ?_⟩
      by_cases hx : r.2.1 ∈ xs
      · rw [decide_eq_true hx]
        walk_at "ly"
        with_reducible refine' k_call (c_passed hf ?_) ?hk
        case hk => exact Nat.le_add_left _ _
        intro _
        walk_at "ly"
        cases hpd : passed flag r.2.1 with
        | true =>
          show if false = true then _ else _
          walk_at "ly"
          have hc : cond flag mask xs r.2 = false := by unfold cond; rw [hpd]; simp
          with_reducible refine' ex_nil ?_
          with_reducible refine' nx_next ?_
          with_reducible refine' ex_body ?e (law_turn hr sS' W1 hda hdas hdue hpc1 ?hps hdl (ho0 hc) lw1 ?l1 rfl (c0 hc) ?q)
          case e => exact rfl
          case hps => simp
          case l1 => exact l5
          case q => exact fun H2 m2 h => h
        | false =>
          show if true = true then _ else _
          have hc : cond flag mask xs r.2 = true := by unfold cond; rw [h1, hpd, decide_eq_true hx]; rfl
          walk_at "ly"
          with_reducible refine' e1_body ?e (law_acts (ps := [r.2.1]) (h_sub W1.sub (h_sub sS' haa)) (h_sub W1.sub (h_sub sS' hpa)) hP (h_sub W1.sub (h_sub sS' hva)) ?hM hpc1 ?hps hat.le ?l1 ?l2 ?l3 ?l4 ?_)
          case e => exact rfl
          case hM => exact fun g => ⟨(hM g).1, fun gs h => let ⟨pt, a1, a2, a3⟩ := (hM g).2 gs h; ⟨pt, a1, W1.sub _ _ (sS' _ _ a2), a3⟩⟩
          case hps => rfl
          case l1 => exact b7
          case l2 => rfl
          case l3 => exact b8
          case l4 => exact b9
          intro H2 m2 pa' s2 hpa2 l8 lk2
          have W2 := W1.grow s2
          with_reducible refine' nx_next ?_
          with_reducible refine' ex_nil ?_
          with_reducible refine' nx_next ?_
          have hal := acts_len (P := P) hMl ns [r.2.1]
          have hn3 := hat.le
          with_reducible refine' ex_body ?e (law_turn hr sS' W2 hda hdas hdue hpa2 ?hps hdl ?ho ?lw ?l1 l8 ?l3 ?q)
          case e => exact rfl
          case hps => simp only [List.length_cons, List.length_nil] at hal; omega
          case ho => unfold outp; rw [hc]; rfl
          case lw =>
            refine lw1.to fun x hx => ?_
            simp only [List.mem_cons, List.not_mem_nil, or_false] at hx
            rcases hx with rfl | rfl | rfl | rfl | rfl | rfl | rfl | rfl | rfl <;> exact (lk2 _ rfl rfl).trans rfl
          case l1 => exact (lk2 _ rfl rfl).trans l5
          case l3 =>
            refine (lk2 _ rfl rfl).trans ?_
            rw [htake, List.countP_append, List.countP_singleton, hc]
            rfl
          case q => exact fun H2 m2 h => h
      · rw [decide_eq_false hx]
        walk_at "ly"
        have hc : cond flag mask xs r.2 = false := by unfold cond; rw [decide_eq_false hx]; simp
        with_reducible refine' ex_nil ?_
        with_reducible refine' nx_next ?_
        with_reducible refine' ex_body ?e (law_turn hr sS' W1 hda hdas hdue hpc1 ?hps hdl (ho0 hc) lw1 ?l1 rfl (c0 hc) ?q)
        case e => exact rfl
        case hps => simp
        case l1 => exact l5
        case q => exact fun H2 m2 h => h
    · walk_at "ly"
      have hc : cond flag mask xs r.2 = false := by unfold cond; rw [h1]; rfl
      with_reducible refine' ex_nil ?_
      with_reducible refine' nx_next ?_
      with_reducible refine' ex_body ?e (law_turn hr sS' W1 hda hdas hdue hpc1 ?hps hdl (ho0 hc) lw1 ?l1 rfl (c0 hc) ?q)
      case e => exact rfl
      case hps => simp
      case l1 => exact l5
      case q => exact fun H2 m2 h => h
end
end P29
section P19
section
variable {w : World} {k : Nat} {S H : AH} {Q : Value → AH → Prop} {x : Addr}
theorem i_cov {a0 : Value} (hx : H x = some (.inst 384 [])) (q : Q .none (upd H x (.inst 384 [("glyphs", a0)]))) : TC w (k + 1) (.ref 360) [.ref x, a0] Q H := by
  with_reducible refine' fn_360 ?_; intro L hL
  walk_at "lyb"
  walk_at "ly"
  with_reducible refine' ex_nil ?_
  simp only [upd_twice, retOf]
  with_reducible refine' inst_congr ?e q
  case e => kernel_rfl
theorem n_cov {a0 : Value} (q : ∀ x, H x = none → Q (.ref x) (upd H x (.inst 384 [("glyphs", a0)]))) : TC w (k + 2) (.ref 384) [a0] Q H :=
  tc_new (mk_384 w) fun x hx => i_cov (upd_self _ _ _) ⟨rfl, by rw [upd_twice]; exact q x hx⟩
theorem i_rule {a0 a1 a2 a3 : Value} (hx : H x = some (.inst 426 [])) (q : Q .none (upd H x (.inst 426 [("back", a0), ("inside", a1), ("ahead", a2), ("actions", a3)]))) : TC w (k + 1) (.ref 409) [.ref x, a0, a1, a2, a3] Q H := by
  with_reducible refine' fn_409 ?_; intro L hL
  walk_at "lyb"
  walk_at "ly"
  with_reducible refine' ex_nil ?_
  simp only [upd_twice, retOf]
  with_reducible refine' inst_congr ?e q
  case e => kernel_rfl
theorem n_rule {a0 a1 a2 a3 : Value} (q : ∀ x, H x = none → Q (.ref x) (upd H x (.inst 426 [("back", a0), ("inside", a1), ("ahead", a2), ("actions", a3)]))) : TC w (k + 2) (.ref 426) [a0, a1, a2, a3] Q H :=
  tc_new (mk_426 w) fun x hx => i_rule (upd_self _ _ _) ⟨rfl, by rw [upd_twice]; exact q x hx⟩
theorem i_ctx {a0 a1 a2 : Value} (hx : H x = some (.inst 467 [])) (q : Q .none (upd H x (.inst 467 [("form", a0), ("is_chained", a1), ("sets", a2), ("coverage", .none), ("classes", .none)]))) : TC w (k + 1) (.ref 445) [.ref x, a0, a1, a2] Q H := by
  with_reducible refine' fn_445_2 ?_; intro L hL
  walk_at "lyb"
  walk_at "ly"
  with_reducible refine' ex_nil ?_
  simp only [upd_twice, retOf]
  with_reducible refine' inst_congr ?e q
  case e => kernel_rfl
theorem n_ctx {a0 a1 a2 : Value} (q : ∀ x, H x = none → Q (.ref x) (upd H x (.inst 467 [("form", a0), ("is_chained", a1), ("sets", a2), ("coverage", .none), ("classes", .none)]))) : TC w (k + 2) (.ref 467) [a0, a1, a2] Q H :=
  tc_new (mk_467 w) fun x hx => i_ctx (upd_self _ _ _) ⟨rfl, by rw [upd_twice]; exact q x hx⟩
theorem i_lookup {a0 a1 a2 a3 : Value} (hx : H x = some (.inst 43 [])) (q : Q .none (upd H x (.inst 43 [("kind", a0), ("flag", a1), ("mark_set", a2), ("tables", a3)]))) : TC w (k + 1) (.ref 35) [.ref x, a0, a1, a2, a3] Q H := by
  with_reducible refine' fn_35 ?_; intro L hL
  walk_at "lyb"
  walk_at "ly"
  with_reducible refine' ex_nil ?_
  simp only [upd_twice, retOf]
  with_reducible refine' inst_congr ?e q
  case e => kernel_rfl
theorem n_lookup {a0 a1 a2 a3 : Value} (q : ∀ x, H x = none → Q (.ref x) (upd H x (.inst 43 [("kind", a0), ("flag", a1), ("mark_set", a2), ("tables", a3)]))) : TC w (k + 2) (.ref 43) [a0, a1, a2, a3] Q H :=
  tc_new (mk_43 w) fun x hx => i_lookup (upd_self _ _ _) ⟨rfl, by rw [upd_twice]; exact q x hx⟩
theorem i_single {a0 : Value} (hx : H x = some (.inst 621 [])) (q : Q .none (upd H x (.inst 621 [("mapping", a0)]))) : TC w (k + 1) (.ref 613) [.ref x, a0] Q H := by
  with_reducible refine' fn_613 ?_; intro L hL
  walk_at "lyb"
  walk_at "ly"
  with_reducible refine' ex_nil ?_
  simp only [upd_twice, retOf]
  with_reducible refine' inst_congr ?e q
  case e => kernel_rfl
theorem n_single {a0 : Value} (q : ∀ x, H x = none → Q (.ref x) (upd H x (.inst 621 [("mapping", a0)]))) : TC w (k + 2) (.ref 621) [a0] Q H :=
  tc_new (mk_621 w) fun x hx => i_single (upd_self _ _ _) ⟨rfl, by rw [upd_twice]; exact q x hx⟩
theorem i_multi {a0 : Value} (hx : H x = some (.inst 647 [])) (q : Q .none (upd H x (.inst 647 [("mapping", a0)]))) : TC w (k + 1) (.ref 639) [.ref x, a0] Q H := by
  with_reducible refine' fn_639 ?_; intro L hL
  walk_at "lyb"
  walk_at "ly"
  with_reducible refine' ex_nil ?_
  simp only [upd_twice, retOf]
  with_reducible refine' inst_congr ?e q
  case e => kernel_rfl
theorem n_multi {a0 : Value} (q : ∀ x, H x = none → Q (.ref x) (upd H x (.inst 647 [("mapping", a0)]))) : TC w (k + 2) (.ref 647) [a0] Q H :=
  tc_new (mk_647 w) fun x hx => i_multi (upd_self _ _ _) ⟨rfl, by rw [upd_twice]; exact q x hx⟩
theorem i_rev {a0 a1 a2 : Value} (hx : H x = some (.inst 588 [])) (q : Q .none (upd H x (.inst 588 [("mapping", a0), ("back", a1), ("ahead", a2)]))) : TC w (k + 1) (.ref 580) [.ref x, a0, a1, a2] Q H := by
  with_reducible refine' fn_580 ?_; intro L hL
  walk_at "lyb"
  walk_at "ly"
  with_reducible refine' ex_nil ?_
  simp only [upd_twice, retOf]
  with_reducible refine' inst_congr ?e q
  case e => kernel_rfl
theorem n_rev {a0 a1 a2 : Value} (q : ∀ x, H x = none → Q (.ref x) (upd H x (.inst 588 [("mapping", a0), ("back", a1), ("ahead", a2)]))) : TC w (k + 2) (.ref 588) [a0, a1, a2] Q H :=
  tc_new (mk_588 w) fun x hx => i_rev (upd_self _ _ _) ⟨rfl, by rw [upd_twice]; exact q x hx⟩
theorem i_cdef {a0 : Value} (hx : H x = some (.inst 757 [])) (q : Q .none (upd H x (.inst 757 [("classes", a0)]))) : TC w (k + 1) (.ref 728) [.ref x, a0] Q H := by
  with_reducible refine' fn_728 ?_; intro L hL
  walk_at "lyb"
  walk_at "ly"
  with_reducible refine' ex_nil ?_
  simp only [upd_twice, retOf]
  with_reducible refine' inst_congr ?e q
  case e => kernel_rfl
theorem n_cdef {a0 : Value} (q : ∀ x, H x = none → Q (.ref x) (upd H x (.inst 757 [("classes", a0)]))) : TC w (k + 2) (.ref 757) [a0] Q H :=
  tc_new (mk_757 w) fun x hx => i_cdef (upd_self _ _ _) ⟨rfl, by rw [upd_twice]; exact q x hx⟩
theorem i_buf {a0 : Value} (hx : H x = some (.inst 186 [])) (q : Q .none (upd H x (.inst 186 [("row", a0), ("is_backward", .bool false), ("last_lig", .int 0 0)]))) : TC w (k + 1) (.ref 161) [.ref x, a0] Q H := by
  with_reducible refine' fn_161_1 ?_; intro L hL
  walk_at "lyb"
  walk_at "ly"
  with_reducible refine' ex_nil ?_
  simp only [upd_twice, retOf]
  with_reducible refine' inst_congr ?e q
  case e => kernel_rfl
theorem n_buf {a0 : Value} (q : ∀ x, H x = none → Q (.ref x) (upd H x (.inst 186 [("row", a0), ("is_backward", .bool false), ("last_lig", .int 0 0)]))) : TC w (k + 2) (.ref 186) [a0] Q H :=
  tc_new (mk_186 w) fun x hx => i_buf (upd_self _ _ _) ⟨rfl, by rw [upd_twice]; exact q x hx⟩
theorem kx_x {A B : AH} {x : Addr} {o : O} (h : ∀ a o', a ≠ x → A a = some o' → B a = some o') : ∀ a o', a ≠ x → A a = some o' → upd B x o a = some o' := fun a o' n e => h_old n (h a o' n e)
theorem kx_new {A B : AH} {x c : Addr} {o : O} (h : ∀ a o', a ≠ x → A a = some o' → B a = some o') (hc : B c = none) : ∀ a o', a ≠ x → A a = some o' → upd B c o a = some o' := fun a o' n e => h_fresh hc (h a o' n e)
theorem i_gdef {a0 a1 a2 : Value} (hx : H x = some (.inst 805 [])) (q : ∀ H' v1 v2, (∀ a o, a ≠ x → H a = some o → H' a = some o) → H' x = some (.inst 805 [("classes", a0), ("attach", a1), ("sets", a2), ("points", v1), ("carets", v2)]) → Q .none H') : TC w (k + 1) (.ref 776) [.ref x, a0, a1, a2] Q H := by
  with_reducible refine' fn_776_2 ?_; intro L hL
  walk_at "lyb"
  walk_at "ly"
  show if true = true then _ else _
  walk_at "ly"
  show if true = true then _ else _
  walk_at "ly"
  with_reducible refine' ex_nil ?_
  rename_i d1 _ _ d2 _ _
  refine q _ (.ref d1) (.ref d2) ?_ ?_
  · exact kx_x (kx_new (kx_x (kx_new (kx_x (kx_x (kx_x fun a o _ e => e))) (by with_reducible assumption))) (by with_reducible assumption))
  · with_reducible refine' Eq.trans (upd_self _ _ _) ?_
    kernel_rfl
theorem n_gdef {a0 a1 a2 : Value} (q : ∀ H' x v1 v2, Sub H H' → H' x = some (.inst 805 [("classes", a0), ("attach", a1), ("sets", a2), ("points", v1), ("carets", v2)]) → Q (.ref x) H') : TC w (k + 2) (.ref 805) [a0, a1, a2] Q H :=
  tc_new (mk_805 w) fun x hx => i_gdef (upd_self _ _ _) fun H' v1 v2 h1 h2 => ⟨rfl, q H' x v1 v2 (fun a o e => (by
    have : a ≠ x := fun z => by rw [z, hx] at e; cases e
    exact h1 a o this (h_old this e))) h2⟩
end
section
variable {w : World} {k : Nat} {S H : AH} {Q : Value → AH → Prop} {x : Addr}
local macro_rules
  | `(tactic| walk_at "ly3") => `(tactic| (((with_reducible refine' k_call (n_cov ?_) ?hk); (case hk => exact Nat.le_refl _)); intro _ _ _))
noncomputable def addk (m : List (Int × Value)) (g : Int) : List (Int × Value) := dput m g (.bool true)
theorem dput_keys (m : List (Int × Value)) (g : Int) (v : Value) : (dput m g v).map (·.1) = if g ∈ m.map (·.1) then m.map (·.1) else m.map (·.1) ++ [g] := by
  unfold dput
  have e : (m.any fun kv => decide (kv.1 = g)) = decide (g ∈ m.map (·.1)) := by
    rw [Bool.eq_iff_iff]
    simp
  rw [e]
  by_cases h : g ∈ m.map (·.1)
  · rw [if_pos (decide_eq_true h), if_pos h, List.map_map]
    apply List.map_congr_left
    intro p _
    dsimp only [Function.comp]
    split <;> rfl
  · rw [if_neg (by simpa using h), if_neg h, List.map_append]; rfl
theorem c_covof {gs : List Int} {l : Addr} (hl : H l = some (.list (intl gs))) (hn : gs.length < 50) (q : ∀ H' x t ns, Sub H H' → H' x = some (.inst 384 [("glyphs", .ref t)]) → H' t = some (.tup (intl ns)) → (∀ g, g ∈ ns ↔ g ∈ gs) → ns.Pairwise (· < ·) → ns.length ≤ gs.length → Q (.ref x) H') : TC w (k + 3) (.ref 395) [.ref l] Q H := by
  with_reducible refine' TC.drop (fn_395 ?_); intro L hL
  walk_at "lyb"
  walk_at "ly"
  rename_i fa hfa hfL
  with_reducible refine' e1_for ?_ ?hs
  case hs => intro _; exact rfl
  walk_at "ly"
  refine ⟨.list l, gs.length, fun i H' m => ∃ kvs, Sub H H' ∧ H' fa = some (.dict kvs) ∧ (kvs.map (·.1)).Nodup ∧ (∀ g, g ∈ kvs.map (·.1) ↔ g ∈ gs.take i) ∧ kvs.length ≤ i ∧ i ≤ gs.length ∧ lkr m "found" = some (.ref fa), .list (by walk_at "lyh"), .inl fun _ _ => rfl, ⟨[], by walk_at "lysub", by walk_at "lyh", .nil, by simp, by simp, by omega, by walk_at "lyl"⟩, ?_⟩
  rintro i H' m ⟨kvs, s1, hf, nd, mem, hk, hi, l1⟩
  have hl' := s1 _ _ hl
  refine ⟨(intl gs)[i]?, .list hl' rfl, fun e => ?_, fun y e => ?_⟩
  · have e2 : gs.length ≤ i := by
      unfold intl at e
      rw [List.getElem?_map] at e
      exact List.getElem?_eq_none_iff.mp (Option.map_eq_none_iff.mp e)
    rw [List.take_of_length_le e2] at mem
    walk_at "ly"
    with_reducible refine' x_ret (P := DQ Q) ?_ ?r
    case r => exact fun _ _ _ h => h
    walk_at "ly"
    with_reducible refine' cr_sorted ?ha ?hz ?_
    case ha => walk_at "lyh"
    case hz => omega
    intro c ns hc hcL hp hs
    have hnl : ns.length = kvs.length := by rw [hp.length_eq, List.length_map]
    walk_at "ly"
    with_reducible refine' cr_tuple ?ha ?hz ?_
    case ha => walk_at "lyh"
    case hz => unfold intl; rw [List.length_map]; omega
    intro t ht htL
    walk_at "ly"
    refine dq0 (q _ _ t ns (by walk_at "lysub") (by walk_at "lyh") (by walk_at "lyh") (fun g => ?_) ?_ (by omega))
    · rw [hp.mem_iff]; exact mem g
    · have nd' : ns.Nodup := hp.nodup_iff.mpr nd
      have := List.pairwise_and_iff.mpr ⟨hs, nd'⟩
      exact this.imp fun {a b} h => Int.lt_iff_le_and_ne.mpr h
  · have e3 : ∃ g, gs[i]? = some g ∧ y = .int g 0 := by
      unfold intl at e
      rw [List.getElem?_map] at e
      obtain ⟨g, h1, h2⟩ := Option.map_eq_some_iff.mp e
      exact ⟨g, h1, h2.symm⟩
    obtain ⟨g, hg, rfl⟩ := e3
    have hlt := (List.getElem?_eq_some_iff.mp hg).1
    refine ⟨hlt, ?_⟩
    walk_at "ly"
    with_reducible refine' si_dict ?ha ?hz ?_
    case ha => walk_at "lyh"
    case hz => omega
    walk_at "ly"
    with_reducible refine' ex_nil ?_
    with_reducible refine' lq_next ?_
    refine ⟨dput kvs g (.bool true), sub_old s1 hfa, upd_self _ _ _, ?_, fun x => ?_, ?_, hlt, by walk_at "lyl"⟩
    · rw [dput_keys]
      split
      · exact nd
      · rename_i h
        rw [List.nodup_append]
        exact ⟨nd, List.pairwise_singleton _ _, fun a ha b hb z => h (by rw [List.mem_singleton] at hb; rw [← hb, ← z]; exact ha)⟩
    · rw [dput_keys, List.take_add_one, hg]
      split
      · rename_i h
        rw [mem x]
        simp only [Option.toList, List.mem_append, List.mem_singleton]
        exact ⟨.inl, fun z => z.elim id fun z => by rw [z]; exact (mem g).mp h⟩
      · simp only [Option.toList, List.mem_append, List.mem_singleton, mem x]
    · have := congrArg List.length (dput_keys kvs g (.bool true))
      rw [List.length_map] at this
      rw [this]
      split <;> simp <;> omega
end
end P19
section P30
local macro_rules
  | `(tactic| walk_at "ly3") => `(tactic| (((with_reducible refine' k_call (c_classes ?_) ?hk); (case hk => exact Nat.le_add_left _ _)); intro _ _ _))
structure Lv (m : Lc) (lk : Addr) (mask flag : Int) (ca aa pa va : Addr) : Prop where
  lks : lkr m "lookups" = some (.ref lk)
  mask : lkr m "mask" = some (.int mask 0)
  flag : lkr m "flag" = some (.int flag 0)
  cov : lkr m "covered" = some (.ref ca)
  act : lkr m "actions" = some (.ref aa)
  plain : lkr m "plain" = some (.ref pa)
  sev : lkr m "several" = some (.ref va)
theorem Lv.to {m m' : Lc} {lk : Addr} {mask flag : Int} {ca aa pa va : Addr} (h : Lv m lk mask flag ca aa pa va) (e : ∀ x : Str, x ∈ ([("lookups" : Str), "mask", "flag", "covered", "actions", "plain", "several"] : List Str) → lkr m' x = lkr m x) : Lv m' lk mask flag ca aa pa va := by
  obtain ⟨h3, h4, h5, h6, h7, h8, h9⟩ := h
  exact ⟨(e _ (by simp)).trans h3, (e _ (by simp)).trans h4, (e _ (by simp)).trans h5, (e _ (by simp)).trans h6, (e _ (by simp)).trans h7, (e _ (by simp)).trans h8, (e _ (by simp)).trans h9⟩
noncomputable def gaL (rl lk : Addr) : GA := ⟨0, 0, 0, .none, .none, .none, .none, 0, rl, .none, .none, lk⟩
theorem Wk.know {S H : AH} {G : GA} {is : List (Addr × Inf)} {c d C : Addr} {u : Option Value} {fs : List (Str × Value)} (W : Wk S H G is c u) (hd : H d = some (.inst C fs)) (hC : C ≠ 142) : Wk (upd S d (.inst C fs)) H G is c u ∧ Sub S (upd S d (.inst C fs)) := by
  have f := fgn_inst W.row hd hC
  have hcd : c ≠ d := fun z => by have := W.own; rw [z, hd] at this; cases this
  refine ⟨⟨fun a o e => ?_, ⟨W.row.rl, W.row.at_, W.row.ap, ?_, fun p hp => ?_, W.row.len⟩, W.own, ?_⟩, fun a o e => ?_⟩
  · by_cases z : a = d
    · subst z; rw [upd_self] at e; cases e; exact hd
    · rw [upd_ne _ _ z] at e; exact W.sub _ _ e
  · rw [upd_ne _ _ (Ne.symm f.1)]; exact W.row.nr
  · rw [upd_ne _ _ (Ne.symm (f.2 p hp))]; exact W.row.ns p hp
  · rw [upd_ne _ _ hcd]; exact W.no
  · by_cases z : a = d
    · subst z
      have := W.sub _ _ e
      rw [hd] at this; cases this
      exact upd_self _ _ _
    · rw [upd_ne _ _ z]; exact e
section
variable {w : World} {k : Nat} {S H : AH} {QF : Flow → AH → Lc → Prop} {m : Lc} {is : List (Addr × Inf)} {lo ta tb tbs da ca aa pa va ra rl lk : Addr} {mask flag : Int} {P : Int → Option Int} {M : Int → Option (List Int)} {ls : List Addr} {ns cov : List Int} {acs : List Addr} {xs : List Int} {C : CtxA} {ms : Value} {rows : List (Addr × (Int × Int))} {L : Addr} {kv1 kv3 : List (Int × Value)} {u : Option Value}
theorem law15 (W : Wk S H (gaL rl lk) is (L + 3) u) (K : Lks S (gaL rl lk) P M ls) (hl0 : ls[0]? = some lo) (hlo : S lo = some (lkp "chain" flag ms tbs)) (htbs : S tbs = some (.list [.ref tb])) (hat : Acs S ta acs ns) (X : Ctx S tb ta xs C) (hf : flag = 0 ∨ flag = 2 ∨ flag = 8) (hlen : is.length ≤ 5)
    (lv : Lv m lk mask flag ca aa pa va) (lin : lkr m "infos" = some (.ref rl)) (hmask : 1 ≤ mask ∧ mask ≤ 3)
    (hrc : S (L + 2) = some (.cell (some (.ref ra)))) (hra : S ra = some (.list (rows.map fun p => .ref p.1))) (hrows : Prs S rows) (hri : is.map gm = rows.map (·.2)) (hrm : ∀ p ∈ rows, 1 ≤ p.2.2 ∧ p.2.2 ≤ 3)
    (hca : S ca = some (.list (intl cov))) (hcov : ∀ g, g ∈ xs ↔ g ∈ cov) (haa : S aa = some (.list (intl ns))) (hpa : S pa = some (.dict kv1)) (hP : ∀ g, dk kv1 g = (P g).map fun i => .int i 0) (hva : S va = some (.dict kv3))
    (hM : ∀ g, (M g = none → dk kv3 g = none) ∧ ∀ gs, M g = some gs → ∃ pt, dk kv3 g = some (.ref pt) ∧ S pt = some (.tup (intl gs)) ∧ 1 ≤ gs.length ∧ gs.length ≤ 3)
    (q : ∀ H' m, Sub S H' → QF (.ret (.bool true)) H' m) : EX w (k + 14) (env_841 L) ((fB (st PW 100)).drop 15) QF H m := by
  walk_at "lyb"
  walk_at "ly"
  with_reducible refine' k_call (n_buf ?_) ?hk
  case hk => exact Nat.le_add_left _ _
  intro bf hbf _
  have W1 := W.up (o := .inst 186 [("row", .ref rl), ("is_backward", .bool false), ("last_lig", .int 0 0)]) hbf
  have s1 : Sub S (upd S bf (.inst 186 [("row", .ref rl), ("is_backward", .bool false), ("last_lig", .int 0 0)])) := sub_new Sub.rfl' (sub_none W.sub hbf)
  walk_at "ly"
  rename_i d0 hd0 _
  have W2 := W1.new (o := .dict CLS) hd0
  with_reducible refine' cr_dict ?ha ?hz ?_
  case ha => exact upd_self _ _ _
  case hz => decide
  intro cdict hcdict _
  have W3 := W2.up (o := .dict CLS) hcdict
  have s3 : Sub S _ := fun a o e => sub_new (o := .dict CLS) Sub.rfl' (sub_none W2.sub hcdict) _ _ (s1 _ _ e)
  have bfS := h_fresh (o' := .dict CLS) (sub_none W2.sub hcdict) (upd_self S bf (.inst 186 [("row", .ref rl), ("is_backward", .bool false), ("last_lig", .int 0 0)]))
  have cdS := upd_self (upd S bf (.inst 186 [("row", .ref rl), ("is_backward", .bool false), ("last_lig", .int 0 0)])) cdict (.dict CLS)
  walk_at "ly"
  generalize upd (upd S bf (.inst 186 [("row", .ref rl), ("is_backward", .bool false), ("last_lig", .int 0 0)])) cdict (.dict CLS) = S3 at W3 s3 bfS cdS
  generalize upd (upd (upd H bf (.inst 186 [("row", .ref rl), ("is_backward", .bool false), ("last_lig", .int 0 0)])) d0 (.dict CLS)) cdict (.dict CLS) = H3 at W3 ⊢
  with_reducible refine' k_call (n_cdef ?_) ?hk
  case hk => exact Nat.le_add_left _ _
  intro cd hcd _
  have W4 := W3.up (o := .inst 757 [("classes", .ref cdict)]) hcd
  have s4 : Sub S3 (upd S3 cd (.inst 757 [("classes", .ref cdict)])) := sub_new Sub.rfl' (sub_none W3.sub hcd)
  have cd4 := upd_self S3 cd (.inst 757 [("classes", .ref cdict)])
  generalize upd S3 cd (.inst 757 [("classes", .ref cdict)]) = S4 at W4 s4 cd4
  generalize upd H3 cd (.inst 757 [("classes", .ref cdict)]) = H4 at W4 ⊢
  walk_at "ly"
  rename_i e0 he0 _
  have W5 := W4.new (o := .dict []) he0
  generalize upd H4 e0 (.dict []) = H5 at W5 ⊢
  with_reducible refine' k_call (n_cdef ?_) ?hk
  case hk => exact Nat.le_add_left _ _
  intro ce hce _
  have W6 := W5.new (o := .inst 757 [("classes", .ref e0)]) hce
  generalize upd H5 ce (.inst 757 [("classes", .ref e0)]) = H6 at W6 ⊢
  walk_at "ly"
  rename_i f0 hf0 _
  have W7 := W6.new (o := .list []) hf0
  generalize upd H6 f0 (.list []) = H7 at W7 ⊢
  with_reducible refine' k_call (n_gdef ?_) ?hk
  case hk => exact Nat.le_add_left _ _
  intro H8 gd g3 g4 s8 hgd _
  obtain ⟨W8, s9⟩ := (W7.grow s8).know hgd (by decide)
  have gdS := upd_self S4 gd (.inst 805 [("classes", .ref cd), ("attach", .ref ce), ("sets", .ref f0), ("points", g3), ("carets", g4)])
  generalize upd S4 gd (.inst 805 [("classes", .ref cd), ("attach", .ref ce), ("sets", .ref f0), ("points", g3), ("carets", g4)]) = S9 at W8 s9 gdS
  have sAll : Sub S S9 := fun a o e => s9 _ _ (s4 _ _ (s3 _ _ e))
  have WG : Wk S9 H8 ⟨gd, cd, cdict, .ref ce, .ref f0, g3, g4, bf, rl, .bool false, .int 0 0, lk⟩ is (L + 3) u := ⟨W8.sub, ⟨W8.row.rl, W8.row.at_, W8.row.ap, W8.row.nr, W8.row.ns, W8.row.len⟩, W8.own, W8.no⟩
  have TG : Still S9 ⟨gd, cd, cdict, .ref ce, .ref f0, g3, g4, bf, rl, .bool false, .int 0 0, lk⟩ := ⟨gdS, s9 _ _ cd4, s9 _ _ (s4 _ _ cdS), s9 _ _ (s4 _ _ bfS)⟩
  have KG : Lks S9 ⟨gd, cd, cdict, .ref ce, .ref f0, g3, g4, bf, rl, .bool false, .int 0 0, lk⟩ P M ls := ⟨sAll _ _ K.at_, K.len, fun n l a b => (K.lk n l a b).mono sAll⟩
  have lw : Lw (("gdef", .ref gd) :: ("buffer", .ref bf) :: m) ⟨gd, cd, cdict, .ref ce, .ref f0, g3, g4, bf, rl, .bool false, .int 0 0, lk⟩ mask flag ca aa pa va := ⟨rfl, rfl, lv.lks, lv.mask, lv.flag, lv.cov, lv.act, lv.plain, lv.sev⟩
  with_reducible refine' ex_body ?e (law17 WG TG KG hl0 (h_sub sAll hlo) (h_sub sAll htbs) (hat.mono sAll) (X.mono sAll) hf hlen lw hmask (h_sub sAll hrc) (h_sub sAll hra) (hrows.mono sAll) hri hrm (h_sub sAll hca) hcov (h_sub sAll haa) (h_sub sAll hpa) hP (h_sub sAll hva) ?hM ?q)
  case e => exact rfl
  case hM => exact fun g => ⟨(hM g).1, fun gs h => let ⟨pt, a1, a2, a3⟩ := (hM g).2 gs h; ⟨pt, a1, sAll _ _ a2, a3⟩⟩
  case q => exact fun H' m' s => q H' m' fun a o e => s _ _ (sAll _ _ e)
end
end P30
section P31
local macro_rules
  | `(tactic| walk_at "ly3") => `(tactic| ((with_reducible refine' it_list ?ha ?h0 ?hx ?hj ?_ ?ps); (case ha => walk_at "lyh"); (case hx => with_reducible assumption); (case h0 => first | decide | omega); (case hj => first | decide | omega); (case ps => (intro _ _; exact rfl))))
local macro_rules
  | `(tactic| walk_at "ly3") => `(tactic| ((with_reducible refine' it_tup ?ha ?h0 ?hx ?hj ?_ ?ps); (case ha => walk_at "lyh"); (case hx => exact rfl); (case h0 | hj => decide); (case ps => (intro _ _; exact rfl))))
theorem lkr_put {n x : Str} {v : Value} {m : Lc} (h : (n == x) = false) : lkr (putF n v m) x = lkr m x := by
  rw [lkr_lk, lkr_lk, lk_put, if_neg]
  rintro rfl; simp at h
theorem lkr_put_self {n : Str} {v : Value} {m : Lc} : lkr (putF n v m) n = some v := by
  rw [lkr_lk, lk_put, if_pos rfl]
theorem Wk.step {S H H' : AH} {G : GA} {is is' : List (Addr × Inf)} {c : Addr} {u : Option Value} (W : Wk S H G is c u) (x : Step S G is H is' H') : Wk S H' G is' c u :=
  ⟨x.sub W.row W.sub, x.row, (x.keep c _ ⟨fun z => (by have := W.own; rw [z, W.row.rl] at this; cases this), fun p hp z => (by have := W.own; rw [z, W.row.at_ p hp] at this; cases this)⟩ W.own).1, W.no⟩
section
variable {w : World} {k : Nat} {S H : AH} {QF : Flow → AH → Lc → Prop} {m : Lc} {is : List (Addr × Inf)} {lo ta tb tbs da ca aa pa va ra rl lk : Addr} {mask flag : Int} {P : Int → Option Int} {M : Int → Option (List Int)} {ls : List Addr} {ns cov : List Int} {acs : List Addr} {xs : List Int} {C : CtxA} {ms : Value} {rows : List (Addr × (Int × Int))} {L : Addr} {kv1 kv3 : List (Int × Value)} {u : Option Value}
theorem law14 (W : Wk S H (gaL rl lk) is (L + 3) u) (hrc : S (L + 2) = some (.cell (some (.ref ra)))) (hra : S ra = some (.list (rows.map fun p => .ref p.1))) (hrows : Prs S rows) (hil : is.length = rows.length) (hl5 : rows.length ≤ 5)
    (hg : ∀ (j : Nat) p r, is[j]? = some p → rows[j]? = some r → p.2.g = r.2.1) (lv : Lv m lk mask flag ca aa pa va) (lin : lkr m "infos" = some (.ref rl))
    (q : ∀ is' H' m', Wk S H' (gaL rl lk) is' (L + 3) u → is'.map gm = rows.map (·.2) → Lv m' lk mask flag ca aa pa va → lkr m' "infos" = some (.ref rl) → QF .next H' m') : E1 w k (env_841 L) (at_ (fB (st PW 100)) 14) QF H m := by
  with_reducible refine' e1_body ?e (e1_for ?_ ?hs)
  case e => exact rfl
  case hs => intro _; exact rfl
  have hrc0 := W.sub _ _ hrc
  have hra0 := W.sub _ _ hra
  walk_at "ly"
  with_reducible refine' cr_range1 ?_
  intro rg r1 r2 r3 hrg hrgL
  have hml : (rows.map fun p : Addr × (Int × Int) => Value.ref p.1).length = rows.length := by simp
  rw [hml]
  have W1 := W.new (o := .raw (rngObj 0 rows.length r1 r2 r3)) hrg
  refine ⟨.rng 0 rows.length, rows.length, fun i H' m' => i ≤ rows.length ∧ ∃ is', Wk S H' (gaL rl lk) is' (L + 3) u ∧ is'.length = rows.length ∧ (∀ (j : Nat) p r, is'[j]? = some p → rows[j]? = some r → p.2.g = r.2.1 ∧ (j < i → p.2.m = r.2.2)) ∧ Lv m' lk mask flag ca aa pa va ∧ lkr m' "infos" = some (.ref rl), .rng (upd_self _ _ _) (by omega) (by omega) (by omega) (by omega) (by omega), .inl fun _ _ => rfl, ⟨Nat.zero_le _, is, W1, hil, fun j p r a b => ⟨hg j p r a b, fun h => by omega⟩, lv, lin⟩, ?_⟩
  rintro i H' m' ⟨hi, is', W', hil', hg', lv', lin'⟩
  by_cases hlt : i < rows.length
  · refine ⟨some (.int (0 + i) 0), .rng hlt, (fun e => by cases e), fun x ex => ⟨hlt, ?_⟩⟩
    cases ex
    have hrc' := W'.sub _ _ hrc
    have hra' := W'.sub _ _ hra
    have hr : rows[i]? = some rows[i] := List.getElem?_eq_getElem hlt
    generalize rows[i] = r at hr
    have hrt := W'.sub _ _ (hrows r (List.mem_of_getElem? hr))
    have hrx : (rows.map fun p : Addr × (Int × Int) => Value.ref p.1)[((0 : Int) + (i : Int)).toNat]? = some (.ref r.1) := by
      have : ((0 : Int) + (i : Int)).toNat = i := by omega
      rw [this, List.getElem?_map, hr]; rfl
    have hp : is'[i]? = some is'[i] := List.getElem?_eq_getElem (by omega)
    generalize is'[i] = p at hp
    obtain ⟨y1, y2⟩ := row_get W'.row hp
    have hpx : (is'.map fun p : Addr × Inf => Value.ref p.1)[((0 : Int) + (i : Int)).toNat]? = some (.ref p.1) := by
      have : ((0 : Int) + (i : Int)).toNat = i := by omega
      rw [this]; exact y1
    have rl' : H' rl = _ := W'.row.rl
    unfold ifs at y2
    walk_at "ly"
    with_reducible refine' ex_nil ?_
    with_reducible refine' lq_next ?_
    have St := row_set W'.row hp { p.2 with m := r.2.2 }
    have e9 : putF "mask" (.int r.2.2 0) (ifs p.2) = ifs { p.2 with m := r.2.2 } := by kernel_rfl
    refine ⟨hlt, is'.set i (p.1, { p.2 with m := r.2.2 }), ?_, by rw [List.length_set]; exact hil', fun j p' r' a b => ?_, lv'.to fun x hx => ?_, lin'⟩
    · rw [← e9] at St
      exact W'.step St
    · rw [List.getElem?_set] at a
      split at a
      · rename_i hij
        subst hij
        rw [hr] at b; cases b
        split at a
        · cases a
          exact ⟨(hg' _ _ _ hp hr).1, fun _ => rfl⟩
        · cases a
      · rename_i hij
        have := hg' j p' r' a b
        exact ⟨this.1, fun h => this.2 (by omega)⟩
    · simp only [List.mem_cons, List.not_mem_nil, or_false] at hx
      rcases hx with rfl | rfl | rfl | rfl | rfl | rfl | rfl <;> rfl
  · have hie : i = rows.length := by omega
    refine ⟨none, .rngEnd hie, fun _ => ?_, fun x ex => by cases ex⟩
    refine q is' H' m' W' ?_ lv' lin'
    apply List.ext_getElem?
    intro j
    rw [List.getElem?_map, List.getElem?_map]
    cases hj : is'[j]? with
    | none =>
      have : rows[j]? = none := by rw [List.getElem?_eq_none_iff] at hj ⊢; omega
      rw [this]; rfl
    | some p =>
      have hjl := (List.getElem?_eq_some_iff.mp hj).1
      have hr : rows[j]? = some rows[j] := List.getElem?_eq_getElem (by omega)
      have := hg' j p _ hj hr
      rw [hr]
      show some (gm p) = some _
      unfold gm
      rw [this.1, this.2 (by omega)]
end
end P31
section P32
local macro_rules
  | `(tactic| walk_at "ly3") => `(tactic| ((with_reducible refine' it_list ?ha ?h0 ?hx ?hj ?_ ?ps); (case ha => walk_at "lyh"); (case hx => with_reducible assumption); (case h0 => first | decide | omega); (case hj => first | decide | omega); (case ps => (intro _ _; exact rfl))))
local macro_rules
  | `(tactic| walk_at "ly3") => `(tactic| ((with_reducible refine' it_tup ?ha ?h0 ?hx ?hj ?_ ?ps); (case ha => walk_at "lyh"); (case hx => exact rfl); (case h0 | hj => decide); (case ps => (intro _ _; exact rfl))))
section
variable {w : World} {k : Nat} {S H : AH} {QF : Flow → AH → Lc → Prop} {m : Lc} {is : List (Addr × Inf)} {lo ta tb tbs da ca aa pa va ra rl lk : Addr} {mask flag : Int} {P : Int → Option Int} {M : Int → Option (List Int)} {ls : List Addr} {ns cov : List Int} {acs : List Addr} {xs : List Int} {C : CtxA} {ms : Value} {rows : List (Addr × (Int × Int))} {L : Addr} {kv1 kv3 : List (Int × Value)} {u : Option Value}
theorem law13 (hS : Sub S H) (hown : H (L + 3) = some (.cell u)) (sown : S (L + 3) = none) (K : Lks S (gaL 0 lk) P M ls) (hl0 : ls[0]? = some lo) (hlo : S lo = some (lkp "chain" flag ms tbs)) (htbs : S tbs = some (.list [.ref tb])) (hat : Acs S ta acs ns) (X : Ctx S tb ta xs C) (hf : flag = 0 ∨ flag = 2 ∨ flag = 8) (hl5 : rows.length ≤ 5)
    (lv : Lv m lk mask flag ca aa pa va) (hmask : 1 ≤ mask ∧ mask ≤ 3)
    (hrc : S (L + 2) = some (.cell (some (.ref ra)))) (hra : S ra = some (.list (rows.map fun p => .ref p.1))) (hrows : Prs S rows) (hrm : ∀ p ∈ rows, 1 ≤ p.2.2 ∧ p.2.2 ≤ 3)
    (hca : S ca = some (.list (intl cov))) (hcov : ∀ g, g ∈ xs ↔ g ∈ cov) (haa : S aa = some (.list (intl ns))) (hpa : S pa = some (.dict kv1)) (hP : ∀ g, dk kv1 g = (P g).map fun i => .int i 0) (hva : S va = some (.dict kv3))
    (hM : ∀ g, (M g = none → dk kv3 g = none) ∧ ∀ gs, M g = some gs → ∃ pt, dk kv3 g = some (.ref pt) ∧ S pt = some (.tup (intl gs)) ∧ 1 ≤ gs.length ∧ gs.length ≤ 3)
    (q : ∀ H' m, Sub S H' → QF (.ret (.bool true)) H' m) : EX w (k + 14) (env_841 L) ((fB (st PW 100)).drop 13) QF H m := by
  have hrcH := hS _ _ hrc
  have hraH := hS _ _ hra
  have hml : (rows.map fun p : Addr × (Int × Int) => Value.ref p.1).length = rows.length := by simp
  walk_at "lyb"
  walk_at "ly"
  walk_at "lycomp"
  walk_at "ly"
  with_reducible refine' cr_range1 ?_
  intro rg r1 r2 r3 hrg hrgL
  rw [hml]
  refine ⟨.rng 0 rows.length, rows.length, fun i ys H' => i ≤ rows.length ∧ Sub H H' ∧ ∃ is : List (Addr × Inf), ys = is.map (fun p => .ref p.1) ∧ is.length = i ∧ (∀ p ∈ is, H' p.1 = some (.inst 142 (ifs p.2)) ∧ S p.1 = none) ∧ is.Pairwise (fun x y => x.1 ≠ y.1) ∧ (∀ (j : Nat) p r, is[j]? = some p → rows[j]? = some r → p.2.g = r.2.1), .rng (upd_self _ _ _) (by omega) (by omega) (by omega) (by omega) (by omega), ⟨Nat.zero_le _, sub_new Sub.rfl' hrg, [], rfl, rfl, (fun _ h => (nomatch h)), .nil, fun j p r a => by cases a⟩, ?_⟩
  rintro C0 hC0 hC0L i ys H' ⟨hi, s1, is, rfl, hil, his, hap, hg⟩
  refine ⟨by simp; omega, ?_⟩
  by_cases hlt : i < rows.length
  · refine ⟨some (.int (0 + i) 0), .rng hlt, (fun e => by cases e), fun x ex => ⟨hlt, ?_⟩⟩
    cases ex
    have hrc' := s1 _ _ hrcH
    have hra' := s1 _ _ hraH
    have hr : rows[i]? = some rows[i] := List.getElem?_eq_getElem hlt
    generalize rows[i] = r at hr
    have hrt := s1 _ _ (hS _ _ (hrows r (List.mem_of_getElem? hr)))
    have hrx : (rows.map fun p : Addr × (Int × Int) => Value.ref p.1)[((0 : Int) + (i : Int)).toNat]? = some (.ref r.1) := by
      have : ((0 : Int) + (i : Int)).toNat = i := by omega
      rw [this, List.getElem?_map, hr]; rfl
    with_reducible refine' ct_nil ?_
    walk_at "ly"
    with_reducible refine' k_call (n_info ?_) ?hk
    case hk => exact Nat.le_add_left _ _
    intro x hx _
    have hxS : S x = none := sub_none (fun a o e => s1 _ _ (hS _ _ e)) hx
    have hne : ∀ p ∈ is, p.1 ≠ x := fun p hp z => by
      have := (his p hp).1
      rw [z, hx] at this; cases this
    refine ⟨rfl, hlt, sub_new s1 hx, is ++ [(x, ⟨r.2.1, 0 + i, 0, 0⟩)], by simp, by simp [hil], fun p hp => ?_, ?_, fun j p r' a b => ?_⟩
    · rcases List.mem_append.mp hp with hp | hp
      · exact ⟨h_fresh hx (his p hp).1, (his p hp).2⟩
      · rw [List.mem_singleton.mp hp]; exact ⟨upd_self _ _ _, hxS⟩
    · rw [List.pairwise_append]
      refine ⟨hap, List.pairwise_singleton _ _, fun p hp y hy => ?_⟩
      rw [List.mem_singleton.mp hy]; exact hne p hp
    · by_cases hji : j < is.length
      · rw [List.getElem?_append_left hji] at a
        exact hg j p r' a b
      · have hje : j = i := by
          have := (List.getElem?_eq_some_iff.mp a).1
          simp at this; omega
        subst hje
        rw [List.getElem?_append_right (by omega), hil] at a
        simp at a
        rw [hr] at b; cases b
        rw [← a]
  · have hie : i = rows.length := by omega
    refine ⟨none, .rngEnd hie, fun _ => ?_, fun x ex => by cases ex⟩
    intro D hD hDL
    have hSH : Sub S H' := fun a o e => s1 _ _ (hS _ _ e)
    have W : Wk S (upd H' D (.list (is.map fun p => .ref p.1))) (gaL D lk) is (L + 3) u :=
      ⟨sub_new hSH hD, ⟨upd_self _ _ _, fun p hp => h_fresh hD (his p hp).1, hap, sub_none hSH hD, fun p hp => (his p hp).2, by omega⟩, h_fresh hD (s1 _ _ hown), sown⟩
    have KD : Lks S (gaL D lk) P M ls := ⟨K.at_, K.len, K.lk⟩
    have lv1 : Lv (putF "infos" (.ref D) m) lk mask flag ca aa pa va := lv.to fun x hx => by
      simp only [List.mem_cons, List.not_mem_nil, or_false] at hx
      rcases hx with rfl | rfl | rfl | rfl | rfl | rfl | rfl <;> exact lkr_put rfl
    with_reducible refine' nx_next ?_
    with_reducible refine' ex_cons ?_
    with_reducible refine' e1_body ?e (law14 W hrc hra hrows (by omega) hl5 hg lv1 lkr_put_self ?q2)
    case e => exact rfl
    case q2 =>
      intro is' H2 m2 W2 hgm lv2 lin2
      with_reducible refine' nx_next ?_
      have hil2 : is'.length ≤ 5 := by
        have := congrArg List.length hgm
        simp at this; omega
      with_reducible refine' ex_body ?e (law15 W2 KD hl0 hlo htbs hat X hf hil2 lv2 lin2 hmask hrc hra hrows hgm hrm hca hcov haa hpa hP hva hM q)
      case e => exact rfl
end
end P32
section P33
section
variable {w : World} {k : Nat} {S H : AH} {QF : Flow → AH → Lc → Prop} {m : Lc} {ca aa : Addr} {ns cov : List Int} {L : Addr}
theorem law10 (hca : H ca = some (.list (intl cov))) (hcl : cov.length ≤ 4) (haa : H aa = some (.list (intl ns))) (hnl : ns.length ≤ 3) (hn1 : ∀ n ∈ ns, 1 ≤ n) (l1 : lkr m "covered" = some (.ref ca)) (l2 : lkr m "actions" = some (.ref aa))
    (q : ∀ H' ru e1 i1 e2 cv ct ta acs xs, Sub H H' → H' ru = some (.inst 426 [("back", .ref e1), ("inside", .ref i1), ("ahead", .ref e2), ("actions", .ref ta)]) → H' e1 = some (.tup []) → H' i1 = some (.tup [.ref cv]) → H' e2 = some (.tup []) → H' cv = some (.inst 384 [("glyphs", .ref ct)]) → H' ct = some (.tup (intl xs)) → xs.length < 100 → xs.Pairwise (· < ·) → (∀ g, g ∈ xs ↔ g ∈ cov) → Acs H' ta acs ns → QF .next H' (("rule", .ref ru) :: m)) : E1 w (k + 5) (env_841 L) (at_ (fB (st PW 100)) 10) QF H m := by
  with_reducible refine' e1_body ?e (x_asn ?_ ?ha ?hs ?hw)
  case e => exact rfl
  case ha => exact rfl
  case hs => exact rfl
  case hw => exact rfl
  walk_at "ly"
  rename_i e1 he1 _
  have z1 := upd_self H e1 (.tup [])
  have s1 : Sub H (upd H e1 (.tup [])) := sub_new Sub.rfl' he1
  generalize upd H e1 (.tup []) = H1 at z1 s1 ⊢
  with_reducible refine' k_call (c_covof (h_sub s1 hca) ?hn ?_) ?hk
  case hk => exact Nat.le_add_left _ _
  case hn => omega
  intro H2 cv ct xs s2 c1 c2 c3 c4 c5 _
  walk_at "ly"
  rename_i i1 hi1 _ e2 he2 _
  have y1 := h_fresh (o' := .tup []) he2 (upd_self H2 i1 (.tup [.ref cv]))
  have y2 := upd_self (upd H2 i1 (.tup [.ref cv])) e2 (.tup [])
  have s3 : Sub H2 (upd (upd H2 i1 (.tup [.ref cv])) e2 (.tup [])) := sub_new (sub_new Sub.rfl' hi1) he2
  generalize upd (upd H2 i1 (.tup [.ref cv])) e2 (.tup []) = H3 at y1 y2 s3 ⊢
  have haa3 := s3 _ _ (s2 _ _ (s1 _ _ haa))
  walk_at "lycomp"
  walk_at "ly"
  refine ⟨.list aa, ns.length, fun i ys H4 => i ≤ ns.length ∧ Sub H3 H4 ∧ ∃ acs : List Addr, ys = lrefs acs ∧ acs.length = i ∧ ∀ (j : Nat) a, acs[j]? = some a → ∃ n, ns[j]? = some n ∧ H4 a = some (.tup [.int 0 0, .int n 0]), .list haa3, ⟨Nat.zero_le _, Sub.rfl', [], rfl, rfl, fun j a h => by cases h⟩, ?_⟩
  rintro C hC hCL i ys H4 ⟨hi, s4, acs, rfl, hal, hac⟩
  have haa4 := s4 _ _ haa3
  refine ⟨by simp [lrefs]; omega, _, .list haa4 rfl, fun en => ?_, fun y ey => ?_⟩
  · intro D hD hDL
    have hge : ns.length ≤ i := by
      unfold intl at en
      rw [List.getElem?_map] at en
      exact List.getElem?_eq_none_iff.mp (Option.map_eq_none_iff.mp en)
    walk_at "ly"
    with_reducible refine' cr_tuple ?ha ?hz ?_
    case ha => exact upd_self _ _ _
    case hz => simp [lrefs]; omega
    intro ta hta _
    have hta' := upd_self (upd H4 D (.list (lrefs acs))) ta (.tup (lrefs acs))
    have s5 : Sub H4 (upd (upd H4 D (.list (lrefs acs))) ta (.tup (lrefs acs))) := sub_new (sub_new Sub.rfl' hD) hta
    generalize upd (upd H4 D (.list (lrefs acs))) ta (.tup (lrefs acs)) = H5 at hta' s5 ⊢
    walk_at "ly"
    with_reducible refine' k_call (n_rule ?_) ?hk
    case hk => exact Nat.le_add_left _ _
    intro ru hru _
    have s6 : Sub H5 (upd H5 ru (.inst 426 [("back", .ref e1), ("inside", .ref i1), ("ahead", .ref e2), ("actions", .ref ta)])) := sub_new Sub.rfl' hru
    have hr := upd_self H5 ru (.inst 426 [("back", .ref e1), ("inside", .ref i1), ("ahead", .ref e2), ("actions", .ref ta)])
    walk_at "ly"
    generalize upd H5 ru (.inst 426 [("back", .ref e1), ("inside", .ref i1), ("ahead", .ref e2), ("actions", .ref ta)]) = H6 at s6 hr ⊢
    have s36 : Sub H3 H6 := fun a o e => s6 _ _ (s5 _ _ (s4 _ _ e))
    have s26 : Sub H2 H6 := fun a o e => s36 _ _ (s3 _ _ e)
    refine q H6 ru e1 i1 e2 cv ct ta acs xs (fun a o e => s26 _ _ (s2 _ _ (s1 _ _ e))) hr (s26 _ _ (s2 _ _ z1)) (s36 _ _ y1) (s36 _ _ y2) (s26 _ _ c1) (s26 _ _ c2) (by omega) c4 c3 ⟨s6 _ _ hta', by omega, hnl, fun j a h => ?_⟩
    obtain ⟨n, h1, h2⟩ := hac j a h
    exact ⟨n, h1, s6 _ _ (s5 _ _ h2), hn1 n (List.mem_of_getElem? h1)⟩
  · obtain ⟨n, hn, rfl⟩ : ∃ n, ns[i]? = some n ∧ Value.int n 0 = y := by
      unfold intl at ey
      rw [List.getElem?_map] at ey
      exact Option.map_eq_some_iff.mp ey
    have hlt := (List.getElem?_eq_some_iff.mp hn).1
    refine ⟨hlt, ?_⟩
    with_reducible refine' ct_nil ?_
    walk_at "ly"
    rename_i tt htt httL
    refine ⟨rfl, hlt, sub_new s4 htt, acs ++ [tt], by unfold lrefs; simp, by simp [hal], fun j a h => ?_⟩
    by_cases hj : j < acs.length
    · rw [List.getElem?_append_left hj] at h
      obtain ⟨n', h1, h2⟩ := hac j a h
      exact ⟨n', h1, h_fresh htt h2⟩
    · have hje : j = i := by
        have := (List.getElem?_eq_some_iff.mp h).1
        simp at this; omega
      subst hje
      rw [List.getElem?_append_right (by omega), hal] at h
      simp at h
      subst h
      exact ⟨n, hn, upd_self _ _ _⟩
end
end P33
section P34
local macro_rules
  | `(tactic| walk_at "ly3") => `(tactic| ((with_reducible refine' it_list ?ha ?h0 ?hx ?hj ?_ ?ps); (case ha => walk_at "lyh"); (case hx => exact rfl); (case h0 => first | decide | omega); (case hj => first | decide | omega); (case ps => (intro _ _; exact rfl))))
section
variable {w : World} {k : Nat} {S H : AH} {QF : Flow → AH → Lc → Prop} {m : Lc} {ru fl pa ra va lk0 l0 l1 : Addr} {flag f0 f1 : Int} {L : Addr}
theorem dend1g {i0 : Int} {v0 : Value} {H0 : AH} {c : Addr} {Q : Value → AH → Lc → Prop} (h : H c = some (.dict [])) (q : Q (.ref c) (upd H c (.dict [(i0, v0)])) m) : DEnd H0 c Q [(.int i0 0, v0)] H m := ⟨[(i0, v0)], rfl, by simp, h, q⟩
theorem law11 (hfl : H fl = some (.list [.int f0 0, .int f1 0])) (e1 : lkr m "rule" = some (.ref ru)) (e2 : lkr m "flag" = some (.int flag 0)) (e3 : lkr m "flags" = some (.ref fl)) (e4 : lkr m "plain" = some (.ref pa))
    (q : ∀ H' lk l0 l1 t0 t1 tb sd sl sg, Sub H H' → H' lk = some (.list [.ref l0, .ref l1]) → H' l0 = some (lkp "chain" flag (.int 0 0) t0) → H' t0 = some (.list [.ref tb]) → H' tb = some (.inst 467 [("form", .int 3 0), ("is_chained", .bool true), ("sets", .ref sd), ("coverage", .none), ("classes", .none)]) → H' sd = some (.dict [(0, .ref sl)]) → H' sl = some (.list [.ref ru]) →
      H' l1 = some (lkp "single" f0 (.int 0 0) t1) → H' t1 = some (.list [.ref sg]) → H' sg = some (.inst 621 [("mapping", .ref pa)]) → QF .next H' (("lookups", .ref lk) :: m)) : E1 w (k + 5) (env_841 L) (at_ (fB (st PW 100)) 11) QF H m := by
  with_reducible refine' e1_body ?e (x_asn ?_ ?ha ?hs ?hw)
  case e => exact rfl
  case ha => exact rfl
  case hs => exact rfl
  case hw => exact rfl
  walk_at "ly"
  rename_i sd hsd _ sl hsl _
  have nss : sl ≠ sd := fun z => by rw [z, upd_self] at hsl; cases hsl
  with_reducible refine' dend1g ?hd ?_
  case hd => exact h_fresh hsl (upd_self _ _ _)
  have z1 := upd_self (upd (upd H sd (.dict [])) sl (.list [.ref ru])) sd (.dict [(0, .ref sl)])
  have z2 : upd (upd (upd H sd (.dict [])) sl (.list [.ref ru])) sd (.dict [(0, .ref sl)]) sl = some (.list [.ref ru]) := h_old nss (upd_self _ _ _)
  have s1 : Sub H (upd (upd (upd H sd (.dict [])) sl (.list [.ref ru])) sd (.dict [(0, .ref sl)])) := sub_old (sub_new (sub_new Sub.rfl' hsd) hsl) hsd
  generalize upd (upd (upd H sd (.dict [])) sl (.list [.ref ru])) sd (.dict [(0, .ref sl)]) = H1 at z1 z2 s1 ⊢
  walk_at "ly"
  with_reducible refine' k_call (n_ctx ?_) ?hk
  case hk => exact Nat.le_add_left _ _
  intro tb htb _
  walk_at "ly"
  rename_i t0 ht0 _
  have z3 := h_fresh (o' := .list [.ref tb]) ht0 (upd_self H1 tb (.inst 467 [("form", .int 3 0), ("is_chained", .bool true), ("sets", .ref sd), ("coverage", .none), ("classes", .none)]))
  have z4 := upd_self (upd H1 tb (.inst 467 [("form", .int 3 0), ("is_chained", .bool true), ("sets", .ref sd), ("coverage", .none), ("classes", .none)])) t0 (.list [.ref tb])
  have s2 : Sub H1 (upd (upd H1 tb (.inst 467 [("form", .int 3 0), ("is_chained", .bool true), ("sets", .ref sd), ("coverage", .none), ("classes", .none)])) t0 (.list [.ref tb])) := sub_new (sub_new Sub.rfl' htb) ht0
  generalize upd (upd H1 tb (.inst 467 [("form", .int 3 0), ("is_chained", .bool true), ("sets", .ref sd), ("coverage", .none), ("classes", .none)])) t0 (.list [.ref tb]) = H2 at z3 z4 s2 ⊢
  with_reducible refine' k_call (n_lookup ?_) ?hk
  case hk => exact Nat.le_add_left _ _
  intro l0 hl0 _
  have z5 := upd_self H2 l0 (.inst 43 [("kind", .str "chain" 0), ("flag", .int flag 0), ("mark_set", .int 0 0), ("tables", .ref t0)])
  have s3 : Sub H2 (upd H2 l0 (.inst 43 [("kind", .str "chain" 0), ("flag", .int flag 0), ("mark_set", .int 0 0), ("tables", .ref t0)])) := sub_new Sub.rfl' hl0
  generalize upd H2 l0 (.inst 43 [("kind", .str "chain" 0), ("flag", .int flag 0), ("mark_set", .int 0 0), ("tables", .ref t0)]) = H3 at z5 s3 ⊢
  have s03 : Sub H H3 := fun a o e => s3 _ _ (s2 _ _ (s1 _ _ e))
  have hfl3 := s03 _ _ hfl
  walk_at "ly"
  with_reducible refine' k_call (n_single ?_) ?hk
  case hk => exact Nat.le_add_left _ _
  intro sg hsg _
  walk_at "ly"
  rename_i t1 ht1 _
  have z6 := h_fresh (o' := .list [.ref sg]) ht1 (upd_self H3 sg (.inst 621 [("mapping", .ref pa)]))
  have z7 := upd_self (upd H3 sg (.inst 621 [("mapping", .ref pa)])) t1 (.list [.ref sg])
  have s4 : Sub H3 (upd (upd H3 sg (.inst 621 [("mapping", .ref pa)])) t1 (.list [.ref sg])) := sub_new (sub_new Sub.rfl' hsg) ht1
  generalize upd (upd H3 sg (.inst 621 [("mapping", .ref pa)])) t1 (.list [.ref sg]) = H4 at z6 z7 s4 ⊢
  with_reducible refine' k_call (n_lookup ?_) ?hk
  case hk => exact Nat.le_add_left _ _
  intro l1 hl1 _
  walk_at "ly"
  rename_i lk hlk _
  have z8 := h_fresh (o' := .list [.ref l0, .ref l1]) hlk (upd_self H4 l1 (.inst 43 [("kind", .str "single" 0), ("flag", .int f0 0), ("mark_set", .int 0 0), ("tables", .ref t1)]))
  have z9 := upd_self (upd H4 l1 (.inst 43 [("kind", .str "single" 0), ("flag", .int f0 0), ("mark_set", .int 0 0), ("tables", .ref t1)])) lk (.list [.ref l0, .ref l1])
  have s5 : Sub H4 (upd (upd H4 l1 (.inst 43 [("kind", .str "single" 0), ("flag", .int f0 0), ("mark_set", .int 0 0), ("tables", .ref t1)])) lk (.list [.ref l0, .ref l1])) := sub_new (sub_new Sub.rfl' hl1) hlk
  have s25 : Sub H3 _ := fun a o e => s5 _ _ (s4 _ _ e)
  exact q _ lk l0 l1 t0 t1 tb sd sl sg (fun a o e => s25 _ _ (s03 _ _ e)) z9 (s25 _ _ z5) (s25 _ _ (s3 _ _ z4)) (s25 _ _ (s3 _ _ z3)) (s25 _ _ (s3 _ _ (s2 _ _ z1))) (s25 _ _ (s3 _ _ (s2 _ _ z2))) z8 (s5 _ _ z7) (s5 _ _ z6)
end
end P34
section P35
local macro_rules
  | `(tactic| walk_at "ly3") => `(tactic| ((with_reducible refine' it_list ?ha ?h0 ?hx ?hj ?_ ?ps); (case ha => walk_at "lyh"); (case hx => exact rfl); (case h0 => first | decide | omega); (case hj => first | decide | omega); (case ps => (intro _ _; exact rfl))))
section
variable {w : World} {k : Nat} {S H : AH} {QF : Flow → AH → Lc → Prop} {m : Lc} {ru fl pa rv va lk l0 l1 : Addr} {flag f0 f1 : Int} {L : Addr}
theorem law12 (hlk : H lk = some (.list [.ref l0, .ref l1])) (hfl : H fl = some (.list [.int f0 0, .int f1 0])) (e1 : lkr m "lookups" = some (.ref lk)) (e2 : lkr m "reverse" = some (.ref rv)) (e3 : lkr m "flags" = some (.ref fl)) (e4 : lkr m "several" = some (.ref va))
    (q : ∀ H' lk' l2 l3 t2 t3 sr sg, Sub H H' → H' lk' = some (.list [.ref l0, .ref l1, .ref l2, .ref l3]) → H' l2 = some (lkp "reverse" 0 (.int 0 0) t2) → H' t2 = some (.list [.ref sr]) →
      H' l3 = some (lkp "multiple" f1 (.int 0 0) t3) → H' t3 = some (.list [.ref sg]) → H' sg = some (.inst 647 [("mapping", .ref va)]) → QF .next H' (("lookups", .ref lk') :: m)) : E1 w (k + 5) (env_841 L) (at_ (fB (st PW 100)) 12) QF H m := by
  with_reducible refine' e1_body ?e (x_asn ?_ ?ha ?hs ?hw)
  case e => exact rfl
  case ha => exact rfl
  case hs => exact rfl
  case hw => exact rfl
  walk_at "ly"
  rename_i r1 hr1 _ r2 hr2 _
  have s1 : Sub H (upd (upd H r1 (.tup [])) r2 (.tup [])) := sub_new (sub_new Sub.rfl' hr1) hr2
  generalize upd (upd H r1 (.tup [])) r2 (.tup []) = H1 at s1 ⊢
  with_reducible refine' k_call (n_rev ?_) ?hk
  case hk => exact Nat.le_add_left _ _
  intro sr hsr _
  walk_at "ly"
  rename_i t2 ht2 _
  have z1 := upd_self (upd H1 sr (.inst 588 [("mapping", .ref rv), ("back", .ref r1), ("ahead", .ref r2)])) t2 (.list [.ref sr])
  have s2 : Sub H1 (upd (upd H1 sr (.inst 588 [("mapping", .ref rv), ("back", .ref r1), ("ahead", .ref r2)])) t2 (.list [.ref sr])) := sub_new (sub_new Sub.rfl' hsr) ht2
  generalize upd (upd H1 sr (.inst 588 [("mapping", .ref rv), ("back", .ref r1), ("ahead", .ref r2)])) t2 (.list [.ref sr]) = H2 at z1 s2 ⊢
  with_reducible refine' k_call (n_lookup ?_) ?hk
  case hk => exact Nat.le_add_left _ _
  intro l2 hl2 _
  have z2 := upd_self H2 l2 (.inst 43 [("kind", .str "reverse" 0), ("flag", .int 0 0), ("mark_set", .int 0 0), ("tables", .ref t2)])
  have s3 : Sub H2 (upd H2 l2 (.inst 43 [("kind", .str "reverse" 0), ("flag", .int 0 0), ("mark_set", .int 0 0), ("tables", .ref t2)])) := sub_new Sub.rfl' hl2
  generalize upd H2 l2 (.inst 43 [("kind", .str "reverse" 0), ("flag", .int 0 0), ("mark_set", .int 0 0), ("tables", .ref t2)]) = H3 at z2 s3 ⊢
  have s03 : Sub H H3 := fun a o e => s3 _ _ (s2 _ _ (s1 _ _ e))
  have hfl3 := s03 _ _ hfl
  have hlk3 := s03 _ _ hlk
  walk_at "ly"
  with_reducible refine' k_call (n_multi ?_) ?hk
  case hk => exact Nat.le_add_left _ _
  intro sg hsg _
  walk_at "ly"
  rename_i t3 ht3 _
  have z6 := h_fresh (o' := .list [.ref sg]) ht3 (upd_self H3 sg (.inst 647 [("mapping", .ref va)]))
  have z7 := upd_self (upd H3 sg (.inst 647 [("mapping", .ref va)])) t3 (.list [.ref sg])
  have s4 : Sub H3 (upd (upd H3 sg (.inst 647 [("mapping", .ref va)])) t3 (.list [.ref sg])) := sub_new (sub_new Sub.rfl' hsg) ht3
  generalize upd (upd H3 sg (.inst 647 [("mapping", .ref va)])) t3 (.list [.ref sg]) = H4 at z6 z7 s4 ⊢
  with_reducible refine' k_call (n_lookup ?_) ?hk
  case hk => exact Nat.le_add_left _ _
  intro l3 hl3 _
  walk_at "ly"
  rename_i lb hlb _
  have z8 := h_fresh (o' := .list [.ref l2, .ref l3]) hlb (upd_self H4 l3 (.inst 43 [("kind", .str "multiple" 0), ("flag", .int f1 0), ("mark_set", .int 0 0), ("tables", .ref t3)]))
  have z9 := upd_self (upd H4 l3 (.inst 43 [("kind", .str "multiple" 0), ("flag", .int f1 0), ("mark_set", .int 0 0), ("tables", .ref t3)])) lb (.list [.ref l2, .ref l3])
  have s5 : Sub H4 (upd (upd H4 l3 (.inst 43 [("kind", .str "multiple" 0), ("flag", .int f1 0), ("mark_set", .int 0 0), ("tables", .ref t3)])) lb (.list [.ref l2, .ref l3])) := sub_new (sub_new Sub.rfl' hl3) hlb
  have hlk5 := s5 _ _ (s4 _ _ hlk3)
  generalize upd (upd H4 l3 (.inst 43 [("kind", .str "multiple" 0), ("flag", .int f1 0), ("mark_set", .int 0 0), ("tables", .ref t3)])) lb (.list [.ref l2, .ref l3]) = H5 at z8 z9 s5 hlk5 ⊢
  with_reducible refine' op_cat ?ha ?hc ?hz ?_
  case ha => exact hlk5
  case hc => exact z9
  case hz => exact Nat.le_of_ble_eq_true rfl
  intro d hd hdL
  walk_at "ly"
  have s6 : Sub H5 (upd H5 d (.list ([.ref l0, .ref l1] ++ [.ref l2, .ref l3]))) := sub_new Sub.rfl' hd
  have s36 : Sub H3 _ := fun a o e => s6 _ _ (s5 _ _ (s4 _ _ e))
  exact q _ d l2 l3 t2 t3 sr sg (fun a o e => s36 _ _ (s03 _ _ e)) (upd_self _ _ _) (s36 _ _ z2) (s36 _ _ (s3 _ _ z1)) (s6 _ _ z8) (s6 _ _ (s5 _ _ z7)) (s6 _ _ (s5 _ _ z6))
end
end P35
section P36
noncomputable def Hm (H : AH) (c : Addr) : AH := fun a => if a = c then none else H a
theorem hm_sub (H : AH) (c : Addr) : Sub (Hm H c) H := fun a o e => by
  unfold Hm at e
  split at e
  · cases e
  · exact e
theorem hm_get {H : AH} {c a : Addr} {o : O} {u : Option Value} (hc : H c = some (.cell u)) (e : H a = some o) (n : ∀ v, o ≠ .cell v) : Hm H c a = some o := by
  unfold Hm
  rw [if_neg]
  · exact e
  · rintro rfl; rw [hc] at e; exact n u (Option.some.inj e).symm
section
variable {w : World} {k : Nat} {S H : AH} {QF : Flow → AH → Lc → Prop} {m : Lc} {fl pa rv va ra ca aa : Addr} {mask flag f0 f1 : Int} {L : Addr} {P : Int → Option Int} {M : Int → Option (List Int)} {ns cov : List Int} {rows : List (Addr × (Int × Int))} {kv1 kv3 : List (Int × Value)} {u : Option Value} {ps : Array Value} {sc : Addr} {so : Obj}
theorem law10_ (h819 : H 819 = some (.raw (tabObj ps))) (hsc : H sc = some (.raw so)) (hrc : H (L + 2) = some (.cell (some (.ref ra)))) (hown : H (L + 3) = some (.cell u)) (hra : H ra = some (.list (rows.map fun p => .ref p.1))) (hrows : Prs H rows) (hl5 : rows.length ≤ 5) (hrm : ∀ p ∈ rows, 1 ≤ p.2.2 ∧ p.2.2 ≤ 3)
    (hca : H ca = some (.list (intl cov))) (hcl : cov.length ≤ 4) (haa : H aa = some (.list (intl ns))) (hnl : ns.length ≤ 3) (hn1 : ∀ n ∈ ns, 1 ≤ n) (hpa : H pa = some (.dict kv1)) (hP : ∀ g, dk kv1 g = (P g).map fun i => .int i 0) (hva : H va = some (.dict kv3))
    (hM : ∀ g, (M g = none → dk kv3 g = none) ∧ ∀ gs, M g = some gs → ∃ pt, dk kv3 g = some (.ref pt) ∧ H pt = some (.tup (intl gs)) ∧ 1 ≤ gs.length ∧ gs.length ≤ 3) (hfl : H fl = some (.list [.int f0 0, .int f1 0])) (hf : flag = 0 ∨ flag = 2 ∨ flag = 8) (hmask : 1 ≤ mask ∧ mask ≤ 3)
    (e1 : lkr m "covered" = some (.ref ca)) (e2 : lkr m "actions" = some (.ref aa)) (e3 : lkr m "flag" = some (.int flag 0)) (e4 : lkr m "flags" = some (.ref fl)) (e5 : lkr m "plain" = some (.ref pa)) (e6 : lkr m "reverse" = some (.ref rv)) (e7 : lkr m "several" = some (.ref va)) (e8 : lkr m "mask" = some (.int mask 0))
    (q : ∀ H' m, H' 819 = some (.raw (tabObj ps)) → H' sc = some (.raw so) → QF (.ret (.bool true)) H' m) : EX w (k + 14) (env_841 L) ((fB (st PW 100)).drop 10) QF H m := by
  walk_at "lyb"
  with_reducible refine' e1_body ?e (law10 (k := k + 9) hca hcl haa hnl hn1 e1 e2 ?_)
  case e => exact rfl
  intro H1 ru x1 i1 x2 cv ct ta acs xs s1 a1 a2 a3 a4 a5 a6 a7 a8 a9 a10
  with_reducible refine' nx_next ?_
  with_reducible refine' ex_cons ?_
  with_reducible refine' e1_body ?e (law11 (k := k + 9) (h_sub s1 hfl) ?k1 ?k2 ?k3 ?k4 ?_)
  case e => exact rfl
  case k1 => exact rfl
  case k2 => exact e3
  case k3 => exact e4
  case k4 => exact e5
  intro H2 lk l0 l1 t0 t1 tb sd sl sg s2 b1 b2 b3 b4 b5 b6 b7 b8 b9
  with_reducible refine' nx_next ?_
  with_reducible refine' ex_cons ?_
  have s02 : Sub H H2 := fun a o e => s2 _ _ (s1 _ _ e)
  with_reducible refine' e1_body ?e (law12 (k := k + 9) b1 (h_sub s02 hfl) ?k1 ?k2 ?k3 ?k4 ?_)
  case e => exact rfl
  case k1 => exact rfl
  case k2 => exact e6
  case k3 => exact e4
  case k4 => exact e7
  intro H3 lk' l2 l3 t2 t3 sr sm s3 d1 d2 d3 d4 d5 d6
  with_reducible refine' nx_next ?_
  have s03 : Sub H H3 := fun a o e => s3 _ _ (s02 _ _ e)
  have s13 : Sub H1 H3 := fun a o e => s3 _ _ (s2 _ _ e)
  have hc := s03 _ _ hown
  have K : Lks (Hm H3 (L + 3)) (gaL 0 lk') P M [l0, l1, l2, l3] := by
    refine ⟨hm_get hc d1 (by nofun), rfl, fun n l h1 h2 => ?_⟩
    have h3 : n.toNat < 4 := (List.getElem?_eq_some_iff.mp h2).1
    have h4 : n = 1 ∨ n = 2 ∨ n = 3 := by omega
    rcases h4 with rfl | rfl | rfl
    · cases h2
      exact .one (hm_get hc (s3 _ _ b7) (by nofun)) (hm_get hc (s3 _ _ b8) (by nofun)) (hm_get hc (s3 _ _ b9) (by nofun)) (hm_get hc (s03 _ _ hpa) (by nofun)) hP
    · cases h2
      exact .two (hm_get hc d2 (by nofun)) (hm_get hc d3 (by nofun))
    · cases h2
      exact .three (hm_get hc d4 (by nofun)) (hm_get hc d5 (by nofun)) (hm_get hc d6 (by nofun)) (hm_get hc (s03 _ _ hva) (by nofun)) fun g => ⟨(hM g).1, fun gs h => let ⟨pt, y1, y2, y3⟩ := (hM g).2 gs h; ⟨pt, y1, hm_get hc (s03 _ _ y2) (by nofun), y3⟩⟩
  have A : Acs (Hm H3 (L + 3)) ta acs ns := ⟨hm_get hc (s13 _ _ a10.at_) (by nofun), a10.len, a10.le, fun i a h => let ⟨n, y1, y2, y3⟩ := a10.ac i a h; ⟨n, y1, hm_get hc (s13 _ _ y2) (by nofun), y3⟩⟩
  have X : Ctx (Hm H3 (L + 3)) tb ta xs ⟨sd, sl, ru, x1, x2, i1, cv, ct, .bool true, .none, .none⟩ :=
    ⟨hm_get hc (s3 _ _ b4) (by nofun), hm_get hc (s3 _ _ b5) (by nofun), hm_get hc (s3 _ _ b6) (by nofun), hm_get hc (s13 _ _ a1) (by nofun), hm_get hc (s13 _ _ a2) (by nofun), hm_get hc (s13 _ _ a3) (by nofun), hm_get hc (s13 _ _ a4) (by nofun), hm_get hc (s13 _ _ a5) (by nofun), hm_get hc (s13 _ _ a6) (by nofun), a7, a8⟩
  have n23 : L + 2 ≠ L + 3 := Nat.ne_of_lt (Nat.lt_succ_self _)
  have hrcS : Hm H3 (L + 3) (L + 2) = some (.cell (some (.ref ra))) := by
    unfold Hm; rw [if_neg n23]; exact s03 _ _ hrc
  have hS819 := hm_get hc (s03 _ _ h819) (by nofun)
  have hSsc := hm_get hc (s03 _ _ hsc) (by nofun)
  have lv : Lv (("lookups", .ref lk') :: ("lookups", .ref lk) :: ("rule", .ref ru) :: m) lk' mask flag ca aa pa va := ⟨rfl, e8, e3, e1, e2, e5, e7⟩
  have hMS : ∀ g, (M g = none → dk kv3 g = none) ∧ ∀ gs, M g = some gs → ∃ pt, dk kv3 g = some (.ref pt) ∧ Hm H3 (L + 3) pt = some (.tup (intl gs)) ∧ 1 ≤ gs.length ∧ gs.length ≤ 3 := fun g => ⟨(hM g).1, fun gs h => let ⟨pt, y1, y2, y3⟩ := (hM g).2 gs h; ⟨pt, y1, hm_get hc (s03 _ _ y2) (by nofun), y3⟩⟩
  have hPrs : Prs (Hm H3 (L + 3)) rows := fun p hp => hm_get hc (s03 _ _ (hrows p hp)) (by nofun)
  have hSn : Hm H3 (L + 3) (L + 3) = none := if_pos rfl
  have y1 := hm_get hc (s3 _ _ b2) (by nofun)
  have y2 := hm_get hc (s3 _ _ b3) (by nofun)
  have y3 := hm_get hc (s03 _ _ hra) (by nofun)
  have y4 := hm_get hc (s03 _ _ hca) (by nofun)
  have y5 := hm_get hc (s03 _ _ haa) (by nofun)
  have y6 := hm_get hc (s03 _ _ hpa) (by nofun)
  have y7 := hm_get hc (s03 _ _ hva) (by nofun)
  have hl0 : ([l0, l1, l2, l3] : List Addr)[0]? = some l0 := rfl
  with_reducible refine' ex_body ?e (law13 (hm_sub H3 (L + 3)) hc hSn K hl0 y1 y2 A X hf hl5 lv hmask hrcS y3 hPrs hrm y4 a9 y5 y6 hP y7 hMS ?q)
  case e => exact rfl
  case q => exact fun H' m' s => q H' m' (s _ _ hS819) (s _ _ hSsc)
end
end P36
section P37
local macro_rules
  | `(tactic| walk_at "lyko") => `(tactic| (with_reducible exact ko_tk (by with_reducible assumption) (Dr.sub (by with_reducible assumption))))
section
variable {w : World} {k : Nat} {env : Env} {H : AH} {m : Lc} {Q : Value → AH → Lc → Prop}
theorem it_ktup {value slice : Expr} {a : Addr} {items : List Value} {j : Int} {x : Value} (ho : (KK PW w.params).lookup a = some (Mine.tp items)) (h0 : 0 ≤ j) (hx : items[j.toNat]? = some x) (hj : j < 2 ^ 63) (q : Q (nv x) H m) (ps : PlainSub slice) : IT w k env value slice (.ref a) (.int j 0) Q H m := by
  intro u v e1 e2 A s b E hr hb hf
  rw [nv_ref e1]; obtain ⟨t, rfl⟩ := nv_int e2
  have e := hb.k.keeps hf.keep _ _ ho
  have ht : IsTup s.heap a items.toArray := ⟨_, e, rfl, 0, rfl⟩
  have hl : j.toNat < items.length := (List.getElem?_eq_some_iff.mp hx).1
  exact item_tupleT (j := j.toNat) ht (by omega) hj (seqIndex_of h0 (by omega)) hx ⟨H, m, s.heap, s.toks, rfl, hf, q⟩ (ps _ _)
end
theorem flags_at (w : World) : (KK PW w.params).lookup 817 = some (Mine.tp [(.int 0 1394), (.int 2 1395), (.int 8 1396)]) := by kernel_rfl
theorem flag_of {v : Int} (h0 : 0 ≤ v) (h1 : v < 3) : ∃ x fl, ([(.int 0 1394), (.int 2 1395), (.int 8 1396)] : List Value)[v.toNat]? = some x ∧ nv x = .int fl 0 ∧ (fl = 0 ∨ fl = 2 ∨ fl = 8) := by
  have : v = 0 ∨ v = 1 ∨ v = 2 := by omega
  rcases this with rfl | rfl | rfl
  · exact ⟨_, 0, rfl, rfl, by simp⟩
  · exact ⟨_, 2, rfl, rfl, by simp⟩
  · exact ⟨_, 8, rfl, rfl, by simp⟩
section
variable {w : World} {k : Nat} {S H : AH} {QF : Flow → AH → Lc → Prop} {m : Lc} {f pl : Addr} {ms : List Int} {K : Int} {L : Addr}
theorem law2 (T : Tk S f pl ms) (D : Dr S pl K H) (hK : K < 300) (hc : S (L + 1) = some (.cell (some (.ref f)))) (q : ∀ H' v, 1 ≤ v → v ≤ 3 → Dr S pl (K + 1) H' → QF .next H' (("mask", .int v 0) :: m)) : E1 w (k + 5) (env_841 L) (at_ (fB (st PW 100)) 2) QF H m := by
  have hcH := D.sub _ _ hc
  with_reducible refine' e1_body ?e (x_asn ?_ ?ha ?hs ?hw)
  case e => exact rfl
  case ha => exact rfl
  case hs => exact rfl
  case hw => exact rfl
  walk_at "ly"
  with_reducible refine' k_call (c_draw T D (by omega) (by decide) (by decide) ?_) ?hk
  case hk => exact Nat.le_add_left _ _
  intro v H2 v0 v1 D2 e2 _
  walk_at "ly"
  exact q H2 (1 + v) (by omega) (by omega) D2
theorem law3 (T : Tk S f pl ms) (D : Dr S pl K H) (hK : K < 300) (hc : S (L + 1) = some (.cell (some (.ref f)))) (q : ∀ H' v, v = 0 ∨ v = 2 ∨ v = 8 → Dr S pl (K + 1) H' → QF .next H' (("flag", .int v 0) :: m)) : E1 w (k + 5) (env_841 L) (at_ (fB (st PW 100)) 3) QF H m := by
  have hcH := D.sub _ _ hc
  with_reducible refine' e1_body ?e (x_asn ?_ ?ha ?hs ?hw)
  case e => exact rfl
  case ha => exact rfl
  case hs => exact rfl
  case hw => exact rfl
  walk_at "ly"
  with_reducible refine' k_call (c_draw T D (by omega) (by decide) (by decide) ?_) ?hk
  case hk => exact Nat.le_add_left _ _
  intro v H2 v0 v1 D2 e2 _
  obtain ⟨x, fl, hx, hn, hfl⟩ := flag_of v0 v1
  walk_at "ly"
  with_reducible refine' it_ktup (flags_at w) v0 hx ?hj ?_ ?ps
  case hj => omega
  case ps => intro _ _; exact rfl
  rw [hn]
  walk_at "ly"
  exact q H2 fl hfl D2
theorem law4 (T : Tk S f pl ms) (D : Dr S pl K H) (hK : K < 300) (hc : S (L + 1) = some (.cell (some (.ref f)))) (q : ∀ S' H' C xs, Sub S S' → Dr S' pl (K + 5) H' → S' C = some (.list (intl xs)) → xs.length ≤ 4 → QF .next H' (putF "covered" (.ref C) m)) : E1 w (k + 5) (env_841 L) (at_ (fB (st PW 100)) 4) QF H m := by
  have hcH := D.sub _ _ hc
  with_reducible refine' e1_body ?e (e1_comp ?hsw ?_ ?hy ?hke ?hclos ?hcell ?hkind ?hnames ?hxx ?hs)
  case e => exact rfl
  case hsw => exact rfl
  case hy => exact rfl
  case hke => exact rfl
  case hclos => exact rfl
  case hcell => exact rfl
  case hkind => exact rfl
  case hnames => exact rfl
  case hxx => exact rfl
  case hs => intro _; exact rfl
  walk_at "ly"
  with_reducible refine' k_call (c_draw T D (by omega) (by decide) (by decide) ?_) ?hk
  case hk => exact Nat.le_add_left _ _
  intro v H2 v0 v1 D2 e2 _
  walk_at "ly"
  with_reducible refine' cr_range1 ?_
  intro rg r1 r2 r3 hrg hrgL
  have D3 := D2.new (o := .raw (rngObj 0 (1 + v) r1 r2 r3)) hrg
  refine ⟨.rng 0 (1 + v).toNat, (1 + v).toNat, fun i ys H' => i ≤ (1 + v).toNat ∧ ∃ xs : List Int, Dr S pl (K + 1 + i) H' ∧ ys = intl xs ∧ xs.length = i, .rng (upd_self _ _ _) (by omega) (by omega) (by omega) (by omega) (by omega), ⟨Nat.zero_le _, [], D3.le (by omega), rfl, rfl⟩, ?_⟩
  rintro C hC hCL i ys H' ⟨hi, xs, D4, rfl, hxl⟩
  refine ⟨by simp [intl]; omega, ?_⟩
  by_cases hlt : i < (1 + v).toNat
  · refine ⟨some (.int (0 + i) 0), .rng hlt, (fun e => by cases e), fun x ex => ⟨hlt, ?_⟩⟩
    cases ex
    have hc4 := D4.sub _ _ hc
    with_reducible refine' ct_nil ?_
    walk_at "ly"
    with_reducible refine' k_call (c_draw T D4 (by omega) (by decide) (by decide) ?_) ?hk
    case hk => exact Nat.le_add_left _ _
    intro y H5 y0 y1 D5 e5 _
    walk_at "ly"
    refine ⟨rfl, hlt, xs ++ [1 + y], D5.le (by omega), ?_, by simp [hxl]⟩
    unfold intl; simp
  · have hie : i = (1 + v).toNat := by omega
    refine ⟨none, .rngEnd hie, fun _ => ?_, fun x ex => by cases ex⟩
    intro E hE hEL
    have SE := sub_none D4.sub hE
    exact q _ _ E xs (sub_new Sub.rfl' SE) ((D4.up hE).le (by omega)) (upd_self _ _ _) (by omega)
theorem law5 (T : Tk S f pl ms) (D : Dr S pl K H) (hK : K < 300) (hc : S (L + 1) = some (.cell (some (.ref f)))) (q : ∀ S' H' C xs, Sub S S' → Dr S' pl (K + 4) H' → S' C = some (.list (intl xs)) → xs.length ≤ 3 → (∀ x ∈ xs, 1 ≤ x) → QF .next H' (putF "actions" (.ref C) m)) : E1 w (k + 5) (env_841 L) (at_ (fB (st PW 100)) 5) QF H m := by
  have hcH := D.sub _ _ hc
  with_reducible refine' e1_body ?e (e1_comp ?hsw ?_ ?hy ?hke ?hclos ?hcell ?hkind ?hnames ?hxx ?hs)
  case e => exact rfl
  case hsw => exact rfl
  case hy => exact rfl
  case hke => exact rfl
  case hclos => exact rfl
  case hcell => exact rfl
  case hkind => exact rfl
  case hnames => exact rfl
  case hxx => exact rfl
  case hs => intro _; exact rfl
  walk_at "ly"
  with_reducible refine' k_call (c_draw T D (by omega) (by decide) (by decide) ?_) ?hk
  case hk => exact Nat.le_add_left _ _
  intro v H2 v0 v1 D2 e2 _
  walk_at "ly"
  with_reducible refine' cr_range1 ?_
  intro rg r1 r2 r3 hrg hrgL
  have D3 := D2.new (o := .raw (rngObj 0 v r1 r2 r3)) hrg
  refine ⟨.rng 0 v.toNat, v.toNat, fun i ys H' => i ≤ v.toNat ∧ ∃ xs : List Int, Dr S pl (K + 1 + i) H' ∧ ys = intl xs ∧ xs.length = i ∧ ∀ x ∈ xs, 1 ≤ x, .rng (upd_self _ _ _) (by omega) (by omega) (by omega) (by omega) (by omega), ⟨Nat.zero_le _, [], D3.le (by omega), rfl, rfl, by simp⟩, ?_⟩
  rintro C hC hCL i ys H' ⟨hi, xs, D4, rfl, hxl, hx1⟩
  refine ⟨by simp [intl]; omega, ?_⟩
  by_cases hlt : i < v.toNat
  · refine ⟨some (.int (0 + i) 0), .rng hlt, (fun e => by cases e), fun x ex => ⟨hlt, ?_⟩⟩
    cases ex
    have hc4 := D4.sub _ _ hc
    with_reducible refine' ct_nil ?_
    walk_at "ly"
    with_reducible refine' k_call (c_draw T D4 (by omega) (by decide) (by decide) ?_) ?hk
    case hk => exact Nat.le_add_left _ _
    intro y H5 y0 y1 D5 e5 _
    walk_at "ly"
    refine ⟨rfl, hlt, xs ++ [1 + y], D5.le (by omega), ?_, by simp [hxl], fun x hx => ?_⟩
    · unfold intl; simp
    · rcases List.mem_append.mp hx with hx | hx
      · exact hx1 x hx
      · rw [List.mem_singleton.mp hx]; omega
  · have hie : i = v.toNat := by omega
    refine ⟨none, .rngEnd hie, fun _ => ?_, fun x ex => by cases ex⟩
    intro E hE hEL
    have SE := sub_none D4.sub hE
    exact q _ _ E xs (sub_new Sub.rfl' SE) ((D4.up hE).le (by omega)) (upd_self _ _ _) (by omega) hx1
end
end P37
section P38
local macro_rules
  | `(tactic| walk_at "lyko") => `(tactic| (with_reducible exact ko_tk (by with_reducible assumption) (Dr.sub (by with_reducible assumption))))
section
variable {w : World} {k : Nat} {S H : AH} {QF : Flow → AH → Lc → Prop} {m : Lc} {f pl : Addr} {ms : List Int} {K : Int} {L : Addr}
theorem law6 (T : Tk S f pl ms) (D : Dr S pl K H) (hK : K < 300) (hc : S (L + 1) = some (.cell (some (.ref f)))) (q : ∀ S' H' a kvs, Sub S S' → Dr S' pl (K + 7) H' → S' a = some (.dict kvs) → (∀ p ∈ kvs, ∃ i, p.2 = .int i 0) → QF .next H' (("plain", .ref a) :: m)) : E1 w (k + 5) (env_841 L) (at_ (fB (st PW 100)) 6) QF H m := by
  have hcH := D.sub _ _ hc
  with_reducible refine' e1_body ?e (x_asn ?_ ?ha ?hs ?hw)
  case e => exact rfl
  case ha => exact rfl
  case hs => exact rfl
  case hw => exact rfl
  walk_at "ly"
  with_reducible refine' k_call (c_mapping T D hK ?_) ?hk
  case hk => exact Nat.le_add_left _ _
  intro H2 a kvs D2 h1 h2 h3 h4 h5 h6 _
  walk_at "ly"
  exact q _ H2 a kvs (sub_new Sub.rfl' h2) (D2.know h1 h3) (upd_self _ _ _) h5
theorem law7 (T : Tk S f pl ms) (D : Dr S pl K H) (hK : K < 300) (hc : S (L + 1) = some (.cell (some (.ref f)))) (q : ∀ S' H' a kvs, Sub S S' → Dr S' pl (K + 7) H' → S' a = some (.dict kvs) → (∀ p ∈ kvs, ∃ i, p.2 = .int i 0) → QF .next H' (("reverse", .ref a) :: m)) : E1 w (k + 5) (env_841 L) (at_ (fB (st PW 100)) 7) QF H m := by
  have hcH := D.sub _ _ hc
  with_reducible refine' e1_body ?e (x_asn ?_ ?ha ?hs ?hw)
  case e => exact rfl
  case ha => exact rfl
  case hs => exact rfl
  case hw => exact rfl
  walk_at "ly"
  with_reducible refine' k_call (c_mapping T D hK ?_) ?hk
  case hk => exact Nat.le_add_left _ _
  intro H2 a kvs D2 h1 h2 h3 h4 h5 h6 _
  walk_at "ly"
  exact q _ H2 a kvs (sub_new Sub.rfl' h2) (D2.know h1 h3) (upd_self _ _ _) h5
theorem law8 (T : Tk S f pl ms) (D : Dr S pl K H) (hK : K < 300) (hc : S (L + 1) = some (.cell (some (.ref f)))) (q : ∀ S' H' a kvs, Sub S S' → Dr S' pl (K + 16) H' → S' a = some (.dict kvs) → (∀ p ∈ kvs, ∃ pt gs, p.2 = .ref pt ∧ S' pt = some (.tup (intl gs)) ∧ 1 ≤ gs.length ∧ gs.length ≤ 3) → QF .next H' (("several", .ref a) :: m)) : E1 w (k + 5) (env_841 L) (at_ (fB (st PW 100)) 8) QF H m := by
  have hcH := D.sub _ _ hc
  with_reducible refine' e1_body ?e (x_asn ?_ ?ha ?hs ?hw)
  case e => exact rfl
  case ha => exact rfl
  case hs => exact rfl
  case hw => exact rfl
  walk_at "ly"
  with_reducible refine' k_call (c_mapping_m T D hK ?_) ?hk
  case hk => exact Nat.le_add_left _ _
  intro H2 a kvs S2 s2 D2 h1 h2 h3 h4 h5 h6 _
  walk_at "ly"
  have sn : Sub S2 (upd S2 a (.dict kvs)) := sub_new Sub.rfl' h2
  exact q _ H2 a kvs (fun x o e => sn _ _ (s2 _ _ e)) (D2.know h1 h3) (upd_self _ _ _) fun p hp => let ⟨pt, gs, b1, b2, b3⟩ := h5 p hp; ⟨pt, gs, b1, sn _ _ b2, b3⟩
theorem law9 (T : Tk S f pl ms) (D : Dr S pl K H) (hK : K < 300) (hc : S (L + 1) = some (.cell (some (.ref f)))) (q : ∀ S' H' C f0 f1, Sub S S' → Dr S' pl (K + 2) H' → S' C = some (.list [.int f0 0, .int f1 0]) → QF .next H' (putF "flags" (.ref C) m)) : E1 w (k + 5) (env_841 L) (at_ (fB (st PW 100)) 9) QF H m := by
  have hcH := D.sub _ _ hc
  with_reducible refine' e1_body ?e (e1_comp ?hsw ?_ ?hy ?hke ?hclos ?hcell ?hkind ?hnames ?hxx ?hs)
  case e => exact rfl
  case hsw => exact rfl
  case hy => exact rfl
  case hke => exact rfl
  case hclos => exact rfl
  case hcell => exact rfl
  case hkind => exact rfl
  case hnames => exact rfl
  case hxx => exact rfl
  case hs => intro _; exact rfl
  walk_at "ly"
  with_reducible refine' cr_range1 ?_
  intro rg r1 r2 r3 hrg hrgL
  have D3 := D.new (o := .raw (rngObj 0 2 r1 r2 r3)) hrg
  refine ⟨.rng 0 2, 2, fun i ys H' => i ≤ 2 ∧ ∃ xs : List Int, Dr S pl (K + i) H' ∧ ys = intl xs ∧ xs.length = i, .rng (upd_self _ _ _) (by omega) (by omega) (by omega) (by omega) (by omega), ⟨Nat.zero_le _, [], D3.le (by omega), rfl, rfl⟩, ?_⟩
  rintro C hC hCL i ys H' ⟨hi, xs, D4, rfl, hxl⟩
  refine ⟨by simp [intl]; omega, ?_⟩
  by_cases hlt : i < 2
  · refine ⟨some (.int (0 + i) 0), .rng hlt, (fun e => by cases e), fun x ex => ⟨hlt, ?_⟩⟩
    cases ex
    have hc4 := D4.sub _ _ hc
    with_reducible refine' ct_nil ?_
    walk_at "ly"
    with_reducible refine' k_call (c_draw T D4 (by omega) (by decide) (by decide) ?_) ?hk
    case hk => exact Nat.le_add_left _ _
    intro y H5 y0 y1 D5 e5 _
    obtain ⟨x, fl, hx, hn, hfl⟩ := flag_of y0 y1
    walk_at "ly"
    with_reducible refine' it_ktup (flags_at w) y0 hx ?hj ?_ ?ps
    case hj => omega
    case ps => intro _ _; exact rfl
    rw [hn]
    refine ⟨rfl, hlt, xs ++ [fl], D5.le (by omega), ?_, by simp [hxl]⟩
    unfold intl; simp
  · have hie : i = 2 := by omega
    subst hie
    refine ⟨none, .rngEnd rfl, fun _ => ?_, fun x ex => by cases ex⟩
    intro E hE hEL
    have SE := sub_none D4.sub hE
    obtain ⟨f0, f1, rfl⟩ : ∃ f0 f1, xs = [f0, f1] := by
      match xs, hxl with
      | [a, b], _ => exact ⟨a, b, rfl⟩
    exact q _ _ E f0 f1 (sub_new Sub.rfl' SE) ((D4.up hE).le (by omega)) (upd_self _ _ _)
theorem law1 {u : Option Value} (T : Tk S f pl ms) (D : Dr S pl K H) (hK : K < 300) (hc : S (L + 1) = some (.cell (some (.ref f)))) (h2 : H (L + 2) = some (.cell u)) (s2 : S (L + 2) = none) (n2 : L + 2 ≠ pl)
    (q : ∀ S' H' ra rows, Sub S S' → Dr S' pl (K + 11) H' → S' (L + 2) = some (.cell (some (.ref ra))) → S' ra = some (.list (rows.map fun p => .ref p.1)) → Prs S' rows → rows.length ≤ 5 → (∀ p ∈ rows, 1 ≤ p.2.2 ∧ p.2.2 ≤ 3) → QF .next H' m) : E1 w (k + 5) (env_841 L) (at_ (fB (st PW 100)) 1) QF H m := by
  have hcH := D.sub _ _ hc
  with_reducible refine' e1_body ?e (x_asn ?_ ?ha ?hs ?hw)
  case e => exact rfl
  case ha => exact rfl
  case hs => exact rfl
  case hw => exact rfl
  walk_at "lycomp"
  walk_at "ly"
  with_reducible refine' k_call (c_draw T D (by omega) (by decide) (by decide) ?_) ?hk
  case hk => exact Nat.le_add_left _ _
  intro v H2 v0 v1 D2 e2 _
  have h22 := (e2 _ n2).trans h2
  walk_at "ly"
  with_reducible refine' cr_range1 ?_
  intro rg r1 r2 r3 hrg hrgL
  have D3 := D2.new (o := .raw (rngObj 0 v r1 r2 r3)) hrg
  refine ⟨.rng 0 v.toNat, v.toNat, fun i ys H' => i ≤ v.toNat ∧ ∃ (S' : AH) (rows : List (Addr × (Int × Int))), Sub S S' ∧ Dr S' pl (K + 1 + 2 * i) H' ∧ S' (L + 2) = none ∧ H' (L + 2) = some (.cell u) ∧ ys = rows.map (fun p => .ref p.1) ∧ rows.length = i ∧ Prs S' rows ∧ ∀ p ∈ rows, 1 ≤ p.2.2 ∧ p.2.2 ≤ 3, .rng (upd_self _ _ _) (by omega) (by omega) (by omega) (by omega) (by omega), ⟨Nat.zero_le _, S, [], Sub.rfl', D3.le (by omega), s2, h_fresh hrg h22, rfl, rfl, (fun _ h => (nomatch h)), (fun _ h => (nomatch h))⟩, ?_⟩
  rintro C hC hCL i ys H' ⟨hi, S', rows, sS, D4, s4, h4, rfl, hrl, hrows, hrm⟩
  refine ⟨by simp; omega, ?_⟩
  by_cases hlt : i < v.toNat
  · refine ⟨some (.int (0 + i) 0), .rng hlt, (fun e => by cases e), fun x ex => ⟨hlt, ?_⟩⟩
    cases ex
    have T4 := T.mono sS D4.no
    have hc4 := D4.sub _ _ (sS _ _ hc)
    with_reducible refine' ct_nil ?_
    walk_at "ly"
    with_reducible refine' k_call (c_draw T4 D4 (by omega) (by decide) (by decide) ?_) ?hk
    case hk => exact Nat.le_add_left _ _
    intro y H5 y0 y1 D5 e5 _
    have hc5 := D5.sub _ _ (sS _ _ hc)
    walk_at "ly"
    with_reducible refine' k_call (c_draw T4 D5 (by omega) (by decide) (by decide) ?_) ?hk
    case hk => exact Nat.le_add_left _ _
    intro z H6 z0 z1 D6 e6 _
    walk_at "ly"
    rename_i tt htt httL
    have Stt := sub_none D6.sub htt
    have sn : Sub S' (upd S' tt (.tup [.int (1 + y) 0, .int (1 + z) 0])) := sub_new Sub.rfl' Stt
    have h6 := (e6 _ n2).trans ((e5 _ n2).trans h4)
    have n2t : L + 2 ≠ tt := fun z => by rw [← z, h6] at htt; cases htt
    refine ⟨rfl, hlt, _, rows ++ [(tt, (1 + y, 1 + z))], fun a o e => sn _ _ (sS _ _ e), (D6.up htt).le (by omega), by rw [upd_ne _ _ n2t]; exact s4, h_fresh htt h6, by simp, by simp [hrl], fun p hp => ?_, fun p hp => ?_⟩
    · rcases List.mem_append.mp hp with hp | hp
      · exact sn _ _ (hrows p hp)
      · rw [List.mem_singleton.mp hp]; exact upd_self _ _ _
    · rcases List.mem_append.mp hp with hp | hp
      · exact hrm p hp
      · rw [List.mem_singleton.mp hp]; exact ⟨by show 1 ≤ 1 + z; omega, by show 1 + z ≤ 3; omega⟩
  · have hie : i = v.toNat := by omega
    refine ⟨none, .rngEnd hie, fun _ => ?_, fun x ex => by cases ex⟩
    intro E hE hEL
    have SE := sub_none D4.sub hE
    have D5 := D4.up (o := .list (rows.map fun p => .ref p.1)) hE
    have n2E : L + 2 ≠ E := fun z => by rw [← z, h4] at hE; cases hE
    have h5 : upd H' E (.list (rows.map fun p => .ref p.1)) (L + 2) = some (.cell u) := h_fresh hE h4
    have s5 : upd S' E (.list (rows.map fun p => .ref p.1)) (L + 2) = none := by rw [upd_ne _ _ n2E]; exact s4
    have sn : Sub S' (upd S' E (.list (rows.map fun p => .ref p.1))) := sub_new Sub.rfl' SE
    have D6 := D5.set (o := .cell (some (.ref E))) s5 n2
    have sn2 : Sub (upd S' E (.list (rows.map fun p => .ref p.1))) (upd (upd S' E (.list (rows.map fun p => .ref p.1))) (L + 2) (.cell (some (.ref E)))) := sub_new Sub.rfl' s5
    walk_at "ly"
    exact q _ _ E rows (fun a o e => sn2 _ _ (sn _ _ (sS _ _ e))) (D6.le (by omega)) (upd_self _ _ _) (sn2 _ _ (upd_self _ _ _)) (fun p hp => sn2 _ _ (sn _ _ (hrows p hp))) (by omega) hrm
end
end P38
section P39
theorem plain_fn {kvs : List (Int × Value)} (h : ∀ p ∈ kvs, ∃ i, p.2 = .int i 0) : ∃ P : Int → Option Int, ∀ g, dk kvs g = (P g).map fun i => .int i 0 := by
  refine Classical.axiomOfChoice (r := fun g (r : Option Int) => dk kvs g = r.map fun i => .int i 0) fun g => ?_
  unfold dk
  cases e : kvs.find? fun p => p.1 == g with
  | none => exact ⟨none, rfl⟩
  | some p =>
    obtain ⟨i, hi⟩ := h p (List.mem_of_find?_eq_some e)
    exact ⟨some i, by rw [Option.map_some, hi]; rfl⟩
theorem multi_fn {S : AH} {kvs : List (Int × Value)} (h : ∀ p ∈ kvs, ∃ pt gs, p.2 = .ref pt ∧ S pt = some (.tup (intl gs)) ∧ 1 ≤ gs.length ∧ gs.length ≤ 3) : ∃ M : Int → Option (List Int), ∀ g, (M g = none → dk kvs g = none) ∧ ∀ gs, M g = some gs → ∃ pt, dk kvs g = some (.ref pt) ∧ S pt = some (.tup (intl gs)) ∧ 1 ≤ gs.length ∧ gs.length ≤ 3 := by
  refine Classical.axiomOfChoice (r := fun g (r : Option (List Int)) => (r = none → dk kvs g = none) ∧ ∀ gs, r = some gs → ∃ pt, dk kvs g = some (.ref pt) ∧ S pt = some (.tup (intl gs)) ∧ 1 ≤ gs.length ∧ gs.length ≤ 3) fun g => ?_
  unfold dk
  cases e : kvs.find? fun p => p.1 == g with
  | none => exact ⟨none, fun _ => rfl, fun gs h => by cases h⟩
  | some p =>
    obtain ⟨pt, gs, h1, h2⟩ := h p (List.mem_of_find?_eq_some e)
    exact ⟨some gs, fun h => (by cases h), fun gs' h => by cases h; exact ⟨pt, by rw [Option.map_some, h1], h2⟩⟩
section
variable {w : World} {k : Nat} {S H : AH} {QF : Flow → AH → Lc → Prop} {m : Lc} {f pl : Addr} {ms : List Int} {K : Int} {L : Addr} {ps : Array Value} {sc : Addr} {so : Obj}
theorem law1_ {u u' : Option Value} {sv : Value} (T : Tk S f pl ms) (D : Dr S pl 0 H) (hc : S (L + 1) = some (.cell (some (.ref f)))) (h2 : H (L + 2) = some (.cell u)) (s2 : S (L + 2) = none) (n2 : L + 2 ≠ pl) (h3 : S (L + 3) = some (.cell u')) (h819 : S 819 = some (.raw (tabObj ps))) (hsc : S sc = some (.raw so))
    (q : ∀ H' m, H' 819 = some (.raw (tabObj ps)) → H' sc = some (.raw so) → QF (.ret (.bool true)) H' m) : EX w (k + 14) (env_841 L) ((fB (st PW 100)).drop 1) QF H [("script", sv)] := by
  walk_at "lyb"
  with_reducible refine' e1_body ?e (law1 (k := k + 9) T D (by decide) hc h2 s2 n2 ?_)
  case e => exact rfl
  intro S1 H1 ra rows s1 D1 hrc hra hrows hl5 hrm
  with_reducible refine' nx_next ?_
  with_reducible refine' ex_cons ?_
  with_reducible refine' e1_body ?e (law2 (k := k + 9) (T.mono s1 D1.no) D1 (by decide) (h_sub s1 hc) ?_)
  case e => exact rfl
  intro H2 mask b1 b2 D2
  with_reducible refine' nx_next ?_
  with_reducible refine' ex_cons ?_
  with_reducible refine' e1_body ?e (law3 (k := k + 9) (T.mono s1 D2.no) D2 (by decide) (h_sub s1 hc) ?_)
  case e => exact rfl
  intro H3 flag hf D3
  with_reducible refine' nx_next ?_
  with_reducible refine' ex_cons ?_
  with_reducible refine' e1_body ?e (law4 (k := k + 9) (T.mono s1 D3.no) D3 (by decide) (h_sub s1 hc) ?_)
  case e => exact rfl
  intro S4 H4 ca cov s4 D4 hca hcl
  have t4 : Sub S S4 := fun a o e => s4 _ _ (s1 _ _ e)
  with_reducible refine' nx_next ?_
  with_reducible refine' ex_cons ?_
  with_reducible refine' e1_body ?e (law5 (k := k + 9) (T.mono t4 D4.no) D4 (by decide) (h_sub t4 hc) ?_)
  case e => exact rfl
  intro S5 H5 aa ns s5 D5 haa hnl hn1
  have t5 : Sub S S5 := fun a o e => s5 _ _ (t4 _ _ e)
  with_reducible refine' nx_next ?_
  with_reducible refine' ex_cons ?_
  with_reducible refine' e1_body ?e (law6 (k := k + 9) (T.mono t5 D5.no) D5 (by decide) (h_sub t5 hc) ?_)
  case e => exact rfl
  intro S6 H6 pa kv1 s6 D6 hpa hk1
  have t6 : Sub S S6 := fun a o e => s6 _ _ (t5 _ _ e)
  with_reducible refine' nx_next ?_
  with_reducible refine' ex_cons ?_
  with_reducible refine' e1_body ?e (law7 (k := k + 9) (T.mono t6 D6.no) D6 (by decide) (h_sub t6 hc) ?_)
  case e => exact rfl
  intro S7 H7 rv kv2 s7 D7 hrv _
  have t7 : Sub S S7 := fun a o e => s7 _ _ (t6 _ _ e)
  with_reducible refine' nx_next ?_
  with_reducible refine' ex_cons ?_
  with_reducible refine' e1_body ?e (law8 (k := k + 9) (T.mono t7 D7.no) D7 (by decide) (h_sub t7 hc) ?_)
  case e => exact rfl
  intro S8 H8 va kv3 s8 D8 hva hk3
  have t8 : Sub S S8 := fun a o e => s8 _ _ (t7 _ _ e)
  with_reducible refine' nx_next ?_
  with_reducible refine' ex_cons ?_
  with_reducible refine' e1_body ?e (law9 (k := k + 9) (T.mono t8 D8.no) D8 (by decide) (h_sub t8 hc) ?_)
  case e => exact rfl
  intro S9 H9 fl f0 f1 s9 D9 hfl
  have t9 : Sub S S9 := fun a o e => s9 _ _ (t8 _ _ e)
  have x9 : Sub S H9 := fun a o e => D9.sub _ _ (t9 _ _ e)
  have x8 : Sub S8 H9 := fun a o e => D9.sub _ _ (s9 _ _ e)
  have x6 : Sub S6 H9 := fun a o e => x8 _ _ (s8 _ _ (s7 _ _ e))
  have x5 : Sub S5 H9 := fun a o e => x6 _ _ (s6 _ _ e)
  have x4 : Sub S4 H9 := fun a o e => x5 _ _ (s5 _ _ e)
  have x1 : Sub S1 H9 := fun a o e => x4 _ _ (s4 _ _ e)
  obtain ⟨P, hP⟩ := plain_fn hk1
  obtain ⟨M, hM⟩ := multi_fn hk3
  have hM9 : ∀ g, (M g = none → dk kv3 g = none) ∧ ∀ gs, M g = some gs → ∃ pt, dk kv3 g = some (.ref pt) ∧ H9 pt = some (.tup (intl gs)) ∧ 1 ≤ gs.length ∧ gs.length ≤ 3 := fun g => ⟨(hM g).1, fun gs h => let ⟨pt, y1, y2, y3⟩ := (hM g).2 gs h; ⟨pt, y1, x8 _ _ y2, y3⟩⟩
  have hfl9 := D9.sub _ _ hfl
  with_reducible refine' nx_next ?_
  with_reducible refine' ex_body ?e (law10_ (h_sub x9 h819) (h_sub x9 hsc) (h_sub x1 hrc) (h_sub x9 h3) (h_sub x1 hra) (hrows.mono x1) hl5 hrm (h_sub x4 hca) hcl (h_sub x5 haa) hnl hn1 (h_sub x6 hpa) hP (h_sub x8 hva) hM9 hfl9 hf ⟨b1, b2⟩ ?k1 ?k2 ?k3 ?k4 ?k5 ?k6 ?k7 ?k8 q)
  case e => exact rfl
  case k1 => exact rfl
  case k2 => exact rfl
  case k3 => exact rfl
  case k4 => exact rfl
  case k5 => exact rfl
  case k6 => exact rfl
  case k7 => exact rfl
  case k8 => exact rfl
theorem tk_of {H' : AH} {c1 c2 : Addr} (T : Tk (fun a => if a = pl then none else H' a) f pl ms) (h1 : H' c1 = some (.cell none)) (h2 : H' c2 = some (.cell none)) : Tk (fun a => if a = pl ∨ a = c1 ∨ a = c2 then none else H' a) f pl ms := by
  obtain ⟨⟨c', oc, vs, t, doc, pm, ctv, cc, pc, cl, g1, g2, g3, g4, g5, g6, g7⟩, a, b, c⟩ := T
  have key : ∀ x o, (if x = pl then none else H' x) = some o → o ≠ .cell none → (if x = pl ∨ x = c1 ∨ x = c2 then none else H' x) = some o := fun x o e n => by
    split at e
    · cases e
    · rename_i hx
      rw [if_neg]
      · exact e
      · rintro (z | z | z)
        · exact hx z
        · rw [z, h1] at e; exact n (Option.some.inj e).symm
        · rw [z, h2] at e; exact n (Option.some.inj e).symm
  exact ⟨⟨c', oc, vs, t, doc, pm, ctv, cc, pc, cl, key _ _ g1 (by nofun), key _ _ g2 (by nofun), g3, g4, key _ _ g5 (by nofun), key _ _ g6 (by nofun), key _ _ g7 (by nofun)⟩, a, b, if_pos (.inl rfl)⟩
theorem c_law {ns : List Int} {vs : Array Value} {Q : Value → AH → Prop} (h819 : H 819 = some (.raw (tabObj #[]))) (hs : H sc = some (.raw so)) (hsc : so.cls = .type "list") (hsd : ∃ n, so.data = .seq vs n) (hsv : vs.toList.map nv = intl ns) (hl : ns.length ≤ 63) (q : ∀ H' ps, H' 819 = some (.raw (tabObj ps)) → H' sc = some (.raw so) → Q (.bool true) H') : TC w (k + 15) (.ref 841) [.ref sc] Q H := by
  with_reducible refine' TC.drop (fn_841 ?_); intro L hL
  have hL1 : H (L + 1) = none := hL 1
  have hL2 : upd H (L + 1) (.cell none) (L + 2) = none := by rw [upd_ne _ _ (Nat.ne_of_gt (Nat.lt_succ_self _))]; exact hL 2
  have hL3 : upd (upd H (L + 1) (.cell none)) (L + 2) (.cell none) (L + 3) = none := by rw [upd_ne _ _ (Nat.ne_of_gt (Nat.lt_succ_self _)), upd_ne _ _ (Nat.ne_of_gt (Nat.lt_succ_of_lt (Nat.lt_succ_self _)))]; exact hL 3
  have z3 := upd_self (upd (upd H (L + 1) (.cell none)) (L + 2) (.cell none)) (L + 3) (.cell none)
  have z2 := h_fresh (o' := .cell none) hL3 (upd_self (upd H (L + 1) (.cell none)) (L + 2) (.cell none))
  have z1 := h_fresh (o' := .cell none) hL3 (h_fresh (o' := .cell none) hL2 (upd_self H (L + 1) (.cell none)))
  have z0 : Sub H (upd (upd (upd H (L + 1) (.cell none)) (L + 2) (.cell none)) (L + 3) (.cell none)) := sub_new (sub_new (sub_new Sub.rfl' hL1) hL2) hL3
  generalize upd (upd (upd H (L + 1) (.cell none)) (L + 2) (.cell none)) (L + 3) (.cell none) = H0 at z0 z1 z2 z3 ⊢
  walk_at "lyb"
  walk_at "ly"
  with_reducible refine' k_call (c_taker (h_sub z0 h819) (h_sub z0 hs) hsc hsd hsv hl ?_) ?hk
  case hk => exact Nat.le_add_left _ _
  intro H1 f pl ms ps kp hps T hpl hn _
  have np1 : L + 1 ≠ pl := fun z => by rw [← z, z1] at hn; cases hn
  have np2 : L + 2 ≠ pl := fun z => by rw [← z, z2] at hn; cases hn
  have np3 : L + 3 ≠ pl := fun z => by rw [← z, z3] at hn; cases hn
  have n819 : ∀ c, H0 c = some (.cell none) → c ≠ 819 := fun c e z => by
    have := h_sub z0 h819
    rw [← z, e] at this; cases this
  have y1 := kp _ _ (n819 _ z1) z1
  have y2 := kp _ _ (n819 _ z2) z2
  have y3 := kp _ _ (n819 _ z3) z3
  have T1 := tk_of T y1 y2
  have n12 : L + 1 ≠ L + 2 := Nat.ne_of_lt (Nat.lt_succ_self _)
  have n13 : L + 3 ≠ L + 1 := Nat.ne_of_gt (Nat.lt_succ_of_lt (Nat.lt_succ_self _))
  have n23 : L + 3 ≠ L + 2 := Nat.ne_of_gt (Nat.lt_succ_self _)
  have D1 : Dr (fun a => if a = pl ∨ a = L + 1 ∨ a = L + 2 then none else H1 a) pl 0 H1 := by
    refine ⟨fun a o e => ?_, if_pos (.inl rfl), 0, by decide, by decide, hpl⟩
    have e' : (if a = pl ∨ a = L + 1 ∨ a = L + 2 then none else H1 a) = some o := e
    split at e'
    · cases e'
    · exact e'
  have s1n : (fun a => if a = pl ∨ a = L + 1 ∨ a = L + 2 then none else H1 a : AH) (L + 1) = none := if_pos (.inr (.inl rfl))
  have s2n : (fun a => if a = pl ∨ a = L + 1 ∨ a = L + 2 then none else H1 a : AH) (L + 2) = none := if_pos (.inr (.inr rfl))
  have s3n : (fun a => if a = pl ∨ a = L + 1 ∨ a = L + 2 then none else H1 a : AH) (L + 3) = some (.cell none) := by
    dsimp only
    rw [if_neg]
    · exact y3
    · rintro (z | z | z)
      · exact np3 z
      · exact n13 z
      · exact n23 z
  have s8 : (fun a => if a = pl ∨ a = L + 1 ∨ a = L + 2 then none else H1 a : AH) 819 = some (.raw (tabObj ps)) := by
    dsimp only
    rw [if_neg]
    · exact hps
    · rintro (z | z | z)
      · rw [← z, hps] at hpl; cases hpl
      · rw [z, y1] at hps; cases hps
      · rw [z, y2] at hps; cases hps
  have nsc : sc ≠ 819 := fun z => by
    rw [z, h819] at hs
    injection hs with hs; injection hs with hs
    rw [← hs] at hsc; cases hsc
  have hs1 := kp _ _ nsc (z0 _ _ hs)
  have s9 : (fun a => if a = pl ∨ a = L + 1 ∨ a = L + 2 then none else H1 a : AH) sc = some (.raw so) := by
    dsimp only
    rw [if_neg]
    · exact hs1
    · rintro (z | z | z)
      · rw [← z, hs1] at hpl; cases hpl
      · rw [z, y1] at hs1; cases hs1
      · rw [z, y2] at hs1; cases hs1
  have D2 := D1.set (o := .cell (some (.ref f))) s1n np1
  have sn : Sub (fun a => if a = pl ∨ a = L + 1 ∨ a = L + 2 then none else H1 a) (upd (fun a => if a = pl ∨ a = L + 1 ∨ a = L + 2 then none else H1 a) (L + 1) (.cell (some (.ref f)))) := sub_new Sub.rfl' s1n
  with_reducible refine' a_cell ?hl ?hc ?hv ?_ ?hk
  case hl => exact rfl
  case hc => exact rfl
  case hv => exact y1
  case hk => exact rfl
  with_reducible refine' nx_next ?_
  with_reducible refine' ex_body ?eb (law1_ (T1.mono sn D2.no) D2 (upd_self _ _ _) (h_old (Ne.symm n12) y2) ?s2 np2 (h_sub sn s3n) (h_sub sn s8) (h_sub sn s9) ?q)
  case eb => exact rfl
  case s2 => rw [upd_ne _ _ (Ne.symm n12)]; exact s2n
  case q => exact fun H' m h h2 => ⟨H', Sub.rfl', dq0 (q H' ps h h2)⟩
end
end P39
section P40
theorem rw_hw : Mine.RW.toRowW.promised := ⟨[.list []], by decide +kernel, by decide +kernel⟩
theorem rw_def : ∃ d kwd, defOf (vw PW) Mine.RW.name = some (d, kwd) ∧ Mine.RW.prog.theDef Mine.RW.name = some (d.params, d.body, d.scope) ∧ kwWritten? d.params.kwonlyargs d.params.kw_defaults = some kwd ∧ d.name = "law" := ⟨_, _, rfl, rfl, rfl, rfl⟩
theorem k_notabs (P : Params) : noTabs (KK PW P) = true := by kernel_rfl
noncomputable def noLists (K : Frag) : Bool := K.all fun p => match p.2.cls with
  | .type x => x != "list"
  | _ => true
theorem k_nolists (P : Params) : noLists (KK PW P) = true := by kernel_rfl
theorem gl_law (P : Params) : nsIn (KK PW P) mainGlobals "law" = some (some (.ref 841)) := by kernel_rfl
theorem tab_in (P : Params) : tabIn (KK PW P) "_law_taker" = some (823, 819) := by kernel_rfl
theorem taker_rec : ∃ d, (recsOf (vw PW)).find? (fun e => e.name == ("_law_taker" : Str)) = some d := ⟨_, rfl⟩
section
variable {w : World} {h : Heap} {sc : Addr} {so : Obj} {vs : Array Value} {n : Nat}
theorem ns_hide (h8 : h.get? 819 = some (tabObj #[])) (hs : h.get? sc = some so) (hd : so.data = .seq vs n) {a : Addr} {m : Str → Option Value} (x : h.Ns a m) : (hideAll h [819, sc]).Ns a m := by
  obtain ⟨o, es, ep, e, hd', r⟩ := x
  refine ⟨o, es, ep, hideAll_get _ e fun q => ?_, hd', r⟩
  simp only [List.mem_cons, List.not_mem_nil, or_false] at q
  rcases q with rfl | rfl
  · rw [h8] at e; cases e; cases hd'
  · rw [hs] at e; cases e; rw [hd] at hd'; cases hd'
theorem k_hide (X : (KK PW w.params).In h) (h8 : h.get? 819 = some (tabObj #[])) (hs : h.get? sc = some so) (hc : so.cls = .type "list") : (KK PW w.params).In (hideAll h [819, sc]) := fun a o e => by
  refine hideAll_get _ (X a o e) fun q => ?_
  simp only [List.mem_cons, List.not_mem_nil, or_false] at q
  rcases q with rfl | rfl
  · have e2 := X _ _ e
    rw [h8] at e2
    have h2 := List.all_eq_true.mp (k_notabs w.params) (819, o) (mem_of_lookupK e)
    cases e2
    exact absurd (show false = true from h2) Bool.false_ne_true
  · have e2 := X _ _ e
    rw [hs] at e2
    have h2 := List.all_eq_true.mp (k_nolists w.params) (a, o) (mem_of_lookupK e)
    cases e2
    dsimp only at h2
    rw [hc] at h2
    exact absurd (show false = true from h2) Bool.false_ne_true
end
theorem walk (d : DefRec) (kwd : List (Str × Expr)) (hdef : defOf (vw PW) Mine.RW.name = some (d, kwd)) (hname : d.name = "law") : WalkO (vw PW) [] (XL (vw PW) []) (fun w h => (KK PW w.params).In h) Mine.RW.toRowW d kwd fun f vs => PySem.call f vs := by
  intro w s₀ s₁ mg mb G Y fa o pm cd doc dV kV ho hd hcd hD hmg hg args vals as hpre hlay hrd hwl hlo
  have X : (KK PW w.params).In s₁.heap := Y
  refine Ground.open G ?_
  intro T B D TE TW
  wrow_args hpre hlay hrd hwl hlo
  rename_i ns _ _ _ _ _ _ _ sc vs _ hL _ _ _ hI _ hlen _
  obtain ⟨dt, hdt⟩ := taker_rec
  have h89 := tab_of T X hdt (tab_in w.params)
  have hT : TabsAt [(823, 819)] s₁.heap := List.forall_mem_cons.mpr ⟨h89, fun _ hq => (nomatch hq)⟩
  have h8 := h89.2
  obtain ⟨so, hso, hsoc, nso, hsod⟩ := hL
  have hfa : fa = 841 := by
    have := mg_of X T.g (gl_law w.params)
    rw [hname, this] at hmg
    injection hmg with hmg; injection hmg with hmg
    exact hmg.symm
  subst hfa
  refine enter_call ?_
  refine kn_post hT (fun _ _ => rfl) ?_
  have hbase : Base w (hideAll s₁.heap [819, sc]) := ⟨k_hide X h8 hso hsoc, ⟨mg, ns_hide h8 hso hsod T.g⟩, ⟨mb, ns_hide h8 hso hsod T.b, T.builtins⟩, let ⟨mc, a, r⟩ := T.nolimit; ⟨mc, ns_hide h8 hso hsod a, r⟩⟩
  have nsc : sc ≠ 819 := fun z => by rw [z, h8] at hso; cases hso; cases hsoc
  have hRl : Rl w (hideAll s₁.heap [819, sc]) (fun x => if x = 819 then some (.raw (tabObj #[])) else if x = sc then some (.raw so) else none) s₁.heap := by
    have key : ∀ a o, (if a = 819 then some (O.raw (tabObj #[])) else if a = sc then some (.raw so) else none) = some o → (a = 819 ∧ o = .raw (tabObj #[])) ∨ (a = sc ∧ o = .raw so) := fun a o e => by
      split at e
      · rename_i z; cases e; exact .inl ⟨z, rfl⟩
      · split at e
        · rename_i z; cases e; exact .inr ⟨z, rfl⟩
        · cases e
    refine ⟨fun _ => 0, fun c o e => of_hideAll _ e, fun a o e => hideAll_none _ ?_, fun a o e => ?_, fun a C fs e => ?_, fun a C fs e => ?_, fun a a' C fs C' fs' e e' => ?_⟩
    · rcases key a o e with ⟨z, _⟩ | ⟨z, _⟩ <;> simp [z]
    · rcases key a o e with ⟨rfl, rfl⟩ | ⟨rfl, rfl⟩
      · exact h8
      · exact hso
    · rcases key a _ e with ⟨_, z⟩ | ⟨_, z⟩ <;> cases z
    · rcases key a _ e with ⟨_, z⟩ | ⟨_, z⟩ <;> cases z
    · rcases key a _ e with ⟨_, z⟩ | ⟨_, z⟩ <;> cases z
  have L := c_law (w := w) (k := 0) (H := fun x => if x = 819 then some (.raw (tabObj #[])) else if x = sc then some (.raw so) else none) (sc := sc) (so := so) (ns := ns) (vs := vs.toArray) (Q := fun v H' => v = .bool true ∧ (∃ ps, H' 819 = some (.raw (tabObj ps))) ∧ H' sc = some (.raw so))
    (if_pos rfl) ((if_neg nsc).trans (if_pos rfl)) hsoc ⟨nso, hsod⟩ (by rw [List.toList_toArray]; exact are_ints hI) (by omega) fun H' ps h1 h2 => ⟨rfl, ⟨ps, h1⟩, h2⟩
  have hpost : Mine.RW.claim.post [ofPy (PyData.list (List.map PyData.int ns))] (WData.bool true) [ofPy (PyData.list (List.map PyData.int ns))] = true := by wrow_post
  refine L callerA s₁ _ _ [.ref sc] ⟨rfl, by decide, by decide⟩ hbase hRl rfl fun v s' dn => ?_
  obtain ⟨H', h', t', rfl, ⟨dx, R'⟩, ev, ⟨ps, hps⟩, hsc⟩ := dn
  have ev' := nv_bool ev
  subst ev'
  have c8 : h'.get? 819 = some (tabObj ps) := R'.cell _ _ hps
  have csc : h'.get? sc = some so := R'.cell _ _ hsc
  refine ⟨⟨.inl ⟨.bool true, .bool true, [], rfl, fun _ => rfl, .bool true, hpost, fun _ => ⟨.nil, fun a ha => (nomatch ha)⟩⟩, fun x o e => ?_, rfl, hg⟩, ⟨ps, c8⟩, True.intro⟩
  have e1 : (hideAll s₁.heap [819]).get? x = some o := e
  have e2 := of_hideAll _ e1
  have nx : x ≠ 819 := fun z => by
    rw [z, hideAll_none _ (by simp)] at e1; cases e1
  by_cases z : x = sc
  · rw [z] at e2 ⊢
    rw [hso] at e2; cases e2
    exact csc
  · exact R'.keep x o (hideAll_get _ e2 (by simp [nx, z]))
theorem row_holds : PySem.Challenge.rw_nu0202_01.row.Holds := by
  obtain ⟨d, kwd, h1, h2, h3, h4⟩ := rw_def
  exact Mine.head d kwd h1 h2 h3 Mine.a9 rw_hw (walk d kwd h1 h4)
end P40
end Ly
theorem PySem.Challenge.cw_nu0202_01_holds : PySem.Challenge.rw_nu0202_01.Holds :=
  Mine.law Ly.row_holds
